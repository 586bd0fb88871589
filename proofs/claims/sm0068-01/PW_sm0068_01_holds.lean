import PyProof.Rows.All
import Wide.All
import OpenK.AllK
import Wide.FinOn
import KE.KBytesCut
import KE.KSliceW
import Lean
import PySem.Challenge.RW_sm0068_01
set_option Elab.async false
section
open PySem PySem.W PySem.Calls PyProof.Rows
set_option maxRecDepth 100000
set_option linter.unusedVariables false
set_option maxHeartbeats 4000000
namespace Mine
noncomputable abbrev pw : Program := PySem.Challenge.pw_sm0068_01
noncomputable abbrev kv (P : Params) (x : String) (t : Nat) (v : Value) : DictEntry := ⟨PyData.keyHash P (Str.ofString x), .str (Str.ofString x) t, v⟩
noncomputable def sT (k : Nat) : Stmt := (pw.main.body.drop k).headD (.Pass default)
noncomputable def sC (k j : Nat) : Stmt := match sT k with
  | .ClassDef _ _ _ b _ _ _ _ _ _ _ => (b.drop j).headD (.Pass default)
  | st => st
noncomputable def fA : Stmt → Arguments
  | .FunctionDef _ a _ _ _ _ _ _ _ _ => a
  | _ => ⟨[], [], none, [], [], none, []⟩
noncomputable def fB : Stmt → FuncBody
  | .FunctionDef _ _ b _ _ _ _ _ _ _ => .stmts b
  | _ => .stmts []
noncomputable def fS : Stmt → Scope
  | .FunctionDef _ _ _ _ _ _ sc _ _ _ => sc
  | _ => pw.main.scope
noncomputable abbrev fo (st : Stmt) (name qual : Str) (globals : Addr) (dflt pm code : Value) : FuncData :=
  { name := name, qualname := qual, params := fA st, body := fB st, scope := fS st, globals := globals, closure := [], defaults := dflt, kwdefaults := .none, doc := .none, pyModule := pm, annotations := none, code := code, closureTuple := .none, builtins := 0 }
noncomputable abbrev sx (x : String) : Str := Str.ofString x
noncomputable abbrev nd (o : Obj) (l r : BT) : BT := .node o l r
noncomputable abbrev nl : BT := .nil
noncomputable abbrev vS (x : String) (t : Nat) : Value := .str (Str.ofString x) t
noncomputable abbrev oTu (x : Array Value) : Obj := ⟨.type "tuple", none, .seq x 0, #[]⟩
noncomputable abbrev oFn (x : FuncData) : Obj := ⟨.type "function", none, .func x, #[]⟩
noncomputable abbrev oNo (x : Array Value) : Obj := ⟨.none, none, .fields x, #[]⟩
noncomputable abbrev oNf (x : FuncData) : Obj := ⟨.none, none, .func x, #[]⟩
noncomputable abbrev oCo (x : Array Value) : Obj := ⟨.type "code", none, .fields x, #[]⟩
noncomputable def a11 (_ : Params) : Obj := oTu #[]
noncomputable def a12 (_ : Params) : Obj := oNo #[]
noncomputable def a13 (_ : Params) : Obj := oCo #[(vS "<module>" 182), (vS "<module>" 183), (vS "/claim/cut.py" 184), (.int 1 0), (.int 0 0), (.int 0 0), (.int 0 0), (.int 0 0), (.ref 11), (.bool false), (.int 181 0), (.ref 12), .none, .none, .none, .none, (.int 185 0), (.int 1 0), (vS "/claim/cut.py" 186)]
noncomputable def a14 (_ : Params) : Obj := ⟨(.type "frame"), none, .plain, #[(some (.ref 13)), (some (.ref 3)), (some (.ref 3)), none, (some (vS "__main__" 164)), none, (some (.ref 0))]⟩
noncomputable def tr0 (P : Params) : BT := (nd (boot_o_0 P) (nd (boot_o_1 P) (nd (boot_o_3 P) (nd (boot_o_7 P) nl nl) (nd (a11 P) nl nl)) (nd (boot_o_5 P) (nd (boot_o_9 P) nl nl) (nd (a13 P) nl nl))) (nd (boot_o_2 P) (nd (boot_o_4 P) (nd (boot_o_8 P) nl nl) (nd (a12 P) nl nl)) (nd (boot_o_6 P) (nd (boot_o_10 P) nl nl) (nd (a14 P) nl nl))))
noncomputable def a3 (P : Params) : Obj := ⟨(.type "dict"), none, (.dict #[kv P "__name__" 165 (vS "lua.values" 194), kv P "__doc__" 166 .none, kv P "__package__" 167 .none, kv P "__loader__" 168 (.builtin "__main__.__loader__#opaque"), kv P "__spec__" 169 .none, kv P "__annotations__" 170 (.ref 6), kv P "__builtins__" 171 (.ref 4), kv P "__file__" 173 (vS "/claim/cut.py" 172), kv P "__cached__" 174 .none, kv P "_wall" 193 (.ref 21), kv P "BLANKS" 197 (.bytes #[32, 9, 10, 11, 12, 13] 196)] 11), #[]⟩
noncomputable def a12_1 (_ : Params) : Obj := oNo #[(.int 1 0), (.int 0 0), (.ref 20)]
noncomputable def a15 (_ : Params) : Obj := oTu #[]
noncomputable def a16 (_ : Params) : Obj := oNo #[]
noncomputable def a17 (_ : Params) : Obj := oTu #[(vS "k" 190)]
noncomputable def a18 (_ : Params) : Obj := oTu #[]
noncomputable def fd19 : FuncData := fo (sT 0) (sx "_wall") (sx "_wall") 0 .none .none .none
noncomputable def a19 (_ : Params) : Obj := oNf fd19
noncomputable def a20 (_ : Params) : Obj := oCo #[(vS "_wall" 187), (vS "_wall" 188), (vS "/claim/cut.py" 189), (.int 1 0), (.int 1 0), (.int 0 0), (.int 0 0), (.int 3 0), (.ref 15), (.bool true), (.int 181 0), (.ref 16), .none, (.ref 17), (.ref 18), (.ref 19), (.int 191 0), (.int 1 0), (vS "/claim/cut.py" 192)]
noncomputable def fd21 : FuncData := fo (sT 0) (sx "_wall") (sx "_wall") 3 .none (vS "__main__" 164) (.ref 20)
noncomputable def a21 (_ : Params) : Obj := oFn fd21
noncomputable def tr1 (P : Params) : BT := (nd (boot_o_0 P) (nd (boot_o_1 P) (nd (a3 P) (nd (boot_o_7 P) (nd (a15 P) nl nl) nl) (nd (a11 P) (nd (a19 P) nl nl) nl)) (nd (boot_o_5 P) (nd (boot_o_9 P) (nd (a17 P) nl nl) nl) (nd (a13 P) (nd (a21 P) nl nl) nl))) (nd (boot_o_2 P) (nd (boot_o_4 P) (nd (boot_o_8 P) (nd (a16 P) nl nl) nl) (nd (a12_1 P) (nd (a20 P) nl nl) nl)) (nd (boot_o_6 P) (nd (boot_o_10 P) (nd (a18 P) nl nl) nl) (nd (a14 P) nl nl))))
noncomputable def a3_1 (P : Params) : Obj := ⟨(.type "dict"), none, (.dict #[kv P "__name__" 165 (vS "lua.values" 194), kv P "__doc__" 166 .none, kv P "__package__" 167 .none, kv P "__loader__" 168 (.builtin "__main__.__loader__#opaque"), kv P "__spec__" 169 .none, kv P "__annotations__" 170 (.ref 6), kv P "__builtins__" 171 (.ref 4), kv P "__file__" 173 (vS "/claim/cut.py" 172), kv P "__cached__" 174 .none, kv P "_wall" 193 (.ref 21), kv P "BLANKS" 197 (.bytes #[32, 9, 10, 11, 12, 13] 196), kv P "Limits" 268 (.ref 53)] 12), #[]⟩
noncomputable def a12_2 (_ : Params) : Obj := oNo #[(.int 1 0), (.int 0 0), (.ref 20), (.int 6 0), (.int 0 0), (.ref 27)]
noncomputable def a22 (_ : Params) : Obj := oTu #[]
noncomputable def a23 (_ : Params) : Obj := ⟨(.type "builtin_function_or_method"), none, (.fields #[(.builtin "type.__prepare__"), (.type "type")]), #[]⟩
noncomputable def a24 (P : Params) : Obj := ⟨(.type "dict"), none, (.dict #[kv P "__module__" 205 (vS "lua.values" 194), kv P "__qualname__" 207 (vS "Limits" 206), kv P "__firstlineno__" 209 (.int 6 208), kv P "__init__" 236 (.ref 36), kv P "greatest" 243 (.ref 43), kv P "least" 250 (.ref 50), kv P "__static_attributes__" 261 (.ref 51)] 7), #[]⟩
noncomputable def a25 (_ : Params) : Obj := oTu #[]
noncomputable def a26 (_ : Params) : Obj := oNo #[(.int 8 0), (.int 4 0), (.ref 35), (.int 20 0), (.int 4 0), (.ref 42), (.int 23 0), (.int 4 0), (.ref 49)]
noncomputable def a27 (_ : Params) : Obj := oCo #[(vS "Limits" 200), (vS "Limits" 201), (vS "/claim/cut.py" 202), (.int 6 0), (.int 0 0), (.int 0 0), (.int 0 0), (.int 0 0), (.ref 25), (.bool false), (.int 181 0), (.ref 26), .none, .none, .none, .none, (.int 203 0), (.int 6 0), (vS "/claim/cut.py" 204)]
noncomputable def a28 (_ : Params) : Obj := ⟨(.type "frame"), none, .plain, #[(some (.ref 27)), (some (.ref 3)), (some (.ref 24)), none, (some (vS "lua.values" 194)), none, (some (.ref 0))]⟩
noncomputable def a29 (_ : Params) : Obj := oTu #[(.int 64 210), (.int 250 211), (.int 60 212), (.int 200 213), (.int 40 214), (.int 200 215), (.int 2000 216), (.int 50 217), (.int 1000000000 218), (.int 1000000 219)]
noncomputable def a30 (_ : Params) : Obj := oTu #[]
noncomputable def a31 (_ : Params) : Obj := oNo #[]
noncomputable def a32 (_ : Params) : Obj := oTu #[(vS "self" 223), (vS "width" 224), (vS "registers" 225), (vS "upvalues" 226), (vS "local_names" 227), (vS "ccalls" 228), (vS "frames" 229), (vS "stack" 230), (vS "flush" 231), (vS "steps" 232), (vS "text" 233)]
noncomputable def a33 (_ : Params) : Obj := oTu #[]
noncomputable def fd34 : FuncData := fo (sC 3 0) (sx "__init__") (sx "Limits.__init__") 0 .none .none .none
noncomputable def a34 (_ : Params) : Obj := oNf fd34
noncomputable def a35 (_ : Params) : Obj := oCo #[(vS "__init__" 220), (vS "Limits.__init__" 221), (vS "/claim/cut.py" 222), (.int 8 0), (.int 11 0), (.int 0 0), (.int 0 0), (.int 3 0), (.ref 30), (.bool true), (.int 181 0), (.ref 31), .none, (.ref 32), (.ref 33), (.ref 34), (.int 234 0), (.int 8 0), (vS "/claim/cut.py" 235)]
noncomputable def fd36 : FuncData := fo (sC 3 0) (sx "__init__") (sx "Limits.__init__") 3 (.ref 29) (vS "lua.values" 194) (.ref 35)
noncomputable def a36 (_ : Params) : Obj := oFn fd36
noncomputable def a37 (_ : Params) : Obj := oTu #[]
noncomputable def a38 (_ : Params) : Obj := oNo #[]
noncomputable def a39 (_ : Params) : Obj := oTu #[(vS "self" 240)]
noncomputable def a40 (_ : Params) : Obj := oTu #[]
noncomputable def fd41 : FuncData := fo (sC 3 1) (sx "greatest") (sx "Limits.greatest") 0 .none .none .none
noncomputable def a41 (_ : Params) : Obj := oNf fd41
noncomputable def a42 (_ : Params) : Obj := oCo #[(vS "greatest" 237), (vS "Limits.greatest" 238), (vS "/claim/cut.py" 239), (.int 20 0), (.int 1 0), (.int 0 0), (.int 0 0), (.int 3 0), (.ref 37), (.bool true), (.int 181 0), (.ref 38), .none, (.ref 39), (.ref 40), (.ref 41), (.int 241 0), (.int 20 0), (vS "/claim/cut.py" 242)]
noncomputable def fd43 : FuncData := fo (sC 3 1) (sx "greatest") (sx "Limits.greatest") 3 .none (vS "lua.values" 194) (.ref 42)
noncomputable def a43 (_ : Params) : Obj := oFn fd43
noncomputable def a44 (_ : Params) : Obj := oTu #[]
noncomputable def a45 (_ : Params) : Obj := oNo #[]
noncomputable def a46 (_ : Params) : Obj := oTu #[(vS "self" 247)]
noncomputable def a47 (_ : Params) : Obj := oTu #[]
noncomputable def fd48 : FuncData := fo (sC 3 2) (sx "least") (sx "Limits.least") 0 .none .none .none
noncomputable def a48 (_ : Params) : Obj := oNf fd48
noncomputable def a49 (_ : Params) : Obj := oCo #[(vS "least" 244), (vS "Limits.least" 245), (vS "/claim/cut.py" 246), (.int 23 0), (.int 1 0), (.int 0 0), (.int 0 0), (.int 3 0), (.ref 44), (.bool true), (.int 181 0), (.ref 45), .none, (.ref 46), (.ref 47), (.ref 48), (.int 248 0), (.int 23 0), (vS "/claim/cut.py" 249)]
noncomputable def fd50 : FuncData := fo (sC 3 2) (sx "least") (sx "Limits.least") 3 .none (vS "lua.values" 194) (.ref 49)
noncomputable def a50 (_ : Params) : Obj := oFn fd50
noncomputable def a51 (_ : Params) : Obj := oTu #[(vS "ccalls" 251), (vS "flush" 252), (vS "frames" 253), (vS "local_names" 254), (vS "registers" 255), (vS "stack" 256), (vS "steps" 257), (vS "text" 258), (vS "upvalues" 259), (vS "width" 260)]
noncomputable def a52 (P : Params) : Obj := ⟨(.type "dict"), none, (.dict #[kv P "__module__" 205 (vS "lua.values" 194), kv P "__firstlineno__" 209 (.int 6 208), kv P "__init__" 236 (.ref 36), kv P "greatest" 243 (.ref 43), kv P "least" 250 (.ref 50), kv P "__static_attributes__" 261 (.ref 51), kv P "__dict__" 263 (.ref 54), kv P "__weakref__" 265 (.ref 55), kv P "__doc__" 266 .none] 4), #[]⟩
noncomputable def a53 (_ : Params) : Obj := ⟨(.type "type"), none, (.cls { name := (sx "Limits"), bases := [(.type "object")], mro := [(.ref 53), (.type "object")], ns := 52, qualname := (sx "Limits"), hasDict := true, slotNames := [], subclasses := [], abstract := false, collection := none, hasDel := false }), #[none, none, (some (vS "Limits" 198)), (some (vS "Limits" 206)), (some (.builtin "object.__new__")), (some (.bool true))]⟩
noncomputable def a54 (_ : Params) : Obj := ⟨(.type "getset_descriptor"), none, (.fields #[(vS "__dict__" 262), (.ref 53), (.builtin "function.__dict__"), (.builtin "function.__dict__#set")]), #[]⟩
noncomputable def a55 (_ : Params) : Obj := ⟨(.type "getset_descriptor"), none, (.fields #[(vS "__weakref__" 264), (.ref 53), (.builtin "ExceptionGroup.__weakref__"), .none]), #[]⟩
noncomputable def a56 (_ : Params) : Obj := ⟨(.type "super"), none, (.fields #[(.ref 53), (.ref 53), (.ref 53)]), #[]⟩
noncomputable def a57 (_ : Params) : Obj := ⟨(.type "builtin_function_or_method"), none, (.fields #[(.builtin "object.__init_subclass__"), (.ref 53)]), #[]⟩
noncomputable def tr2 (P : Params) : BT := (nd (boot_o_0 P) (nd (boot_o_1 P) (nd (a3_1 P) (nd (boot_o_7 P) (nd (a15 P) (nd (a31 P) nl nl) (nd (a47 P) nl nl)) (nd (a23 P) (nd (a39 P) nl nl) (nd (a55 P) nl nl))) (nd (a11 P) (nd (a19 P) (nd (a35 P) nl nl) (nd (a51 P) nl nl)) (nd (a27 P) (nd (a43 P) nl nl) nl))) (nd (boot_o_5 P) (nd (boot_o_9 P) (nd (a17 P) (nd (a33 P) nl nl) (nd (a49 P) nl nl)) (nd (a25 P) (nd (a41 P) nl nl) (nd (a57 P) nl nl))) (nd (a13 P) (nd (a21 P) (nd (a37 P) nl nl) (nd (a53 P) nl nl)) (nd (a29 P) (nd (a45 P) nl nl) nl)))) (nd (boot_o_2 P) (nd (boot_o_4 P) (nd (boot_o_8 P) (nd (a16 P) (nd (a32 P) nl nl) (nd (a48 P) nl nl)) (nd (a24 P) (nd (a40 P) nl nl) (nd (a56 P) nl nl))) (nd (a12_2 P) (nd (a20 P) (nd (a36 P) nl nl) (nd (a52 P) nl nl)) (nd (a28 P) (nd (a44 P) nl nl) nl))) (nd (boot_o_6 P) (nd (boot_o_10 P) (nd (a18 P) (nd (a34 P) nl nl) (nd (a50 P) nl nl)) (nd (a26 P) (nd (a42 P) nl nl) nl)) (nd (a14 P) (nd (a22 P) (nd (a38 P) nl nl) (nd (a54 P) nl nl)) (nd (a30 P) (nd (a46 P) nl nl) nl)))))
noncomputable def a2 (P : Params) : Obj := ⟨.none, none, (.dict #[kv P "type.__subclasses__.Exception.0" 296 (.int 74 0), kv P "type.__subclasses__.Exception.n" 297 (.int 1 0)] 2), #[]⟩
noncomputable def a3_2 (P : Params) : Obj := ⟨(.type "dict"), none, (.dict #[kv P "__name__" 165 (vS "lua.values" 194), kv P "__doc__" 166 .none, kv P "__package__" 167 .none, kv P "__loader__" 168 (.builtin "__main__.__loader__#opaque"), kv P "__spec__" 169 .none, kv P "__annotations__" 170 (.ref 6), kv P "__builtins__" 171 (.ref 4), kv P "__file__" 173 (vS "/claim/cut.py" 172), kv P "__cached__" 174 .none, kv P "_wall" 193 (.ref 21), kv P "BLANKS" 197 (.bytes #[32, 9, 10, 11, 12, 13] 196), kv P "Limits" 268 (.ref 53), kv P "LuaError" 299 (.ref 74)] 13), #[]⟩
noncomputable def a12_3 (_ : Params) : Obj := oNo #[(.int 1 0), (.int 0 0), (.ref 20), (.int 6 0), (.int 0 0), (.ref 27), (.int 25 0), (.int 0 0), (.ref 63)]
noncomputable def a58 (_ : Params) : Obj := oTu #[(.type "Exception")]
noncomputable def a59 (_ : Params) : Obj := ⟨(.type "builtin_function_or_method"), none, (.fields #[(.builtin "type.__prepare__"), (.type "type")]), #[]⟩
noncomputable def a60 (P : Params) : Obj := ⟨(.type "dict"), none, (.dict #[kv P "__module__" 276 (vS "lua.values" 194), kv P "__qualname__" 278 (vS "LuaError" 277), kv P "__firstlineno__" 280 (.int 25 279), kv P "__init__" 288 (.ref 71), kv P "__static_attributes__" 292 (.ref 72)] 5), #[]⟩
noncomputable def a61 (_ : Params) : Obj := oTu #[]
noncomputable def a62 (_ : Params) : Obj := oNo #[(.int 27 0), (.int 4 0), (.ref 70)]
noncomputable def a63 (_ : Params) : Obj := oCo #[(vS "LuaError" 271), (vS "LuaError" 272), (vS "/claim/cut.py" 273), (.int 25 0), (.int 0 0), (.int 0 0), (.int 0 0), (.int 0 0), (.ref 61), (.bool false), (.int 181 0), (.ref 62), .none, .none, .none, .none, (.int 274 0), (.int 25 0), (vS "/claim/cut.py" 275)]
noncomputable def a64 (_ : Params) : Obj := ⟨(.type "frame"), none, .plain, #[(some (.ref 63)), (some (.ref 3)), (some (.ref 60)), none, (some (vS "lua.values" 194)), none, (some (.ref 0))]⟩
noncomputable def a65 (_ : Params) : Obj := oTu #[]
noncomputable def a66 (_ : Params) : Obj := oNo #[]
noncomputable def a67 (_ : Params) : Obj := oTu #[(vS "self" 284), (vS "value" 285)]
noncomputable def a68 (_ : Params) : Obj := oTu #[]
noncomputable def fd69 : FuncData := fo (sC 4 0) (sx "__init__") (sx "LuaError.__init__") 0 .none .none .none
noncomputable def a69 (_ : Params) : Obj := oNf fd69
noncomputable def a70 (_ : Params) : Obj := oCo #[(vS "__init__" 281), (vS "LuaError.__init__" 282), (vS "/claim/cut.py" 283), (.int 27 0), (.int 2 0), (.int 0 0), (.int 0 0), (.int 3 0), (.ref 65), (.bool true), (.int 181 0), (.ref 66), .none, (.ref 67), (.ref 68), (.ref 69), (.int 286 0), (.int 27 0), (vS "/claim/cut.py" 287)]
noncomputable def fd71 : FuncData := fo (sC 4 0) (sx "__init__") (sx "LuaError.__init__") 3 .none (vS "lua.values" 194) (.ref 70)
noncomputable def a71 (_ : Params) : Obj := oFn fd71
noncomputable def a72 (_ : Params) : Obj := oTu #[(vS "is_in_handler" 289), (vS "trace" 290), (vS "value" 291)]
noncomputable def a73 (P : Params) : Obj := ⟨(.type "dict"), none, (.dict #[kv P "__module__" 276 (vS "lua.values" 194), kv P "__firstlineno__" 280 (.int 25 279), kv P "__init__" 288 (.ref 71), kv P "__static_attributes__" 292 (.ref 72), kv P "__weakref__" 294 (.ref 75), kv P "__doc__" 295 .none] 3), #[]⟩
noncomputable def a74 (_ : Params) : Obj := ⟨(.type "type"), none, (.cls { name := (sx "LuaError"), bases := [(.type "Exception")], mro := [(.ref 74), (.type "Exception"), (.type "BaseException"), (.type "object")], ns := 73, qualname := (sx "LuaError"), hasDict := true, slotNames := [], subclasses := [], abstract := false, collection := none, hasDel := false }), #[(some (.ref 58)), none, (some (vS "LuaError" 269)), (some (vS "LuaError" 277)), (some (.builtin "Exception.__new__")), (some (.bool true))]⟩
noncomputable def a75 (_ : Params) : Obj := ⟨(.type "getset_descriptor"), none, (.fields #[(vS "__weakref__" 293), (.ref 74), (.builtin "ExceptionGroup.__weakref__"), .none]), #[]⟩
noncomputable def a76 (_ : Params) : Obj := ⟨(.type "super"), none, (.fields #[(.ref 74), (.ref 74), (.ref 74)]), #[]⟩
noncomputable def a77 (_ : Params) : Obj := ⟨(.type "builtin_function_or_method"), none, (.fields #[(.builtin "object.__init_subclass__"), (.ref 74)]), #[]⟩
noncomputable def tr3 (P : Params) : BT := (nd (boot_o_0 P) (nd (boot_o_1 P) (nd (a3_2 P) (nd (boot_o_7 P) (nd (a15 P) (nd (a31 P) (nd (a63 P) nl nl) nl) (nd (a47 P) nl nl)) (nd (a23 P) (nd (a39 P) (nd (a71 P) nl nl) nl) (nd (a55 P) nl nl))) (nd (a11 P) (nd (a19 P) (nd (a35 P) (nd (a67 P) nl nl) nl) (nd (a51 P) nl nl)) (nd (a27 P) (nd (a43 P) (nd (a75 P) nl nl) nl) (nd (a59 P) nl nl)))) (nd (boot_o_5 P) (nd (boot_o_9 P) (nd (a17 P) (nd (a33 P) (nd (a65 P) nl nl) nl) (nd (a49 P) nl nl)) (nd (a25 P) (nd (a41 P) (nd (a73 P) nl nl) nl) (nd (a57 P) nl nl))) (nd (a13 P) (nd (a21 P) (nd (a37 P) (nd (a69 P) nl nl) nl) (nd (a53 P) nl nl)) (nd (a29 P) (nd (a45 P) (nd (a77 P) nl nl) nl) (nd (a61 P) nl nl))))) (nd (a2 P) (nd (boot_o_4 P) (nd (boot_o_8 P) (nd (a16 P) (nd (a32 P) (nd (a64 P) nl nl) nl) (nd (a48 P) nl nl)) (nd (a24 P) (nd (a40 P) (nd (a72 P) nl nl) nl) (nd (a56 P) nl nl))) (nd (a12_3 P) (nd (a20 P) (nd (a36 P) (nd (a68 P) nl nl) nl) (nd (a52 P) nl nl)) (nd (a28 P) (nd (a44 P) (nd (a76 P) nl nl) nl) (nd (a60 P) nl nl)))) (nd (boot_o_6 P) (nd (boot_o_10 P) (nd (a18 P) (nd (a34 P) (nd (a66 P) nl nl) nl) (nd (a50 P) nl nl)) (nd (a26 P) (nd (a42 P) (nd (a74 P) nl nl) nl) (nd (a58 P) nl nl))) (nd (a14 P) (nd (a22 P) (nd (a38 P) (nd (a70 P) nl nl) nl) (nd (a54 P) nl nl)) (nd (a30 P) (nd (a46 P) nl nl) (nd (a62 P) nl nl))))))
noncomputable def a3_3 (P : Params) : Obj := ⟨(.type "dict"), none, (.dict #[kv P "__name__" 165 (vS "lua.values" 194), kv P "__doc__" 166 .none, kv P "__package__" 167 .none, kv P "__loader__" 168 (.builtin "__main__.__loader__#opaque"), kv P "__spec__" 169 .none, kv P "__annotations__" 170 (.ref 6), kv P "__builtins__" 171 (.ref 4), kv P "__file__" 173 (vS "/claim/cut.py" 172), kv P "__cached__" 174 .none, kv P "_wall" 193 (.ref 21), kv P "BLANKS" 197 (.bytes #[32, 9, 10, 11, 12, 13] 196), kv P "Limits" 268 (.ref 53), kv P "LuaError" 299 (.ref 74), kv P "LuaSyntaxError" 315 (.ref 87)] 14), #[]⟩
noncomputable def a12_4 (_ : Params) : Obj := oNo #[(.int 1 0), (.int 0 0), (.ref 20), (.int 6 0), (.int 0 0), (.ref 27), (.int 25 0), (.int 0 0), (.ref 63), (.int 31 0), (.int 0 0), (.ref 83)]
noncomputable def a74_1 (_ : Params) : Obj := ⟨(.type "type"), none, (.cls { name := (sx "LuaError"), bases := [(.type "Exception")], mro := [(.ref 74), (.type "Exception"), (.type "BaseException"), (.type "object")], ns := 73, qualname := (sx "LuaError"), hasDict := true, slotNames := [], subclasses := [(.ref 87)], abstract := false, collection := none, hasDel := false }), #[(some (.ref 58)), none, (some (vS "LuaError" 269)), (some (vS "LuaError" 277)), (some (.builtin "Exception.__new__")), (some (.bool true))]⟩
noncomputable def a78 (_ : Params) : Obj := oTu #[(.ref 74)]
noncomputable def a79 (_ : Params) : Obj := ⟨(.type "builtin_function_or_method"), none, (.fields #[(.builtin "type.__prepare__"), (.type "type")]), #[]⟩
noncomputable def a80 (P : Params) : Obj := ⟨(.type "dict"), none, (.dict #[kv P "__module__" 307 (vS "lua.values" 194), kv P "__qualname__" 309 (vS "LuaSyntaxError" 308), kv P "__firstlineno__" 311 (.int 31 310), kv P "__static_attributes__" 312 (.ref 85)] 4), #[]⟩
noncomputable def a81 (_ : Params) : Obj := oTu #[]
noncomputable def a82 (_ : Params) : Obj := oNo #[]
noncomputable def a83 (_ : Params) : Obj := oCo #[(vS "LuaSyntaxError" 302), (vS "LuaSyntaxError" 303), (vS "/claim/cut.py" 304), (.int 31 0), (.int 0 0), (.int 0 0), (.int 0 0), (.int 0 0), (.ref 81), (.bool false), (.int 181 0), (.ref 82), .none, .none, .none, .none, (.int 305 0), (.int 31 0), (vS "/claim/cut.py" 306)]
noncomputable def a84 (_ : Params) : Obj := ⟨(.type "frame"), none, .plain, #[(some (.ref 83)), (some (.ref 3)), (some (.ref 80)), none, (some (vS "lua.values" 194)), none, (some (.ref 0))]⟩
noncomputable def a85 (_ : Params) : Obj := oTu #[]
noncomputable def a86 (P : Params) : Obj := ⟨(.type "dict"), none, (.dict #[kv P "__module__" 307 (vS "lua.values" 194), kv P "__firstlineno__" 311 (.int 31 310), kv P "__static_attributes__" 312 (.ref 85), kv P "__doc__" 313 .none] 2), #[]⟩
noncomputable def a87 (_ : Params) : Obj := ⟨(.type "type"), none, (.cls { name := (sx "LuaSyntaxError"), bases := [(.ref 74)], mro := [(.ref 87), (.ref 74), (.type "Exception"), (.type "BaseException"), (.type "object")], ns := 86, qualname := (sx "LuaSyntaxError"), hasDict := true, slotNames := [], subclasses := [], abstract := false, collection := none, hasDel := false }), #[(some (.ref 78)), none, (some (vS "LuaSyntaxError" 300)), (some (vS "LuaSyntaxError" 308)), (some (.builtin "Exception.__new__")), (some (.bool true))]⟩
noncomputable def a88 (_ : Params) : Obj := ⟨(.type "super"), none, (.fields #[(.ref 87), (.ref 87), (.ref 87)]), #[]⟩
noncomputable def a89 (_ : Params) : Obj := ⟨(.type "builtin_function_or_method"), none, (.fields #[(.builtin "object.__init_subclass__"), (.ref 87)]), #[]⟩
noncomputable def tr4 (P : Params) : BT := (nd (boot_o_0 P) (nd (boot_o_1 P) (nd (a3_3 P) (nd (boot_o_7 P) (nd (a15 P) (nd (a31 P) (nd (a63 P) nl nl) nl) (nd (a47 P) (nd (a79 P) nl nl) nl)) (nd (a23 P) (nd (a39 P) (nd (a71 P) nl nl) nl) (nd (a55 P) (nd (a87 P) nl nl) nl))) (nd (a11 P) (nd (a19 P) (nd (a35 P) (nd (a67 P) nl nl) nl) (nd (a51 P) (nd (a83 P) nl nl) nl)) (nd (a27 P) (nd (a43 P) (nd (a75 P) nl nl) nl) (nd (a59 P) nl nl)))) (nd (boot_o_5 P) (nd (boot_o_9 P) (nd (a17 P) (nd (a33 P) (nd (a65 P) nl nl) nl) (nd (a49 P) (nd (a81 P) nl nl) nl)) (nd (a25 P) (nd (a41 P) (nd (a73 P) nl nl) nl) (nd (a57 P) (nd (a89 P) nl nl) nl))) (nd (a13 P) (nd (a21 P) (nd (a37 P) (nd (a69 P) nl nl) nl) (nd (a53 P) (nd (a85 P) nl nl) nl)) (nd (a29 P) (nd (a45 P) (nd (a77 P) nl nl) nl) (nd (a61 P) nl nl))))) (nd (a2 P) (nd (boot_o_4 P) (nd (boot_o_8 P) (nd (a16 P) (nd (a32 P) (nd (a64 P) nl nl) nl) (nd (a48 P) (nd (a80 P) nl nl) nl)) (nd (a24 P) (nd (a40 P) (nd (a72 P) nl nl) nl) (nd (a56 P) (nd (a88 P) nl nl) nl))) (nd (a12_4 P) (nd (a20 P) (nd (a36 P) (nd (a68 P) nl nl) nl) (nd (a52 P) (nd (a84 P) nl nl) nl)) (nd (a28 P) (nd (a44 P) (nd (a76 P) nl nl) nl) (nd (a60 P) nl nl)))) (nd (boot_o_6 P) (nd (boot_o_10 P) (nd (a18 P) (nd (a34 P) (nd (a66 P) nl nl) nl) (nd (a50 P) (nd (a82 P) nl nl) nl)) (nd (a26 P) (nd (a42 P) (nd (a74_1 P) nl nl) nl) (nd (a58 P) nl nl))) (nd (a14 P) (nd (a22 P) (nd (a38 P) (nd (a70 P) nl nl) nl) (nd (a54 P) (nd (a86 P) nl nl) nl)) (nd (a30 P) (nd (a46 P) (nd (a78 P) nl nl) nl) (nd (a62 P) nl nl))))))
noncomputable def a3_4 (P : Params) : Obj := ⟨(.type "dict"), none, (.dict #[kv P "__name__" 165 (vS "lua.lexer" 433), kv P "__doc__" 166 .none, kv P "__package__" 167 .none, kv P "__loader__" 168 (.builtin "__main__.__loader__#opaque"), kv P "__spec__" 169 .none, kv P "__annotations__" 170 (.ref 6), kv P "__builtins__" 171 (.ref 4), kv P "__file__" 173 (vS "/claim/cut.py" 172), kv P "__cached__" 174 .none, kv P "_wall" 193 (.ref 21), kv P "BLANKS" 197 (.bytes #[32, 9, 10, 11, 12, 13] 196), kv P "Limits" 268 (.ref 53), kv P "LuaError" 299 (.ref 74), kv P "LuaSyntaxError" 315 (.ref 87), kv P "is_number" 322 (.ref 96), kv P "wrap" 331 (.ref 103), kv P "is_blank" 338 (.ref 110), kv P "is_blank_values" 339 (.ref 110), kv P "digit_of" 346 (.ref 117), kv P "read_digits" 359 (.ref 124), kv P "skip_blanks" 367 (.ref 131), kv P "str_to_number" 375 (.ref 138), kv P "text_in_base" 389 (.ref 145), kv P "number_text" 398 (.ref 152), kv P "to_text" 405 (.ref 159), kv P "c_text" 413 (.ref 166), kv P "first_line" 421 (.ref 173), kv P "chunk_id" 432 (.ref 180), kv P "END_OF_TEXT" 437 (.int (-1) 436), kv P "FIRST_RESERVED" 439 (.int 257 438)] 30), #[]⟩
noncomputable def a12_5 (_ : Params) : Obj := oNo #[(.int 1 0), (.int 0 0), (.ref 20), (.int 6 0), (.int 0 0), (.ref 27), (.int 25 0), (.int 0 0), (.ref 63), (.int 31 0), (.int 0 0), (.ref 83), (.int 33 0), (.int 0 0), (.ref 95), (.int 35 0), (.int 0 0), (.ref 102), (.int 40 0), (.int 0 0), (.ref 109), (.int 43 0), (.int 0 0), (.ref 116), (.int 51 0), (.int 0 0), (.ref 123), (.int 60 0), (.int 0 0), (.ref 130), (.int 64 0), (.int 0 0), (.ref 137), (.int 66 0), (.int 0 0), (.ref 144), (.int 78 0), (.int 0 0), (.ref 151), (.int 88 0), (.int 0 0), (.ref 158), (.int 94 0), (.int 0 0), (.ref 165), (.int 99 0), (.int 0 0), (.ref 172), (.int 104 0), (.int 0 0), (.ref 179)]
noncomputable def a90 (_ : Params) : Obj := oTu #[]
noncomputable def a91 (_ : Params) : Obj := oNo #[]
noncomputable def a92 (_ : Params) : Obj := oTu #[(vS "value" 319)]
noncomputable def a93 (_ : Params) : Obj := oTu #[]
noncomputable def fd94 : FuncData := fo (sT 6) (sx "is_number") (sx "is_number") 0 .none .none .none
noncomputable def a94 (_ : Params) : Obj := oNf fd94
noncomputable def a95 (_ : Params) : Obj := oCo #[(vS "is_number" 316), (vS "is_number" 317), (vS "/claim/cut.py" 318), (.int 33 0), (.int 1 0), (.int 0 0), (.int 0 0), (.int 3 0), (.ref 90), (.bool true), (.int 181 0), (.ref 91), .none, (.ref 92), (.ref 93), (.ref 94), (.int 320 0), (.int 33 0), (vS "/claim/cut.py" 321)]
noncomputable def fd96 : FuncData := fo (sT 6) (sx "is_number") (sx "is_number") 3 .none (vS "lua.values" 194) (.ref 95)
noncomputable def a96 (_ : Params) : Obj := oFn fd96
noncomputable def a97 (_ : Params) : Obj := oTu #[]
noncomputable def a98 (_ : Params) : Obj := oNo #[]
noncomputable def a99 (_ : Params) : Obj := oTu #[(vS "n" 326), (vS "width" 327), (vS "low" 328)]
noncomputable def a100 (_ : Params) : Obj := oTu #[]
noncomputable def fd101 : FuncData := fo (sT 7) (sx "wrap") (sx "wrap") 0 .none .none .none
noncomputable def a101 (_ : Params) : Obj := oNf fd101
noncomputable def a102 (_ : Params) : Obj := oCo #[(vS "wrap" 323), (vS "wrap" 324), (vS "/claim/cut.py" 325), (.int 35 0), (.int 2 0), (.int 0 0), (.int 0 0), (.int 3 0), (.ref 97), (.bool true), (.int 181 0), (.ref 98), .none, (.ref 99), (.ref 100), (.ref 101), (.int 329 0), (.int 35 0), (vS "/claim/cut.py" 330)]
noncomputable def fd103 : FuncData := fo (sT 7) (sx "wrap") (sx "wrap") 3 .none (vS "lua.values" 194) (.ref 102)
noncomputable def a103 (_ : Params) : Obj := oFn fd103
noncomputable def a104 (_ : Params) : Obj := oTu #[]
noncomputable def a105 (_ : Params) : Obj := oNo #[]
noncomputable def a106 (_ : Params) : Obj := oTu #[(vS "octet" 335)]
noncomputable def a107 (_ : Params) : Obj := oTu #[]
noncomputable def fd108 : FuncData := fo (sT 8) (sx "is_blank") (sx "is_blank") 0 .none .none .none
noncomputable def a108 (_ : Params) : Obj := oNf fd108
noncomputable def a109 (_ : Params) : Obj := oCo #[(vS "is_blank" 332), (vS "is_blank" 333), (vS "/claim/cut.py" 334), (.int 40 0), (.int 1 0), (.int 0 0), (.int 0 0), (.int 3 0), (.ref 104), (.bool true), (.int 181 0), (.ref 105), .none, (.ref 106), (.ref 107), (.ref 108), (.int 336 0), (.int 40 0), (vS "/claim/cut.py" 337)]
noncomputable def fd110 : FuncData := fo (sT 8) (sx "is_blank") (sx "is_blank") 3 .none (vS "lua.values" 194) (.ref 109)
noncomputable def a110 (_ : Params) : Obj := oFn fd110
noncomputable def a111 (_ : Params) : Obj := oTu #[]
noncomputable def a112 (_ : Params) : Obj := oNo #[]
noncomputable def a113 (_ : Params) : Obj := oTu #[(vS "octet" 343)]
noncomputable def a114 (_ : Params) : Obj := oTu #[]
noncomputable def fd115 : FuncData := fo (sT 10) (sx "digit_of") (sx "digit_of") 0 .none .none .none
noncomputable def a115 (_ : Params) : Obj := oNf fd115
noncomputable def a116 (_ : Params) : Obj := oCo #[(vS "digit_of" 340), (vS "digit_of" 341), (vS "/claim/cut.py" 342), (.int 43 0), (.int 1 0), (.int 0 0), (.int 0 0), (.int 3 0), (.ref 111), (.bool true), (.int 181 0), (.ref 112), .none, (.ref 113), (.ref 114), (.ref 115), (.int 344 0), (.int 43 0), (vS "/claim/cut.py" 345)]
noncomputable def fd117 : FuncData := fo (sT 10) (sx "digit_of") (sx "digit_of") 3 .none (vS "lua.values" 194) (.ref 116)
noncomputable def a117 (_ : Params) : Obj := oFn fd117
noncomputable def a118 (_ : Params) : Obj := oTu #[]
noncomputable def a119 (_ : Params) : Obj := oNo #[]
noncomputable def a120 (_ : Params) : Obj := oTu #[(vS "text" 350), (vS "at" 351), (vS "base" 352), (vS "width" 353), (vS "found" 354), (vS "most" 355), (vS "digit" 356)]
noncomputable def a121 (_ : Params) : Obj := oTu #[]
noncomputable def fd122 : FuncData := fo (sT 11) (sx "read_digits") (sx "read_digits") 0 .none .none .none
noncomputable def a122 (_ : Params) : Obj := oNf fd122
noncomputable def a123 (_ : Params) : Obj := oCo #[(vS "read_digits" 347), (vS "read_digits" 348), (vS "/claim/cut.py" 349), (.int 51 0), (.int 4 0), (.int 0 0), (.int 0 0), (.int 3 0), (.ref 118), (.bool true), (.int 181 0), (.ref 119), .none, (.ref 120), (.ref 121), (.ref 122), (.int 357 0), (.int 51 0), (vS "/claim/cut.py" 358)]
noncomputable def fd124 : FuncData := fo (sT 11) (sx "read_digits") (sx "read_digits") 3 .none (vS "lua.values" 194) (.ref 123)
noncomputable def a124 (_ : Params) : Obj := oFn fd124
noncomputable def a125 (_ : Params) : Obj := oTu #[]
noncomputable def a126 (_ : Params) : Obj := oNo #[]
noncomputable def a127 (_ : Params) : Obj := oTu #[(vS "text" 363), (vS "at" 364)]
noncomputable def a128 (_ : Params) : Obj := oTu #[]
noncomputable def fd129 : FuncData := fo (sT 12) (sx "skip_blanks") (sx "skip_blanks") 0 .none .none .none
noncomputable def a129 (_ : Params) : Obj := oNf fd129
noncomputable def a130 (_ : Params) : Obj := oCo #[(vS "skip_blanks" 360), (vS "skip_blanks" 361), (vS "/claim/cut.py" 362), (.int 60 0), (.int 2 0), (.int 0 0), (.int 0 0), (.int 3 0), (.ref 125), (.bool true), (.int 181 0), (.ref 126), .none, (.ref 127), (.ref 128), (.ref 129), (.int 365 0), (.int 60 0), (vS "/claim/cut.py" 366)]
noncomputable def fd131 : FuncData := fo (sT 12) (sx "skip_blanks") (sx "skip_blanks") 3 .none (vS "lua.values" 194) (.ref 130)
noncomputable def a131 (_ : Params) : Obj := oFn fd131
noncomputable def a132 (_ : Params) : Obj := oTu #[]
noncomputable def a133 (_ : Params) : Obj := oNo #[]
noncomputable def a134 (_ : Params) : Obj := oTu #[(vS "text" 371), (vS "limits" 372)]
noncomputable def a135 (_ : Params) : Obj := oTu #[]
noncomputable def fd136 : FuncData := fo (sT 13) (sx "str_to_number") (sx "str_to_number") 0 .none .none .none
noncomputable def a136 (_ : Params) : Obj := oNf fd136
noncomputable def a137 (_ : Params) : Obj := oCo #[(vS "str_to_number" 368), (vS "str_to_number" 369), (vS "/claim/cut.py" 370), (.int 64 0), (.int 2 0), (.int 0 0), (.int 0 0), (.int 3 0), (.ref 132), (.bool true), (.int 181 0), (.ref 133), .none, (.ref 134), (.ref 135), (.ref 136), (.int 373 0), (.int 64 0), (vS "/claim/cut.py" 374)]
noncomputable def fd138 : FuncData := fo (sT 13) (sx "str_to_number") (sx "str_to_number") 3 .none (vS "lua.values" 194) (.ref 137)
noncomputable def a138 (_ : Params) : Obj := oFn fd138
noncomputable def a139 (_ : Params) : Obj := oTu #[]
noncomputable def a140 (_ : Params) : Obj := oNo #[]
noncomputable def a141 (_ : Params) : Obj := oTu #[(vS "text" 379), (vS "base" 380), (vS "limits" 381), (vS "at" 382), (vS "is_below" 383), (vS "is_marked" 384), (vS "found" 385), (vS "end" 386)]
noncomputable def a142 (_ : Params) : Obj := oTu #[]
noncomputable def fd143 : FuncData := fo (sT 14) (sx "text_in_base") (sx "text_in_base") 0 .none .none .none
noncomputable def a143 (_ : Params) : Obj := oNf fd143
noncomputable def a144 (_ : Params) : Obj := oCo #[(vS "text_in_base" 376), (vS "text_in_base" 377), (vS "/claim/cut.py" 378), (.int 66 0), (.int 3 0), (.int 0 0), (.int 0 0), (.int 3 0), (.ref 139), (.bool true), (.int 181 0), (.ref 140), .none, (.ref 141), (.ref 142), (.ref 143), (.int 387 0), (.int 66 0), (vS "/claim/cut.py" 388)]
noncomputable def fd145 : FuncData := fo (sT 14) (sx "text_in_base") (sx "text_in_base") 3 .none (vS "lua.values" 194) (.ref 144)
noncomputable def a145 (_ : Params) : Obj := oFn fd145
noncomputable def a146 (_ : Params) : Obj := oTu #[]
noncomputable def a147 (_ : Params) : Obj := oNo #[]
noncomputable def a148 (_ : Params) : Obj := oTu #[(vS "n" 393), (vS "left" 394), (vS "found" 395)]
noncomputable def a149 (_ : Params) : Obj := oTu #[]
noncomputable def fd150 : FuncData := fo (sT 15) (sx "number_text") (sx "number_text") 0 .none .none .none
noncomputable def a150 (_ : Params) : Obj := oNf fd150
noncomputable def a151 (_ : Params) : Obj := oCo #[(vS "number_text" 390), (vS "number_text" 391), (vS "/claim/cut.py" 392), (.int 78 0), (.int 1 0), (.int 0 0), (.int 0 0), (.int 3 0), (.ref 146), (.bool true), (.int 181 0), (.ref 147), .none, (.ref 148), (.ref 149), (.ref 150), (.int 396 0), (.int 78 0), (vS "/claim/cut.py" 397)]
noncomputable def fd152 : FuncData := fo (sT 15) (sx "number_text") (sx "number_text") 3 .none (vS "lua.values" 194) (.ref 151)
noncomputable def a152 (_ : Params) : Obj := oFn fd152
noncomputable def a153 (_ : Params) : Obj := oTu #[]
noncomputable def a154 (_ : Params) : Obj := oNo #[]
noncomputable def a155 (_ : Params) : Obj := oTu #[(vS "value" 402)]
noncomputable def a156 (_ : Params) : Obj := oTu #[]
noncomputable def fd157 : FuncData := fo (sT 16) (sx "to_text") (sx "to_text") 0 .none .none .none
noncomputable def a157 (_ : Params) : Obj := oNf fd157
noncomputable def a158 (_ : Params) : Obj := oCo #[(vS "to_text" 399), (vS "to_text" 400), (vS "/claim/cut.py" 401), (.int 88 0), (.int 1 0), (.int 0 0), (.int 0 0), (.int 3 0), (.ref 153), (.bool true), (.int 181 0), (.ref 154), .none, (.ref 155), (.ref 156), (.ref 157), (.int 403 0), (.int 88 0), (vS "/claim/cut.py" 404)]
noncomputable def fd159 : FuncData := fo (sT 16) (sx "to_text") (sx "to_text") 3 .none (vS "lua.values" 194) (.ref 158)
noncomputable def a159 (_ : Params) : Obj := oFn fd159
noncomputable def a160 (_ : Params) : Obj := oTu #[]
noncomputable def a161 (_ : Params) : Obj := oNo #[]
noncomputable def a162 (_ : Params) : Obj := oTu #[(vS "text" 409), (vS "at" 410)]
noncomputable def a163 (_ : Params) : Obj := oTu #[]
noncomputable def fd164 : FuncData := fo (sT 17) (sx "c_text") (sx "c_text") 0 .none .none .none
noncomputable def a164 (_ : Params) : Obj := oNf fd164
noncomputable def a165 (_ : Params) : Obj := oCo #[(vS "c_text" 406), (vS "c_text" 407), (vS "/claim/cut.py" 408), (.int 94 0), (.int 1 0), (.int 0 0), (.int 0 0), (.int 3 0), (.ref 160), (.bool true), (.int 181 0), (.ref 161), .none, (.ref 162), (.ref 163), (.ref 164), (.int 411 0), (.int 94 0), (vS "/claim/cut.py" 412)]
noncomputable def fd166 : FuncData := fo (sT 17) (sx "c_text") (sx "c_text") 3 .none (vS "lua.values" 194) (.ref 165)
noncomputable def a166 (_ : Params) : Obj := oFn fd166
noncomputable def a167 (_ : Params) : Obj := oTu #[]
noncomputable def a168 (_ : Params) : Obj := oNo #[]
noncomputable def a169 (_ : Params) : Obj := oTu #[(vS "text" 417), (vS "at" 418)]
noncomputable def a170 (_ : Params) : Obj := oTu #[]
noncomputable def fd171 : FuncData := fo (sT 18) (sx "first_line") (sx "first_line") 0 .none .none .none
noncomputable def a171 (_ : Params) : Obj := oNf fd171
noncomputable def a172 (_ : Params) : Obj := oCo #[(vS "first_line" 414), (vS "first_line" 415), (vS "/claim/cut.py" 416), (.int 99 0), (.int 1 0), (.int 0 0), (.int 0 0), (.int 3 0), (.ref 167), (.bool true), (.int 181 0), (.ref 168), .none, (.ref 169), (.ref 170), (.ref 171), (.int 419 0), (.int 99 0), (vS "/claim/cut.py" 420)]
noncomputable def fd173 : FuncData := fo (sT 18) (sx "first_line") (sx "first_line") 3 .none (vS "lua.values" 194) (.ref 172)
noncomputable def a173 (_ : Params) : Obj := oFn fd173
noncomputable def a174 (_ : Params) : Obj := oTu #[]
noncomputable def a175 (_ : Params) : Obj := oNo #[]
noncomputable def a176 (_ : Params) : Obj := oTu #[(vS "source" 425), (vS "size" 426), (vS "room" 427), (vS "name" 428), (vS "line" 429)]
noncomputable def a177 (_ : Params) : Obj := oTu #[]
noncomputable def fd178 : FuncData := fo (sT 19) (sx "chunk_id") (sx "chunk_id") 0 .none .none .none
noncomputable def a178 (_ : Params) : Obj := oNf fd178
noncomputable def a179 (_ : Params) : Obj := oCo #[(vS "chunk_id" 422), (vS "chunk_id" 423), (vS "/claim/cut.py" 424), (.int 104 0), (.int 2 0), (.int 0 0), (.int 0 0), (.int 3 0), (.ref 174), (.bool true), (.int 181 0), (.ref 175), .none, (.ref 176), (.ref 177), (.ref 178), (.int 430 0), (.int 104 0), (vS "/claim/cut.py" 431)]
noncomputable def fd180 : FuncData := fo (sT 19) (sx "chunk_id") (sx "chunk_id") 3 .none (vS "lua.values" 194) (.ref 179)
noncomputable def a180 (_ : Params) : Obj := oFn fd180
noncomputable def tr5 (P : Params) : BT := (nd (boot_o_0 P) (nd (boot_o_1 P) (nd (a3_4 P) (nd (boot_o_7 P) (nd (a15 P) (nd (a31 P) (nd (a63 P) (nd (a127 P) nl nl) nl) (nd (a95 P) (nd (a159 P) nl nl) nl)) (nd (a47 P) (nd (a79 P) (nd (a143 P) nl nl) nl) (nd (a111 P) (nd (a175 P) nl nl) nl))) (nd (a23 P) (nd (a39 P) (nd (a71 P) (nd (a135 P) nl nl) nl) (nd (a103 P) (nd (a167 P) nl nl) nl)) (nd (a55 P) (nd (a87 P) (nd (a151 P) nl nl) nl) (nd (a119 P) nl nl)))) (nd (a11 P) (nd (a19 P) (nd (a35 P) (nd (a67 P) (nd (a131 P) nl nl) nl) (nd (a99 P) (nd (a163 P) nl nl) nl)) (nd (a51 P) (nd (a83 P) (nd (a147 P) nl nl) nl) (nd (a115 P) (nd (a179 P) nl nl) nl))) (nd (a27 P) (nd (a43 P) (nd (a75 P) (nd (a139 P) nl nl) nl) (nd (a107 P) (nd (a171 P) nl nl) nl)) (nd (a59 P) (nd (a91 P) (nd (a155 P) nl nl) nl) (nd (a123 P) nl nl))))) (nd (boot_o_5 P) (nd (boot_o_9 P) (nd (a17 P) (nd (a33 P) (nd (a65 P) (nd (a129 P) nl nl) nl) (nd (a97 P) (nd (a161 P) nl nl) nl)) (nd (a49 P) (nd (a81 P) (nd (a145 P) nl nl) nl) (nd (a113 P) (nd (a177 P) nl nl) nl))) (nd (a25 P) (nd (a41 P) (nd (a73 P) (nd (a137 P) nl nl) nl) (nd (a105 P) (nd (a169 P) nl nl) nl)) (nd (a57 P) (nd (a89 P) (nd (a153 P) nl nl) nl) (nd (a121 P) nl nl)))) (nd (a13 P) (nd (a21 P) (nd (a37 P) (nd (a69 P) (nd (a133 P) nl nl) nl) (nd (a101 P) (nd (a165 P) nl nl) nl)) (nd (a53 P) (nd (a85 P) (nd (a149 P) nl nl) nl) (nd (a117 P) nl nl))) (nd (a29 P) (nd (a45 P) (nd (a77 P) (nd (a141 P) nl nl) nl) (nd (a109 P) (nd (a173 P) nl nl) nl)) (nd (a61 P) (nd (a93 P) (nd (a157 P) nl nl) nl) (nd (a125 P) nl nl)))))) (nd (a2 P) (nd (boot_o_4 P) (nd (boot_o_8 P) (nd (a16 P) (nd (a32 P) (nd (a64 P) (nd (a128 P) nl nl) nl) (nd (a96 P) (nd (a160 P) nl nl) nl)) (nd (a48 P) (nd (a80 P) (nd (a144 P) nl nl) nl) (nd (a112 P) (nd (a176 P) nl nl) nl))) (nd (a24 P) (nd (a40 P) (nd (a72 P) (nd (a136 P) nl nl) nl) (nd (a104 P) (nd (a168 P) nl nl) nl)) (nd (a56 P) (nd (a88 P) (nd (a152 P) nl nl) nl) (nd (a120 P) nl nl)))) (nd (a12_5 P) (nd (a20 P) (nd (a36 P) (nd (a68 P) (nd (a132 P) nl nl) nl) (nd (a100 P) (nd (a164 P) nl nl) nl)) (nd (a52 P) (nd (a84 P) (nd (a148 P) nl nl) nl) (nd (a116 P) (nd (a180 P) nl nl) nl))) (nd (a28 P) (nd (a44 P) (nd (a76 P) (nd (a140 P) nl nl) nl) (nd (a108 P) (nd (a172 P) nl nl) nl)) (nd (a60 P) (nd (a92 P) (nd (a156 P) nl nl) nl) (nd (a124 P) nl nl))))) (nd (boot_o_6 P) (nd (boot_o_10 P) (nd (a18 P) (nd (a34 P) (nd (a66 P) (nd (a130 P) nl nl) nl) (nd (a98 P) (nd (a162 P) nl nl) nl)) (nd (a50 P) (nd (a82 P) (nd (a146 P) nl nl) nl) (nd (a114 P) (nd (a178 P) nl nl) nl))) (nd (a26 P) (nd (a42 P) (nd (a74_1 P) (nd (a138 P) nl nl) nl) (nd (a106 P) (nd (a170 P) nl nl) nl)) (nd (a58 P) (nd (a90 P) (nd (a154 P) nl nl) nl) (nd (a122 P) nl nl)))) (nd (a14 P) (nd (a22 P) (nd (a38 P) (nd (a70 P) (nd (a134 P) nl nl) nl) (nd (a102 P) (nd (a166 P) nl nl) nl)) (nd (a54 P) (nd (a86 P) (nd (a150 P) nl nl) nl) (nd (a118 P) nl nl))) (nd (a30 P) (nd (a46 P) (nd (a78 P) (nd (a142 P) nl nl) nl) (nd (a110 P) (nd (a174 P) nl nl) nl)) (nd (a62 P) (nd (a94 P) (nd (a158 P) nl nl) nl) (nd (a126 P) nl nl)))))))
noncomputable def a3_5 (P : Params) : Obj := ⟨(.type "dict"), none, (.dict #[kv P "__name__" 165 (vS "lua.lexer" 433), kv P "__doc__" 166 .none, kv P "__package__" 167 .none, kv P "__loader__" 168 (.builtin "__main__.__loader__#opaque"), kv P "__spec__" 169 .none, kv P "__annotations__" 170 (.ref 6), kv P "__builtins__" 171 (.ref 4), kv P "__file__" 173 (vS "/claim/cut.py" 172), kv P "__cached__" 174 .none, kv P "_wall" 193 (.ref 21), kv P "BLANKS" 197 (.bytes #[32, 9, 10, 11, 12, 13] 196), kv P "Limits" 268 (.ref 53), kv P "LuaError" 299 (.ref 74), kv P "LuaSyntaxError" 315 (.ref 87), kv P "is_number" 322 (.ref 96), kv P "wrap" 331 (.ref 103), kv P "is_blank" 338 (.ref 110), kv P "is_blank_values" 339 (.ref 110), kv P "digit_of" 346 (.ref 117), kv P "read_digits" 359 (.ref 124), kv P "skip_blanks" 367 (.ref 131), kv P "str_to_number" 375 (.ref 138), kv P "text_in_base" 389 (.ref 145), kv P "number_text" 398 (.ref 152), kv P "to_text" 405 (.ref 159), kv P "c_text" 413 (.ref 166), kv P "first_line" 421 (.ref 173), kv P "chunk_id" 432 (.ref 180), kv P "END_OF_TEXT" 437 (.int (-1) 436), kv P "FIRST_RESERVED" 439 (.int 257 438), kv P "RESERVED" 461 (.ref 181), kv P "TK_CONCAT" 463 (.int 278 462), kv P "TK_DOTS" 465 (.int 279 464), kv P "TK_EQ" 467 (.int 280 466), kv P "TK_GE" 469 (.int 281 468), kv P "TK_LE" 471 (.int 282 470), kv P "TK_NE" 473 (.int 283 472), kv P "TK_NUMBER" 475 (.int 284 474), kv P "TK_NAME" 477 (.int 285 476), kv P "TK_STRING" 479 (.int 286 478), kv P "TK_EOS" 481 (.int 287 480), kv P "OTHER_TEXTS" 492 (.ref 182)] 42), #[]⟩
noncomputable def a181 (_ : Params) : Obj := ⟨(.type "list"), none, (.seq #[(.bytes #[97, 110, 100] 440), (.bytes #[98, 114, 101, 97, 107] 441), (.bytes #[100, 111] 442), (.bytes #[101, 108, 115, 101] 443), (.bytes #[101, 108, 115, 101, 105, 102] 444), (.bytes #[101, 110, 100] 445), (.bytes #[102, 97, 108, 115, 101] 446), (.bytes #[102, 111, 114] 447), (.bytes #[102, 117, 110, 99, 116, 105, 111, 110] 448), (.bytes #[105, 102] 449), (.bytes #[105, 110] 450), (.bytes #[108, 111, 99, 97, 108] 451), (.bytes #[110, 105, 108] 452), (.bytes #[110, 111, 116] 453), (.bytes #[111, 114] 454), (.bytes #[114, 101, 112, 101, 97, 116] 455), (.bytes #[114, 101, 116, 117, 114, 110] 456), (.bytes #[116, 104, 101, 110] 457), (.bytes #[116, 114, 117, 101] 458), (.bytes #[117, 110, 116, 105, 108] 459), (.bytes #[119, 104, 105, 108, 101] 460)] 0), #[]⟩
noncomputable def a182 (_ : Params) : Obj := ⟨(.type "list"), none, (.seq #[(.bytes #[46, 46] 482), (.bytes #[46, 46, 46] 483), (.bytes #[61, 61] 484), (.bytes #[62, 61] 485), (.bytes #[60, 61] 486), (.bytes #[126, 61] 487), (.bytes #[60, 110, 117, 109, 98, 101, 114, 62] 488), (.bytes #[60, 110, 97, 109, 101, 62] 489), (.bytes #[60, 115, 116, 114, 105, 110, 103, 62] 490), (.bytes #[60, 101, 111, 102, 62] 491)] 0), #[]⟩
noncomputable def tr6 (P : Params) : BT := (nd (boot_o_0 P) (nd (boot_o_1 P) (nd (a3_5 P) (nd (boot_o_7 P) (nd (a15 P) (nd (a31 P) (nd (a63 P) (nd (a127 P) nl nl) nl) (nd (a95 P) (nd (a159 P) nl nl) nl)) (nd (a47 P) (nd (a79 P) (nd (a143 P) nl nl) nl) (nd (a111 P) (nd (a175 P) nl nl) nl))) (nd (a23 P) (nd (a39 P) (nd (a71 P) (nd (a135 P) nl nl) nl) (nd (a103 P) (nd (a167 P) nl nl) nl)) (nd (a55 P) (nd (a87 P) (nd (a151 P) nl nl) nl) (nd (a119 P) nl nl)))) (nd (a11 P) (nd (a19 P) (nd (a35 P) (nd (a67 P) (nd (a131 P) nl nl) nl) (nd (a99 P) (nd (a163 P) nl nl) nl)) (nd (a51 P) (nd (a83 P) (nd (a147 P) nl nl) nl) (nd (a115 P) (nd (a179 P) nl nl) nl))) (nd (a27 P) (nd (a43 P) (nd (a75 P) (nd (a139 P) nl nl) nl) (nd (a107 P) (nd (a171 P) nl nl) nl)) (nd (a59 P) (nd (a91 P) (nd (a155 P) nl nl) nl) (nd (a123 P) nl nl))))) (nd (boot_o_5 P) (nd (boot_o_9 P) (nd (a17 P) (nd (a33 P) (nd (a65 P) (nd (a129 P) nl nl) nl) (nd (a97 P) (nd (a161 P) nl nl) nl)) (nd (a49 P) (nd (a81 P) (nd (a145 P) nl nl) nl) (nd (a113 P) (nd (a177 P) nl nl) nl))) (nd (a25 P) (nd (a41 P) (nd (a73 P) (nd (a137 P) nl nl) nl) (nd (a105 P) (nd (a169 P) nl nl) nl)) (nd (a57 P) (nd (a89 P) (nd (a153 P) nl nl) nl) (nd (a121 P) nl nl)))) (nd (a13 P) (nd (a21 P) (nd (a37 P) (nd (a69 P) (nd (a133 P) nl nl) nl) (nd (a101 P) (nd (a165 P) nl nl) nl)) (nd (a53 P) (nd (a85 P) (nd (a149 P) nl nl) nl) (nd (a117 P) (nd (a181 P) nl nl) nl))) (nd (a29 P) (nd (a45 P) (nd (a77 P) (nd (a141 P) nl nl) nl) (nd (a109 P) (nd (a173 P) nl nl) nl)) (nd (a61 P) (nd (a93 P) (nd (a157 P) nl nl) nl) (nd (a125 P) nl nl)))))) (nd (a2 P) (nd (boot_o_4 P) (nd (boot_o_8 P) (nd (a16 P) (nd (a32 P) (nd (a64 P) (nd (a128 P) nl nl) nl) (nd (a96 P) (nd (a160 P) nl nl) nl)) (nd (a48 P) (nd (a80 P) (nd (a144 P) nl nl) nl) (nd (a112 P) (nd (a176 P) nl nl) nl))) (nd (a24 P) (nd (a40 P) (nd (a72 P) (nd (a136 P) nl nl) nl) (nd (a104 P) (nd (a168 P) nl nl) nl)) (nd (a56 P) (nd (a88 P) (nd (a152 P) nl nl) nl) (nd (a120 P) nl nl)))) (nd (a12_5 P) (nd (a20 P) (nd (a36 P) (nd (a68 P) (nd (a132 P) nl nl) nl) (nd (a100 P) (nd (a164 P) nl nl) nl)) (nd (a52 P) (nd (a84 P) (nd (a148 P) nl nl) nl) (nd (a116 P) (nd (a180 P) nl nl) nl))) (nd (a28 P) (nd (a44 P) (nd (a76 P) (nd (a140 P) nl nl) nl) (nd (a108 P) (nd (a172 P) nl nl) nl)) (nd (a60 P) (nd (a92 P) (nd (a156 P) nl nl) nl) (nd (a124 P) nl nl))))) (nd (boot_o_6 P) (nd (boot_o_10 P) (nd (a18 P) (nd (a34 P) (nd (a66 P) (nd (a130 P) nl nl) nl) (nd (a98 P) (nd (a162 P) nl nl) nl)) (nd (a50 P) (nd (a82 P) (nd (a146 P) nl nl) nl) (nd (a114 P) (nd (a178 P) nl nl) nl))) (nd (a26 P) (nd (a42 P) (nd (a74_1 P) (nd (a138 P) nl nl) nl) (nd (a106 P) (nd (a170 P) nl nl) nl)) (nd (a58 P) (nd (a90 P) (nd (a154 P) nl nl) nl) (nd (a122 P) nl nl)))) (nd (a14 P) (nd (a22 P) (nd (a38 P) (nd (a70 P) (nd (a134 P) nl nl) nl) (nd (a102 P) (nd (a166 P) nl nl) nl)) (nd (a54 P) (nd (a86 P) (nd (a150 P) nl nl) nl) (nd (a118 P) (nd (a182 P) nl nl) nl))) (nd (a30 P) (nd (a46 P) (nd (a78 P) (nd (a142 P) nl nl) nl) (nd (a110 P) (nd (a174 P) nl nl) nl)) (nd (a62 P) (nd (a94 P) (nd (a158 P) nl nl) nl) (nd (a126 P) nl nl)))))))
noncomputable def a3_6 (P : Params) : Obj := ⟨(.type "dict"), none, (.dict #[kv P "__name__" 165 (vS "lua.lexer" 433), kv P "__doc__" 166 .none, kv P "__package__" 167 .none, kv P "__loader__" 168 (.builtin "__main__.__loader__#opaque"), kv P "__spec__" 169 .none, kv P "__annotations__" 170 (.ref 6), kv P "__builtins__" 171 (.ref 4), kv P "__file__" 173 (vS "/claim/cut.py" 172), kv P "__cached__" 174 .none, kv P "_wall" 193 (.ref 21), kv P "BLANKS" 197 (.bytes #[32, 9, 10, 11, 12, 13] 196), kv P "Limits" 268 (.ref 53), kv P "LuaError" 299 (.ref 74), kv P "LuaSyntaxError" 315 (.ref 87), kv P "is_number" 322 (.ref 96), kv P "wrap" 331 (.ref 103), kv P "is_blank" 338 (.ref 110), kv P "is_blank_values" 339 (.ref 110), kv P "digit_of" 346 (.ref 117), kv P "read_digits" 359 (.ref 124), kv P "skip_blanks" 367 (.ref 131), kv P "str_to_number" 375 (.ref 138), kv P "text_in_base" 389 (.ref 145), kv P "number_text" 398 (.ref 152), kv P "to_text" 405 (.ref 159), kv P "c_text" 413 (.ref 166), kv P "first_line" 421 (.ref 173), kv P "chunk_id" 432 (.ref 180), kv P "END_OF_TEXT" 437 (.int (-1) 436), kv P "FIRST_RESERVED" 439 (.int 257 438), kv P "RESERVED" 461 (.ref 181), kv P "TK_CONCAT" 463 (.int 278 462), kv P "TK_DOTS" 465 (.int 279 464), kv P "TK_EQ" 467 (.int 280 466), kv P "TK_GE" 469 (.int 281 468), kv P "TK_LE" 471 (.int 282 470), kv P "TK_NE" 473 (.int 283 472), kv P "TK_NUMBER" 475 (.int 284 474), kv P "TK_NAME" 477 (.int 285 476), kv P "TK_STRING" 479 (.int 286 478), kv P "TK_EOS" 481 (.int 287 480), kv P "OTHER_TEXTS" 492 (.ref 182), kv P "SOURCE_SIZE" 494 (.int 80 493), kv P "MOST_LINES" 496 (.int 2147483645 495), kv P "NEWLINE" 498 (.int 10 497), kv P "RETURN" 500 (.int 13 499), kv P "QUOTE_DOUBLE" 502 (.int 34 501), kv P "QUOTE_SINGLE" 504 (.int 39 503), kv P "PLUS" 506 (.int 43 505), kv P "MINUS" 508 (.int 45 507), kv P "DOT" 510 (.int 46 509), kv P "LESS" 512 (.int 60 511), kv P "EQUALS" 514 (.int 61 513), kv P "GREATER" 516 (.int 62 515), kv P "BRACKET_OPEN" 518 (.int 91 517), kv P "BACKSLASH" 520 (.int 92 519), kv P "BRACKET_CLOSE" 522 (.int 93 521), kv P "UNDERSCORE" 524 (.int 95 523), kv P "TILDE" 526 (.int 126 525)] 59), #[]⟩
noncomputable def tr7 (P : Params) : BT := (nd (boot_o_0 P) (nd (boot_o_1 P) (nd (a3_6 P) (nd (boot_o_7 P) (nd (a15 P) (nd (a31 P) (nd (a63 P) (nd (a127 P) nl nl) nl) (nd (a95 P) (nd (a159 P) nl nl) nl)) (nd (a47 P) (nd (a79 P) (nd (a143 P) nl nl) nl) (nd (a111 P) (nd (a175 P) nl nl) nl))) (nd (a23 P) (nd (a39 P) (nd (a71 P) (nd (a135 P) nl nl) nl) (nd (a103 P) (nd (a167 P) nl nl) nl)) (nd (a55 P) (nd (a87 P) (nd (a151 P) nl nl) nl) (nd (a119 P) nl nl)))) (nd (a11 P) (nd (a19 P) (nd (a35 P) (nd (a67 P) (nd (a131 P) nl nl) nl) (nd (a99 P) (nd (a163 P) nl nl) nl)) (nd (a51 P) (nd (a83 P) (nd (a147 P) nl nl) nl) (nd (a115 P) (nd (a179 P) nl nl) nl))) (nd (a27 P) (nd (a43 P) (nd (a75 P) (nd (a139 P) nl nl) nl) (nd (a107 P) (nd (a171 P) nl nl) nl)) (nd (a59 P) (nd (a91 P) (nd (a155 P) nl nl) nl) (nd (a123 P) nl nl))))) (nd (boot_o_5 P) (nd (boot_o_9 P) (nd (a17 P) (nd (a33 P) (nd (a65 P) (nd (a129 P) nl nl) nl) (nd (a97 P) (nd (a161 P) nl nl) nl)) (nd (a49 P) (nd (a81 P) (nd (a145 P) nl nl) nl) (nd (a113 P) (nd (a177 P) nl nl) nl))) (nd (a25 P) (nd (a41 P) (nd (a73 P) (nd (a137 P) nl nl) nl) (nd (a105 P) (nd (a169 P) nl nl) nl)) (nd (a57 P) (nd (a89 P) (nd (a153 P) nl nl) nl) (nd (a121 P) nl nl)))) (nd (a13 P) (nd (a21 P) (nd (a37 P) (nd (a69 P) (nd (a133 P) nl nl) nl) (nd (a101 P) (nd (a165 P) nl nl) nl)) (nd (a53 P) (nd (a85 P) (nd (a149 P) nl nl) nl) (nd (a117 P) (nd (a181 P) nl nl) nl))) (nd (a29 P) (nd (a45 P) (nd (a77 P) (nd (a141 P) nl nl) nl) (nd (a109 P) (nd (a173 P) nl nl) nl)) (nd (a61 P) (nd (a93 P) (nd (a157 P) nl nl) nl) (nd (a125 P) nl nl)))))) (nd (a2 P) (nd (boot_o_4 P) (nd (boot_o_8 P) (nd (a16 P) (nd (a32 P) (nd (a64 P) (nd (a128 P) nl nl) nl) (nd (a96 P) (nd (a160 P) nl nl) nl)) (nd (a48 P) (nd (a80 P) (nd (a144 P) nl nl) nl) (nd (a112 P) (nd (a176 P) nl nl) nl))) (nd (a24 P) (nd (a40 P) (nd (a72 P) (nd (a136 P) nl nl) nl) (nd (a104 P) (nd (a168 P) nl nl) nl)) (nd (a56 P) (nd (a88 P) (nd (a152 P) nl nl) nl) (nd (a120 P) nl nl)))) (nd (a12_5 P) (nd (a20 P) (nd (a36 P) (nd (a68 P) (nd (a132 P) nl nl) nl) (nd (a100 P) (nd (a164 P) nl nl) nl)) (nd (a52 P) (nd (a84 P) (nd (a148 P) nl nl) nl) (nd (a116 P) (nd (a180 P) nl nl) nl))) (nd (a28 P) (nd (a44 P) (nd (a76 P) (nd (a140 P) nl nl) nl) (nd (a108 P) (nd (a172 P) nl nl) nl)) (nd (a60 P) (nd (a92 P) (nd (a156 P) nl nl) nl) (nd (a124 P) nl nl))))) (nd (boot_o_6 P) (nd (boot_o_10 P) (nd (a18 P) (nd (a34 P) (nd (a66 P) (nd (a130 P) nl nl) nl) (nd (a98 P) (nd (a162 P) nl nl) nl)) (nd (a50 P) (nd (a82 P) (nd (a146 P) nl nl) nl) (nd (a114 P) (nd (a178 P) nl nl) nl))) (nd (a26 P) (nd (a42 P) (nd (a74_1 P) (nd (a138 P) nl nl) nl) (nd (a106 P) (nd (a170 P) nl nl) nl)) (nd (a58 P) (nd (a90 P) (nd (a154 P) nl nl) nl) (nd (a122 P) nl nl)))) (nd (a14 P) (nd (a22 P) (nd (a38 P) (nd (a70 P) (nd (a134 P) nl nl) nl) (nd (a102 P) (nd (a166 P) nl nl) nl)) (nd (a54 P) (nd (a86 P) (nd (a150 P) nl nl) nl) (nd (a118 P) (nd (a182 P) nl nl) nl))) (nd (a30 P) (nd (a46 P) (nd (a78 P) (nd (a142 P) nl nl) nl) (nd (a110 P) (nd (a174 P) nl nl) nl)) (nd (a62 P) (nd (a94 P) (nd (a158 P) nl nl) nl) (nd (a126 P) nl nl)))))))
noncomputable def a3_7 (P : Params) : Obj := ⟨(.type "dict"), none, (.dict #[kv P "__name__" 165 (vS "lua.lexer" 433), kv P "__doc__" 166 .none, kv P "__package__" 167 .none, kv P "__loader__" 168 (.builtin "__main__.__loader__#opaque"), kv P "__spec__" 169 .none, kv P "__annotations__" 170 (.ref 6), kv P "__builtins__" 171 (.ref 4), kv P "__file__" 173 (vS "/claim/cut.py" 172), kv P "__cached__" 174 .none, kv P "_wall" 193 (.ref 21), kv P "BLANKS" 197 (.bytes #[32, 9, 10, 11, 12, 13] 196), kv P "Limits" 268 (.ref 53), kv P "LuaError" 299 (.ref 74), kv P "LuaSyntaxError" 315 (.ref 87), kv P "is_number" 322 (.ref 96), kv P "wrap" 331 (.ref 103), kv P "is_blank" 338 (.ref 210), kv P "is_blank_values" 339 (.ref 110), kv P "digit_of" 346 (.ref 117), kv P "read_digits" 359 (.ref 124), kv P "skip_blanks" 367 (.ref 131), kv P "str_to_number" 375 (.ref 138), kv P "text_in_base" 389 (.ref 145), kv P "number_text" 398 (.ref 152), kv P "to_text" 405 (.ref 159), kv P "c_text" 413 (.ref 166), kv P "first_line" 421 (.ref 173), kv P "chunk_id" 432 (.ref 180), kv P "END_OF_TEXT" 437 (.int (-1) 436), kv P "FIRST_RESERVED" 439 (.int 257 438), kv P "RESERVED" 461 (.ref 181), kv P "TK_CONCAT" 463 (.int 278 462), kv P "TK_DOTS" 465 (.int 279 464), kv P "TK_EQ" 467 (.int 280 466), kv P "TK_GE" 469 (.int 281 468), kv P "TK_LE" 471 (.int 282 470), kv P "TK_NE" 473 (.int 283 472), kv P "TK_NUMBER" 475 (.int 284 474), kv P "TK_NAME" 477 (.int 285 476), kv P "TK_STRING" 479 (.int 286 478), kv P "TK_EOS" 481 (.int 287 480), kv P "OTHER_TEXTS" 492 (.ref 182), kv P "SOURCE_SIZE" 494 (.int 80 493), kv P "MOST_LINES" 496 (.int 2147483645 495), kv P "NEWLINE" 498 (.int 10 497), kv P "RETURN" 500 (.int 13 499), kv P "QUOTE_DOUBLE" 502 (.int 34 501), kv P "QUOTE_SINGLE" 504 (.int 39 503), kv P "PLUS" 506 (.int 43 505), kv P "MINUS" 508 (.int 45 507), kv P "DOT" 510 (.int 46 509), kv P "LESS" 512 (.int 60 511), kv P "EQUALS" 514 (.int 61 513), kv P "GREATER" 516 (.int 62 515), kv P "BRACKET_OPEN" 518 (.int 91 517), kv P "BACKSLASH" 520 (.int 92 519), kv P "BRACKET_CLOSE" 522 (.int 93 521), kv P "UNDERSCORE" 524 (.int 95 523), kv P "TILDE" 526 (.int 126 525), kv P "is_digit" 533 (.ref 189), kv P "is_letter" 540 (.ref 196), kv P "is_name_sign" 547 (.ref 203), kv P "is_blank_lexer" 555 (.ref 210), kv P "is_control" 562 (.ref 217), kv P "is_newline" 569 (.ref 224), kv P "escaped_sign" 577 (.ref 231), kv P "reserved_kinds" 586 (.ref 238), kv P "token_text" 594 (.ref 245)] 68), #[]⟩
noncomputable def a12_6 (_ : Params) : Obj := oNo #[(.int 1 0), (.int 0 0), (.ref 20), (.int 6 0), (.int 0 0), (.ref 27), (.int 25 0), (.int 0 0), (.ref 63), (.int 31 0), (.int 0 0), (.ref 83), (.int 33 0), (.int 0 0), (.ref 95), (.int 35 0), (.int 0 0), (.ref 102), (.int 40 0), (.int 0 0), (.ref 109), (.int 43 0), (.int 0 0), (.ref 116), (.int 51 0), (.int 0 0), (.ref 123), (.int 60 0), (.int 0 0), (.ref 130), (.int 64 0), (.int 0 0), (.ref 137), (.int 66 0), (.int 0 0), (.ref 144), (.int 78 0), (.int 0 0), (.ref 151), (.int 88 0), (.int 0 0), (.ref 158), (.int 94 0), (.int 0 0), (.ref 165), (.int 99 0), (.int 0 0), (.ref 172), (.int 104 0), (.int 0 0), (.ref 179), (.int 149 0), (.int 0 0), (.ref 188), (.int 151 0), (.int 0 0), (.ref 195), (.int 153 0), (.int 0 0), (.ref 202), (.int 155 0), (.int 0 0), (.ref 209), (.int 158 0), (.int 0 0), (.ref 216), (.int 160 0), (.int 0 0), (.ref 223), (.int 162 0), (.int 0 0), (.ref 230), (.int 165 0), (.int 0 0), (.ref 237), (.int 170 0), (.int 0 0), (.ref 244)]
noncomputable def a183 (_ : Params) : Obj := oTu #[]
noncomputable def a184 (_ : Params) : Obj := oNo #[]
noncomputable def a185 (_ : Params) : Obj := oTu #[(vS "sign" 530)]
noncomputable def a186 (_ : Params) : Obj := oTu #[]
noncomputable def fd187 : FuncData := fo (sT 52) (sx "is_digit") (sx "is_digit") 0 .none .none .none
noncomputable def a187 (_ : Params) : Obj := oNf fd187
noncomputable def a188 (_ : Params) : Obj := oCo #[(vS "is_digit" 527), (vS "is_digit" 528), (vS "/claim/cut.py" 529), (.int 149 0), (.int 1 0), (.int 0 0), (.int 0 0), (.int 3 0), (.ref 183), (.bool true), (.int 181 0), (.ref 184), .none, (.ref 185), (.ref 186), (.ref 187), (.int 531 0), (.int 149 0), (vS "/claim/cut.py" 532)]
noncomputable def fd189 : FuncData := fo (sT 52) (sx "is_digit") (sx "is_digit") 3 .none (vS "lua.lexer" 433) (.ref 188)
noncomputable def a189 (_ : Params) : Obj := oFn fd189
noncomputable def a190 (_ : Params) : Obj := oTu #[]
noncomputable def a191 (_ : Params) : Obj := oNo #[]
noncomputable def a192 (_ : Params) : Obj := oTu #[(vS "sign" 537)]
noncomputable def a193 (_ : Params) : Obj := oTu #[]
noncomputable def fd194 : FuncData := fo (sT 53) (sx "is_letter") (sx "is_letter") 0 .none .none .none
noncomputable def a194 (_ : Params) : Obj := oNf fd194
noncomputable def a195 (_ : Params) : Obj := oCo #[(vS "is_letter" 534), (vS "is_letter" 535), (vS "/claim/cut.py" 536), (.int 151 0), (.int 1 0), (.int 0 0), (.int 0 0), (.int 3 0), (.ref 190), (.bool true), (.int 181 0), (.ref 191), .none, (.ref 192), (.ref 193), (.ref 194), (.int 538 0), (.int 151 0), (vS "/claim/cut.py" 539)]
noncomputable def fd196 : FuncData := fo (sT 53) (sx "is_letter") (sx "is_letter") 3 .none (vS "lua.lexer" 433) (.ref 195)
noncomputable def a196 (_ : Params) : Obj := oFn fd196
noncomputable def a197 (_ : Params) : Obj := oTu #[]
noncomputable def a198 (_ : Params) : Obj := oNo #[]
noncomputable def a199 (_ : Params) : Obj := oTu #[(vS "sign" 544)]
noncomputable def a200 (_ : Params) : Obj := oTu #[]
noncomputable def fd201 : FuncData := fo (sT 54) (sx "is_name_sign") (sx "is_name_sign") 0 .none .none .none
noncomputable def a201 (_ : Params) : Obj := oNf fd201
noncomputable def a202 (_ : Params) : Obj := oCo #[(vS "is_name_sign" 541), (vS "is_name_sign" 542), (vS "/claim/cut.py" 543), (.int 153 0), (.int 1 0), (.int 0 0), (.int 0 0), (.int 3 0), (.ref 197), (.bool true), (.int 181 0), (.ref 198), .none, (.ref 199), (.ref 200), (.ref 201), (.int 545 0), (.int 153 0), (vS "/claim/cut.py" 546)]
noncomputable def fd203 : FuncData := fo (sT 54) (sx "is_name_sign") (sx "is_name_sign") 3 .none (vS "lua.lexer" 433) (.ref 202)
noncomputable def a203 (_ : Params) : Obj := oFn fd203
noncomputable def a204 (_ : Params) : Obj := oTu #[]
noncomputable def a205 (_ : Params) : Obj := oNo #[]
noncomputable def a206 (_ : Params) : Obj := oTu #[(vS "sign" 551)]
noncomputable def a207 (_ : Params) : Obj := oTu #[]
noncomputable def fd208 : FuncData := fo (sT 55) (sx "is_blank") (sx "is_blank") 0 .none .none .none
noncomputable def a208 (_ : Params) : Obj := oNf fd208
noncomputable def a209 (_ : Params) : Obj := oCo #[(vS "is_blank" 548), (vS "is_blank" 549), (vS "/claim/cut.py" 550), (.int 155 0), (.int 1 0), (.int 0 0), (.int 0 0), (.int 3 0), (.ref 204), (.bool true), (.int 181 0), (.ref 205), .none, (.ref 206), (.ref 207), (.ref 208), (.int 552 0), (.int 155 0), (vS "/claim/cut.py" 553)]
noncomputable def fd210 : FuncData := fo (sT 55) (sx "is_blank") (sx "is_blank") 3 .none (vS "lua.lexer" 433) (.ref 209)
noncomputable def a210 (_ : Params) : Obj := oFn fd210
noncomputable def a211 (_ : Params) : Obj := oTu #[]
noncomputable def a212 (_ : Params) : Obj := oNo #[]
noncomputable def a213 (_ : Params) : Obj := oTu #[(vS "sign" 559)]
noncomputable def a214 (_ : Params) : Obj := oTu #[]
noncomputable def fd215 : FuncData := fo (sT 57) (sx "is_control") (sx "is_control") 0 .none .none .none
noncomputable def a215 (_ : Params) : Obj := oNf fd215
noncomputable def a216 (_ : Params) : Obj := oCo #[(vS "is_control" 556), (vS "is_control" 557), (vS "/claim/cut.py" 558), (.int 158 0), (.int 1 0), (.int 0 0), (.int 0 0), (.int 3 0), (.ref 211), (.bool true), (.int 181 0), (.ref 212), .none, (.ref 213), (.ref 214), (.ref 215), (.int 560 0), (.int 158 0), (vS "/claim/cut.py" 561)]
noncomputable def fd217 : FuncData := fo (sT 57) (sx "is_control") (sx "is_control") 3 .none (vS "lua.lexer" 433) (.ref 216)
noncomputable def a217 (_ : Params) : Obj := oFn fd217
noncomputable def a218 (_ : Params) : Obj := oTu #[]
noncomputable def a219 (_ : Params) : Obj := oNo #[]
noncomputable def a220 (_ : Params) : Obj := oTu #[(vS "sign" 566)]
noncomputable def a221 (_ : Params) : Obj := oTu #[]
noncomputable def fd222 : FuncData := fo (sT 58) (sx "is_newline") (sx "is_newline") 0 .none .none .none
noncomputable def a222 (_ : Params) : Obj := oNf fd222
noncomputable def a223 (_ : Params) : Obj := oCo #[(vS "is_newline" 563), (vS "is_newline" 564), (vS "/claim/cut.py" 565), (.int 160 0), (.int 1 0), (.int 0 0), (.int 0 0), (.int 3 0), (.ref 218), (.bool true), (.int 181 0), (.ref 219), .none, (.ref 220), (.ref 221), (.ref 222), (.int 567 0), (.int 160 0), (vS "/claim/cut.py" 568)]
noncomputable def fd224 : FuncData := fo (sT 58) (sx "is_newline") (sx "is_newline") 3 .none (vS "lua.lexer" 433) (.ref 223)
noncomputable def a224 (_ : Params) : Obj := oFn fd224
noncomputable def a225 (_ : Params) : Obj := oTu #[]
noncomputable def a226 (_ : Params) : Obj := oNo #[]
noncomputable def a227 (_ : Params) : Obj := oTu #[(vS "sign" 573), (vS "at" 574)]
noncomputable def a228 (_ : Params) : Obj := oTu #[]
noncomputable def fd229 : FuncData := fo (sT 59) (sx "escaped_sign") (sx "escaped_sign") 0 .none .none .none
noncomputable def a229 (_ : Params) : Obj := oNf fd229
noncomputable def a230 (_ : Params) : Obj := oCo #[(vS "escaped_sign" 570), (vS "escaped_sign" 571), (vS "/claim/cut.py" 572), (.int 162 0), (.int 1 0), (.int 0 0), (.int 0 0), (.int 3 0), (.ref 225), (.bool true), (.int 181 0), (.ref 226), .none, (.ref 227), (.ref 228), (.ref 229), (.int 575 0), (.int 162 0), (vS "/claim/cut.py" 576)]
noncomputable def fd231 : FuncData := fo (sT 59) (sx "escaped_sign") (sx "escaped_sign") 3 .none (vS "lua.lexer" 433) (.ref 230)
noncomputable def a231 (_ : Params) : Obj := oFn fd231
noncomputable def a232 (_ : Params) : Obj := oTu #[]
noncomputable def a233 (_ : Params) : Obj := oNo #[]
noncomputable def a234 (_ : Params) : Obj := oTu #[(vS "kinds" 581), (vS "at" 582), (vS "word" 583)]
noncomputable def a235 (_ : Params) : Obj := oTu #[]
noncomputable def fd236 : FuncData := fo (sT 60) (sx "reserved_kinds") (sx "reserved_kinds") 0 .none .none .none
noncomputable def a236 (_ : Params) : Obj := oNf fd236
noncomputable def a237 (_ : Params) : Obj := oCo #[(vS "reserved_kinds" 578), (vS "reserved_kinds" 579), (vS "/claim/cut.py" 580), (.int 165 0), (.int 0 0), (.int 0 0), (.int 0 0), (.int 3 0), (.ref 232), (.bool true), (.int 181 0), (.ref 233), .none, (.ref 234), (.ref 235), (.ref 236), (.int 584 0), (.int 165 0), (vS "/claim/cut.py" 585)]
noncomputable def fd238 : FuncData := fo (sT 60) (sx "reserved_kinds") (sx "reserved_kinds") 3 .none (vS "lua.lexer" 433) (.ref 237)
noncomputable def a238 (_ : Params) : Obj := oFn fd238
noncomputable def a239 (_ : Params) : Obj := oTu #[]
noncomputable def a240 (_ : Params) : Obj := oNo #[]
noncomputable def a241 (_ : Params) : Obj := oTu #[(vS "kind" 590), (vS "at" 591)]
noncomputable def a242 (_ : Params) : Obj := oTu #[]
noncomputable def fd243 : FuncData := fo (sT 61) (sx "token_text") (sx "token_text") 0 .none .none .none
noncomputable def a243 (_ : Params) : Obj := oNf fd243
noncomputable def a244 (_ : Params) : Obj := oCo #[(vS "token_text" 587), (vS "token_text" 588), (vS "/claim/cut.py" 589), (.int 170 0), (.int 1 0), (.int 0 0), (.int 0 0), (.int 3 0), (.ref 239), (.bool true), (.int 181 0), (.ref 240), .none, (.ref 241), (.ref 242), (.ref 243), (.int 592 0), (.int 170 0), (vS "/claim/cut.py" 593)]
noncomputable def fd245 : FuncData := fo (sT 61) (sx "token_text") (sx "token_text") 3 .none (vS "lua.lexer" 433) (.ref 244)
noncomputable def a245 (_ : Params) : Obj := oFn fd245
noncomputable def tr8 (P : Params) : BT := (nd (boot_o_0 P) (nd (boot_o_1 P) (nd (a3_7 P) (nd (boot_o_7 P) (nd (a15 P) (nd (a31 P) (nd (a63 P) (nd (a127 P) nl nl) (nd (a191 P) nl nl)) (nd (a95 P) (nd (a159 P) nl nl) (nd (a223 P) nl nl))) (nd (a47 P) (nd (a79 P) (nd (a143 P) nl nl) (nd (a207 P) nl nl)) (nd (a111 P) (nd (a175 P) nl nl) (nd (a239 P) nl nl)))) (nd (a23 P) (nd (a39 P) (nd (a71 P) (nd (a135 P) nl nl) (nd (a199 P) nl nl)) (nd (a103 P) (nd (a167 P) nl nl) (nd (a231 P) nl nl))) (nd (a55 P) (nd (a87 P) (nd (a151 P) nl nl) (nd (a215 P) nl nl)) (nd (a119 P) (nd (a183 P) nl nl) nl)))) (nd (a11 P) (nd (a19 P) (nd (a35 P) (nd (a67 P) (nd (a131 P) nl nl) (nd (a195 P) nl nl)) (nd (a99 P) (nd (a163 P) nl nl) (nd (a227 P) nl nl))) (nd (a51 P) (nd (a83 P) (nd (a147 P) nl nl) (nd (a211 P) nl nl)) (nd (a115 P) (nd (a179 P) nl nl) (nd (a243 P) nl nl)))) (nd (a27 P) (nd (a43 P) (nd (a75 P) (nd (a139 P) nl nl) (nd (a203 P) nl nl)) (nd (a107 P) (nd (a171 P) nl nl) (nd (a235 P) nl nl))) (nd (a59 P) (nd (a91 P) (nd (a155 P) nl nl) (nd (a219 P) nl nl)) (nd (a123 P) (nd (a187 P) nl nl) nl))))) (nd (boot_o_5 P) (nd (boot_o_9 P) (nd (a17 P) (nd (a33 P) (nd (a65 P) (nd (a129 P) nl nl) (nd (a193 P) nl nl)) (nd (a97 P) (nd (a161 P) nl nl) (nd (a225 P) nl nl))) (nd (a49 P) (nd (a81 P) (nd (a145 P) nl nl) (nd (a209 P) nl nl)) (nd (a113 P) (nd (a177 P) nl nl) (nd (a241 P) nl nl)))) (nd (a25 P) (nd (a41 P) (nd (a73 P) (nd (a137 P) nl nl) (nd (a201 P) nl nl)) (nd (a105 P) (nd (a169 P) nl nl) (nd (a233 P) nl nl))) (nd (a57 P) (nd (a89 P) (nd (a153 P) nl nl) (nd (a217 P) nl nl)) (nd (a121 P) (nd (a185 P) nl nl) nl)))) (nd (a13 P) (nd (a21 P) (nd (a37 P) (nd (a69 P) (nd (a133 P) nl nl) (nd (a197 P) nl nl)) (nd (a101 P) (nd (a165 P) nl nl) (nd (a229 P) nl nl))) (nd (a53 P) (nd (a85 P) (nd (a149 P) nl nl) (nd (a213 P) nl nl)) (nd (a117 P) (nd (a181 P) nl nl) (nd (a245 P) nl nl)))) (nd (a29 P) (nd (a45 P) (nd (a77 P) (nd (a141 P) nl nl) (nd (a205 P) nl nl)) (nd (a109 P) (nd (a173 P) nl nl) (nd (a237 P) nl nl))) (nd (a61 P) (nd (a93 P) (nd (a157 P) nl nl) (nd (a221 P) nl nl)) (nd (a125 P) (nd (a189 P) nl nl) nl)))))) (nd (a2 P) (nd (boot_o_4 P) (nd (boot_o_8 P) (nd (a16 P) (nd (a32 P) (nd (a64 P) (nd (a128 P) nl nl) (nd (a192 P) nl nl)) (nd (a96 P) (nd (a160 P) nl nl) (nd (a224 P) nl nl))) (nd (a48 P) (nd (a80 P) (nd (a144 P) nl nl) (nd (a208 P) nl nl)) (nd (a112 P) (nd (a176 P) nl nl) (nd (a240 P) nl nl)))) (nd (a24 P) (nd (a40 P) (nd (a72 P) (nd (a136 P) nl nl) (nd (a200 P) nl nl)) (nd (a104 P) (nd (a168 P) nl nl) (nd (a232 P) nl nl))) (nd (a56 P) (nd (a88 P) (nd (a152 P) nl nl) (nd (a216 P) nl nl)) (nd (a120 P) (nd (a184 P) nl nl) nl)))) (nd (a12_6 P) (nd (a20 P) (nd (a36 P) (nd (a68 P) (nd (a132 P) nl nl) (nd (a196 P) nl nl)) (nd (a100 P) (nd (a164 P) nl nl) (nd (a228 P) nl nl))) (nd (a52 P) (nd (a84 P) (nd (a148 P) nl nl) (nd (a212 P) nl nl)) (nd (a116 P) (nd (a180 P) nl nl) (nd (a244 P) nl nl)))) (nd (a28 P) (nd (a44 P) (nd (a76 P) (nd (a140 P) nl nl) (nd (a204 P) nl nl)) (nd (a108 P) (nd (a172 P) nl nl) (nd (a236 P) nl nl))) (nd (a60 P) (nd (a92 P) (nd (a156 P) nl nl) (nd (a220 P) nl nl)) (nd (a124 P) (nd (a188 P) nl nl) nl))))) (nd (boot_o_6 P) (nd (boot_o_10 P) (nd (a18 P) (nd (a34 P) (nd (a66 P) (nd (a130 P) nl nl) (nd (a194 P) nl nl)) (nd (a98 P) (nd (a162 P) nl nl) (nd (a226 P) nl nl))) (nd (a50 P) (nd (a82 P) (nd (a146 P) nl nl) (nd (a210 P) nl nl)) (nd (a114 P) (nd (a178 P) nl nl) (nd (a242 P) nl nl)))) (nd (a26 P) (nd (a42 P) (nd (a74_1 P) (nd (a138 P) nl nl) (nd (a202 P) nl nl)) (nd (a106 P) (nd (a170 P) nl nl) (nd (a234 P) nl nl))) (nd (a58 P) (nd (a90 P) (nd (a154 P) nl nl) (nd (a218 P) nl nl)) (nd (a122 P) (nd (a186 P) nl nl) nl)))) (nd (a14 P) (nd (a22 P) (nd (a38 P) (nd (a70 P) (nd (a134 P) nl nl) (nd (a198 P) nl nl)) (nd (a102 P) (nd (a166 P) nl nl) (nd (a230 P) nl nl))) (nd (a54 P) (nd (a86 P) (nd (a150 P) nl nl) (nd (a214 P) nl nl)) (nd (a118 P) (nd (a182 P) nl nl) nl))) (nd (a30 P) (nd (a46 P) (nd (a78 P) (nd (a142 P) nl nl) (nd (a206 P) nl nl)) (nd (a110 P) (nd (a174 P) nl nl) (nd (a238 P) nl nl))) (nd (a62 P) (nd (a94 P) (nd (a158 P) nl nl) (nd (a222 P) nl nl)) (nd (a126 P) (nd (a190 P) nl nl) nl)))))))
noncomputable def a3_8 (P : Params) : Obj := ⟨(.type "dict"), none, (.dict #[kv P "__name__" 165 (vS "lua.lexer" 433), kv P "__doc__" 166 .none, kv P "__package__" 167 .none, kv P "__loader__" 168 (.builtin "__main__.__loader__#opaque"), kv P "__spec__" 169 .none, kv P "__annotations__" 170 (.ref 6), kv P "__builtins__" 171 (.ref 4), kv P "__file__" 173 (vS "/claim/cut.py" 172), kv P "__cached__" 174 .none, kv P "_wall" 193 (.ref 21), kv P "BLANKS" 197 (.bytes #[32, 9, 10, 11, 12, 13] 196), kv P "Limits" 268 (.ref 53), kv P "LuaError" 299 (.ref 74), kv P "LuaSyntaxError" 315 (.ref 87), kv P "is_number" 322 (.ref 96), kv P "wrap" 331 (.ref 103), kv P "is_blank" 338 (.ref 210), kv P "is_blank_values" 339 (.ref 110), kv P "digit_of" 346 (.ref 117), kv P "read_digits" 359 (.ref 124), kv P "skip_blanks" 367 (.ref 131), kv P "str_to_number" 375 (.ref 138), kv P "text_in_base" 389 (.ref 145), kv P "number_text" 398 (.ref 152), kv P "to_text" 405 (.ref 159), kv P "c_text" 413 (.ref 166), kv P "first_line" 421 (.ref 173), kv P "chunk_id" 432 (.ref 180), kv P "END_OF_TEXT" 437 (.int (-1) 436), kv P "FIRST_RESERVED" 439 (.int 257 438), kv P "RESERVED" 461 (.ref 181), kv P "TK_CONCAT" 463 (.int 278 462), kv P "TK_DOTS" 465 (.int 279 464), kv P "TK_EQ" 467 (.int 280 466), kv P "TK_GE" 469 (.int 281 468), kv P "TK_LE" 471 (.int 282 470), kv P "TK_NE" 473 (.int 283 472), kv P "TK_NUMBER" 475 (.int 284 474), kv P "TK_NAME" 477 (.int 285 476), kv P "TK_STRING" 479 (.int 286 478), kv P "TK_EOS" 481 (.int 287 480), kv P "OTHER_TEXTS" 492 (.ref 182), kv P "SOURCE_SIZE" 494 (.int 80 493), kv P "MOST_LINES" 496 (.int 2147483645 495), kv P "NEWLINE" 498 (.int 10 497), kv P "RETURN" 500 (.int 13 499), kv P "QUOTE_DOUBLE" 502 (.int 34 501), kv P "QUOTE_SINGLE" 504 (.int 39 503), kv P "PLUS" 506 (.int 43 505), kv P "MINUS" 508 (.int 45 507), kv P "DOT" 510 (.int 46 509), kv P "LESS" 512 (.int 60 511), kv P "EQUALS" 514 (.int 61 513), kv P "GREATER" 516 (.int 62 515), kv P "BRACKET_OPEN" 518 (.int 91 517), kv P "BACKSLASH" 520 (.int 92 519), kv P "BRACKET_CLOSE" 522 (.int 93 521), kv P "UNDERSCORE" 524 (.int 95 523), kv P "TILDE" 526 (.int 126 525), kv P "is_digit" 533 (.ref 189), kv P "is_letter" 540 (.ref 196), kv P "is_name_sign" 547 (.ref 203), kv P "is_blank_lexer" 555 (.ref 210), kv P "is_control" 562 (.ref 217), kv P "is_newline" 569 (.ref 224), kv P "escaped_sign" 577 (.ref 231), kv P "reserved_kinds" 586 (.ref 238), kv P "token_text" 594 (.ref 245), kv P "Token" 625 (.ref 262)] 69), #[]⟩
noncomputable def a12_7 (_ : Params) : Obj := oNo #[(.int 1 0), (.int 0 0), (.ref 20), (.int 6 0), (.int 0 0), (.ref 27), (.int 25 0), (.int 0 0), (.ref 63), (.int 31 0), (.int 0 0), (.ref 83), (.int 33 0), (.int 0 0), (.ref 95), (.int 35 0), (.int 0 0), (.ref 102), (.int 40 0), (.int 0 0), (.ref 109), (.int 43 0), (.int 0 0), (.ref 116), (.int 51 0), (.int 0 0), (.ref 123), (.int 60 0), (.int 0 0), (.ref 130), (.int 64 0), (.int 0 0), (.ref 137), (.int 66 0), (.int 0 0), (.ref 144), (.int 78 0), (.int 0 0), (.ref 151), (.int 88 0), (.int 0 0), (.ref 158), (.int 94 0), (.int 0 0), (.ref 165), (.int 99 0), (.int 0 0), (.ref 172), (.int 104 0), (.int 0 0), (.ref 179), (.int 149 0), (.int 0 0), (.ref 188), (.int 151 0), (.int 0 0), (.ref 195), (.int 153 0), (.int 0 0), (.ref 202), (.int 155 0), (.int 0 0), (.ref 209), (.int 158 0), (.int 0 0), (.ref 216), (.int 160 0), (.int 0 0), (.ref 223), (.int 162 0), (.int 0 0), (.ref 230), (.int 165 0), (.int 0 0), (.ref 237), (.int 170 0), (.int 0 0), (.ref 244), (.int 177 0), (.int 0 0), (.ref 251)]
noncomputable def a246 (_ : Params) : Obj := oTu #[]
noncomputable def a247 (_ : Params) : Obj := ⟨(.type "builtin_function_or_method"), none, (.fields #[(.builtin "type.__prepare__"), (.type "type")]), #[]⟩
noncomputable def a248 (P : Params) : Obj := ⟨(.type "dict"), none, (.dict #[kv P "__module__" 602 (vS "lua.lexer" 433), kv P "__qualname__" 604 (vS "Token" 603), kv P "__firstlineno__" 606 (.int 177 605), kv P "__init__" 615 (.ref 259), kv P "__static_attributes__" 618 (.ref 260)] 5), #[]⟩
noncomputable def a249 (_ : Params) : Obj := oTu #[]
noncomputable def a250 (_ : Params) : Obj := oNo #[(.int 179 0), (.int 4 0), (.ref 258)]
noncomputable def a251 (_ : Params) : Obj := oCo #[(vS "Token" 597), (vS "Token" 598), (vS "/claim/cut.py" 599), (.int 177 0), (.int 0 0), (.int 0 0), (.int 0 0), (.int 0 0), (.ref 249), (.bool false), (.int 181 0), (.ref 250), .none, .none, .none, .none, (.int 600 0), (.int 177 0), (vS "/claim/cut.py" 601)]
noncomputable def a252 (_ : Params) : Obj := ⟨(.type "frame"), none, .plain, #[(some (.ref 251)), (some (.ref 3)), (some (.ref 248)), none, (some (vS "lua.lexer" 433)), none, (some (.ref 0))]⟩
noncomputable def a253 (_ : Params) : Obj := oTu #[]
noncomputable def a254 (_ : Params) : Obj := oNo #[]
noncomputable def a255 (_ : Params) : Obj := oTu #[(vS "self" 610), (vS "kind" 611), (vS "value" 612)]
noncomputable def a256 (_ : Params) : Obj := oTu #[]
noncomputable def fd257 : FuncData := fo (sC 62 0) (sx "__init__") (sx "Token.__init__") 0 .none .none .none
noncomputable def a257 (_ : Params) : Obj := oNf fd257
noncomputable def a258 (_ : Params) : Obj := oCo #[(vS "__init__" 607), (vS "Token.__init__" 608), (vS "/claim/cut.py" 609), (.int 179 0), (.int 3 0), (.int 0 0), (.int 0 0), (.int 3 0), (.ref 253), (.bool true), (.int 181 0), (.ref 254), .none, (.ref 255), (.ref 256), (.ref 257), (.int 613 0), (.int 179 0), (vS "/claim/cut.py" 614)]
noncomputable def fd259 : FuncData := fo (sC 62 0) (sx "__init__") (sx "Token.__init__") 3 .none (vS "lua.lexer" 433) (.ref 258)
noncomputable def a259 (_ : Params) : Obj := oFn fd259
noncomputable def a260 (_ : Params) : Obj := oTu #[(vS "kind" 616), (vS "value" 617)]
noncomputable def a261 (P : Params) : Obj := ⟨(.type "dict"), none, (.dict #[kv P "__module__" 602 (vS "lua.lexer" 433), kv P "__firstlineno__" 606 (.int 177 605), kv P "__init__" 615 (.ref 259), kv P "__static_attributes__" 618 (.ref 260), kv P "__dict__" 620 (.ref 263), kv P "__weakref__" 622 (.ref 264), kv P "__doc__" 623 .none] 4), #[]⟩
noncomputable def a262 (_ : Params) : Obj := ⟨(.type "type"), none, (.cls { name := (sx "Token"), bases := [(.type "object")], mro := [(.ref 262), (.type "object")], ns := 261, qualname := (sx "Token"), hasDict := true, slotNames := [], subclasses := [], abstract := false, collection := none, hasDel := false }), #[none, none, (some (vS "Token" 595)), (some (vS "Token" 603)), (some (.builtin "object.__new__")), (some (.bool true))]⟩
noncomputable def a263 (_ : Params) : Obj := ⟨(.type "getset_descriptor"), none, (.fields #[(vS "__dict__" 619), (.ref 262), (.builtin "function.__dict__"), (.builtin "function.__dict__#set")]), #[]⟩
noncomputable def a264 (_ : Params) : Obj := ⟨(.type "getset_descriptor"), none, (.fields #[(vS "__weakref__" 621), (.ref 262), (.builtin "ExceptionGroup.__weakref__"), .none]), #[]⟩
noncomputable def a265 (_ : Params) : Obj := ⟨(.type "super"), none, (.fields #[(.ref 262), (.ref 262), (.ref 262)]), #[]⟩
noncomputable def a266 (_ : Params) : Obj := ⟨(.type "builtin_function_or_method"), none, (.fields #[(.builtin "object.__init_subclass__"), (.ref 262)]), #[]⟩
noncomputable def tr9 (P : Params) : BT := (nd (boot_o_0 P) (nd (boot_o_1 P) (nd (a3_8 P) (nd (boot_o_7 P) (nd (a15 P) (nd (a31 P) (nd (a63 P) (nd (a127 P) (nd (a255 P) nl nl) nl) (nd (a191 P) nl nl)) (nd (a95 P) (nd (a159 P) nl nl) (nd (a223 P) nl nl))) (nd (a47 P) (nd (a79 P) (nd (a143 P) nl nl) (nd (a207 P) nl nl)) (nd (a111 P) (nd (a175 P) nl nl) (nd (a239 P) nl nl)))) (nd (a23 P) (nd (a39 P) (nd (a71 P) (nd (a135 P) (nd (a263 P) nl nl) nl) (nd (a199 P) nl nl)) (nd (a103 P) (nd (a167 P) nl nl) (nd (a231 P) nl nl))) (nd (a55 P) (nd (a87 P) (nd (a151 P) nl nl) (nd (a215 P) nl nl)) (nd (a119 P) (nd (a183 P) nl nl) (nd (a247 P) nl nl))))) (nd (a11 P) (nd (a19 P) (nd (a35 P) (nd (a67 P) (nd (a131 P) (nd (a259 P) nl nl) nl) (nd (a195 P) nl nl)) (nd (a99 P) (nd (a163 P) nl nl) (nd (a227 P) nl nl))) (nd (a51 P) (nd (a83 P) (nd (a147 P) nl nl) (nd (a211 P) nl nl)) (nd (a115 P) (nd (a179 P) nl nl) (nd (a243 P) nl nl)))) (nd (a27 P) (nd (a43 P) (nd (a75 P) (nd (a139 P) nl nl) (nd (a203 P) nl nl)) (nd (a107 P) (nd (a171 P) nl nl) (nd (a235 P) nl nl))) (nd (a59 P) (nd (a91 P) (nd (a155 P) nl nl) (nd (a219 P) nl nl)) (nd (a123 P) (nd (a187 P) nl nl) (nd (a251 P) nl nl)))))) (nd (boot_o_5 P) (nd (boot_o_9 P) (nd (a17 P) (nd (a33 P) (nd (a65 P) (nd (a129 P) (nd (a257 P) nl nl) nl) (nd (a193 P) nl nl)) (nd (a97 P) (nd (a161 P) nl nl) (nd (a225 P) nl nl))) (nd (a49 P) (nd (a81 P) (nd (a145 P) nl nl) (nd (a209 P) nl nl)) (nd (a113 P) (nd (a177 P) nl nl) (nd (a241 P) nl nl)))) (nd (a25 P) (nd (a41 P) (nd (a73 P) (nd (a137 P) (nd (a265 P) nl nl) nl) (nd (a201 P) nl nl)) (nd (a105 P) (nd (a169 P) nl nl) (nd (a233 P) nl nl))) (nd (a57 P) (nd (a89 P) (nd (a153 P) nl nl) (nd (a217 P) nl nl)) (nd (a121 P) (nd (a185 P) nl nl) (nd (a249 P) nl nl))))) (nd (a13 P) (nd (a21 P) (nd (a37 P) (nd (a69 P) (nd (a133 P) (nd (a261 P) nl nl) nl) (nd (a197 P) nl nl)) (nd (a101 P) (nd (a165 P) nl nl) (nd (a229 P) nl nl))) (nd (a53 P) (nd (a85 P) (nd (a149 P) nl nl) (nd (a213 P) nl nl)) (nd (a117 P) (nd (a181 P) nl nl) (nd (a245 P) nl nl)))) (nd (a29 P) (nd (a45 P) (nd (a77 P) (nd (a141 P) nl nl) (nd (a205 P) nl nl)) (nd (a109 P) (nd (a173 P) nl nl) (nd (a237 P) nl nl))) (nd (a61 P) (nd (a93 P) (nd (a157 P) nl nl) (nd (a221 P) nl nl)) (nd (a125 P) (nd (a189 P) nl nl) (nd (a253 P) nl nl))))))) (nd (a2 P) (nd (boot_o_4 P) (nd (boot_o_8 P) (nd (a16 P) (nd (a32 P) (nd (a64 P) (nd (a128 P) (nd (a256 P) nl nl) nl) (nd (a192 P) nl nl)) (nd (a96 P) (nd (a160 P) nl nl) (nd (a224 P) nl nl))) (nd (a48 P) (nd (a80 P) (nd (a144 P) nl nl) (nd (a208 P) nl nl)) (nd (a112 P) (nd (a176 P) nl nl) (nd (a240 P) nl nl)))) (nd (a24 P) (nd (a40 P) (nd (a72 P) (nd (a136 P) (nd (a264 P) nl nl) nl) (nd (a200 P) nl nl)) (nd (a104 P) (nd (a168 P) nl nl) (nd (a232 P) nl nl))) (nd (a56 P) (nd (a88 P) (nd (a152 P) nl nl) (nd (a216 P) nl nl)) (nd (a120 P) (nd (a184 P) nl nl) (nd (a248 P) nl nl))))) (nd (a12_7 P) (nd (a20 P) (nd (a36 P) (nd (a68 P) (nd (a132 P) (nd (a260 P) nl nl) nl) (nd (a196 P) nl nl)) (nd (a100 P) (nd (a164 P) nl nl) (nd (a228 P) nl nl))) (nd (a52 P) (nd (a84 P) (nd (a148 P) nl nl) (nd (a212 P) nl nl)) (nd (a116 P) (nd (a180 P) nl nl) (nd (a244 P) nl nl)))) (nd (a28 P) (nd (a44 P) (nd (a76 P) (nd (a140 P) nl nl) (nd (a204 P) nl nl)) (nd (a108 P) (nd (a172 P) nl nl) (nd (a236 P) nl nl))) (nd (a60 P) (nd (a92 P) (nd (a156 P) nl nl) (nd (a220 P) nl nl)) (nd (a124 P) (nd (a188 P) nl nl) (nd (a252 P) nl nl)))))) (nd (boot_o_6 P) (nd (boot_o_10 P) (nd (a18 P) (nd (a34 P) (nd (a66 P) (nd (a130 P) (nd (a258 P) nl nl) nl) (nd (a194 P) nl nl)) (nd (a98 P) (nd (a162 P) nl nl) (nd (a226 P) nl nl))) (nd (a50 P) (nd (a82 P) (nd (a146 P) nl nl) (nd (a210 P) nl nl)) (nd (a114 P) (nd (a178 P) nl nl) (nd (a242 P) nl nl)))) (nd (a26 P) (nd (a42 P) (nd (a74_1 P) (nd (a138 P) (nd (a266 P) nl nl) nl) (nd (a202 P) nl nl)) (nd (a106 P) (nd (a170 P) nl nl) (nd (a234 P) nl nl))) (nd (a58 P) (nd (a90 P) (nd (a154 P) nl nl) (nd (a218 P) nl nl)) (nd (a122 P) (nd (a186 P) nl nl) (nd (a250 P) nl nl))))) (nd (a14 P) (nd (a22 P) (nd (a38 P) (nd (a70 P) (nd (a134 P) (nd (a262 P) nl nl) nl) (nd (a198 P) nl nl)) (nd (a102 P) (nd (a166 P) nl nl) (nd (a230 P) nl nl))) (nd (a54 P) (nd (a86 P) (nd (a150 P) nl nl) (nd (a214 P) nl nl)) (nd (a118 P) (nd (a182 P) nl nl) (nd (a246 P) nl nl)))) (nd (a30 P) (nd (a46 P) (nd (a78 P) (nd (a142 P) nl nl) (nd (a206 P) nl nl)) (nd (a110 P) (nd (a174 P) nl nl) (nd (a238 P) nl nl))) (nd (a62 P) (nd (a94 P) (nd (a158 P) nl nl) (nd (a222 P) nl nl)) (nd (a126 P) (nd (a190 P) nl nl) (nd (a254 P) nl nl))))))))
noncomputable def a3_9 (P : Params) : Obj := ⟨(.type "dict"), none, (.dict #[kv P "__name__" 165 (vS "lua.lexer" 433), kv P "__doc__" 166 .none, kv P "__package__" 167 .none, kv P "__loader__" 168 (.builtin "__main__.__loader__#opaque"), kv P "__spec__" 169 .none, kv P "__annotations__" 170 (.ref 6), kv P "__builtins__" 171 (.ref 4), kv P "__file__" 173 (vS "/claim/cut.py" 172), kv P "__cached__" 174 .none, kv P "_wall" 193 (.ref 21), kv P "BLANKS" 197 (.bytes #[32, 9, 10, 11, 12, 13] 196), kv P "Limits" 268 (.ref 53), kv P "LuaError" 299 (.ref 74), kv P "LuaSyntaxError" 315 (.ref 87), kv P "is_number" 322 (.ref 96), kv P "wrap" 331 (.ref 103), kv P "is_blank" 338 (.ref 210), kv P "is_blank_values" 339 (.ref 110), kv P "digit_of" 346 (.ref 117), kv P "read_digits" 359 (.ref 124), kv P "skip_blanks" 367 (.ref 131), kv P "str_to_number" 375 (.ref 138), kv P "text_in_base" 389 (.ref 145), kv P "number_text" 398 (.ref 152), kv P "to_text" 405 (.ref 159), kv P "c_text" 413 (.ref 166), kv P "first_line" 421 (.ref 173), kv P "chunk_id" 432 (.ref 180), kv P "END_OF_TEXT" 437 (.int (-1) 436), kv P "FIRST_RESERVED" 439 (.int 257 438), kv P "RESERVED" 461 (.ref 181), kv P "TK_CONCAT" 463 (.int 278 462), kv P "TK_DOTS" 465 (.int 279 464), kv P "TK_EQ" 467 (.int 280 466), kv P "TK_GE" 469 (.int 281 468), kv P "TK_LE" 471 (.int 282 470), kv P "TK_NE" 473 (.int 283 472), kv P "TK_NUMBER" 475 (.int 284 474), kv P "TK_NAME" 477 (.int 285 476), kv P "TK_STRING" 479 (.int 286 478), kv P "TK_EOS" 481 (.int 287 480), kv P "OTHER_TEXTS" 492 (.ref 182), kv P "SOURCE_SIZE" 494 (.int 80 493), kv P "MOST_LINES" 496 (.int 2147483645 495), kv P "NEWLINE" 498 (.int 10 497), kv P "RETURN" 500 (.int 13 499), kv P "QUOTE_DOUBLE" 502 (.int 34 501), kv P "QUOTE_SINGLE" 504 (.int 39 503), kv P "PLUS" 506 (.int 43 505), kv P "MINUS" 508 (.int 45 507), kv P "DOT" 510 (.int 46 509), kv P "LESS" 512 (.int 60 511), kv P "EQUALS" 514 (.int 61 513), kv P "GREATER" 516 (.int 62 515), kv P "BRACKET_OPEN" 518 (.int 91 517), kv P "BACKSLASH" 520 (.int 92 519), kv P "BRACKET_CLOSE" 522 (.int 93 521), kv P "UNDERSCORE" 524 (.int 95 523), kv P "TILDE" 526 (.int 126 525), kv P "is_digit" 533 (.ref 189), kv P "is_letter" 540 (.ref 196), kv P "is_name_sign" 547 (.ref 203), kv P "is_blank_lexer" 555 (.ref 210), kv P "is_control" 562 (.ref 217), kv P "is_newline" 569 (.ref 224), kv P "escaped_sign" 577 (.ref 231), kv P "reserved_kinds" 586 (.ref 238), kv P "token_text" 594 (.ref 245), kv P "Token" 625 (.ref 262), kv P "Lexer" 874 (.ref 465)] 70), #[]⟩
noncomputable def a12_8 (_ : Params) : Obj := oNo #[(.int 1 0), (.int 0 0), (.ref 20), (.int 6 0), (.int 0 0), (.ref 27), (.int 25 0), (.int 0 0), (.ref 63), (.int 31 0), (.int 0 0), (.ref 83), (.int 33 0), (.int 0 0), (.ref 95), (.int 35 0), (.int 0 0), (.ref 102), (.int 40 0), (.int 0 0), (.ref 109), (.int 43 0), (.int 0 0), (.ref 116), (.int 51 0), (.int 0 0), (.ref 123), (.int 60 0), (.int 0 0), (.ref 130), (.int 64 0), (.int 0 0), (.ref 137), (.int 66 0), (.int 0 0), (.ref 144), (.int 78 0), (.int 0 0), (.ref 151), (.int 88 0), (.int 0 0), (.ref 158), (.int 94 0), (.int 0 0), (.ref 165), (.int 99 0), (.int 0 0), (.ref 172), (.int 104 0), (.int 0 0), (.ref 179), (.int 149 0), (.int 0 0), (.ref 188), (.int 151 0), (.int 0 0), (.ref 195), (.int 153 0), (.int 0 0), (.ref 202), (.int 155 0), (.int 0 0), (.ref 209), (.int 158 0), (.int 0 0), (.ref 216), (.int 160 0), (.int 0 0), (.ref 223), (.int 162 0), (.int 0 0), (.ref 230), (.int 165 0), (.int 0 0), (.ref 237), (.int 170 0), (.int 0 0), (.ref 244), (.int 177 0), (.int 0 0), (.ref 251), (.int 182 0), (.int 0 0), (.ref 272)]
noncomputable def a267 (_ : Params) : Obj := oTu #[]
noncomputable def a268 (_ : Params) : Obj := ⟨(.type "builtin_function_or_method"), none, (.fields #[(.builtin "type.__prepare__"), (.type "type")]), #[]⟩
noncomputable def a269 (P : Params) : Obj := ⟨(.type "dict"), none, (.dict #[kv P "__module__" 633 (vS "lua.lexer" 433), kv P "__qualname__" 635 (vS "Lexer" 634), kv P "__firstlineno__" 637 (.int 182 636), kv P "__init__" 647 (.ref 280), kv P "next" 654 (.ref 287), kv P "lookahead" 661 (.ref 294), kv P "error" 671 (.ref 301), kv P "syntax_error" 679 (.ref 308), kv P "near_text" 687 (.ref 315), kv P "move" 694 (.ref 322), kv P "keep" 702 (.ref 329), kv P "keep_and_move" 709 (.ref 336), kv P "keep_if" 717 (.ref 343), kv P "clear" 724 (.ref 350), kv P "end_line" 732 (.ref 357), kv P "read" 740 (.ref 364), kv P "skip_blank" 747 (.ref 371), kv P "sign_behind" 754 (.ref 378), kv P "skip_comment" 762 (.ref 385), kv P "read_compared" 770 (.ref 392), kv P "read_dots" 777 (.ref 399), kv P "read_word" 786 (.ref 406), kv P "read_numeral" 794 (.ref 413), kv P "read_bracket" 802 (.ref 420), kv P "read_level" 811 (.ref 427), kv P "read_long" 821 (.ref 434), kv P "read_inner" 829 (.ref 441), kv P "read_string" 837 (.ref 448), kv P "read_escape" 845 (.ref 455), kv P "read_digits" 854 (.ref 462), kv P "__static_attributes__" 867 (.ref 463)] 31), #[]⟩
noncomputable def a270 (_ : Params) : Obj := oTu #[]
noncomputable def a271 (_ : Params) : Obj := oNo #[(.int 184 0), (.int 4 0), (.ref 279), (.int 198 0), (.int 4 0), (.ref 286), (.int 207 0), (.int 4 0), (.ref 293), (.int 212 0), (.int 4 0), (.ref 300), (.int 218 0), (.int 4 0), (.ref 307), (.int 221 0), (.int 4 0), (.ref 314), (.int 226 0), (.int 4 0), (.ref 321), (.int 230 0), (.int 4 0), (.ref 328), (.int 235 0), (.int 4 0), (.ref 335), (.int 239 0), (.int 4 0), (.ref 342), (.int 245 0), (.int 4 0), (.ref 349), (.int 248 0), (.int 4 0), (.ref 356), (.int 257 0), (.int 4 0), (.ref 363), (.int 282 0), (.int 4 0), (.ref 370), (.int 294 0), (.int 4 0), (.ref 377), (.int 297 0), (.int 4 0), (.ref 384), (.int 310 0), (.int 4 0), (.ref 391), (.int 321 0), (.int 4 0), (.ref 398), (.int 331 0), (.int 4 0), (.ref 405), (.int 338 0), (.int 4 0), (.ref 412), (.int 350 0), (.int 4 0), (.ref 419), (.int 358 0), (.int 4 0), (.ref 426), (.int 367 0), (.int 4 0), (.ref 433), (.int 391 0), (.int 4 0), (.ref 440), (.int 397 0), (.int 4 0), (.ref 447), (.int 412 0), (.int 4 0), (.ref 454), (.int 426 0), (.int 4 0), (.ref 461)]
noncomputable def a272 (_ : Params) : Obj := oCo #[(vS "Lexer" 628), (vS "Lexer" 629), (vS "/claim/cut.py" 630), (.int 182 0), (.int 0 0), (.int 0 0), (.int 0 0), (.int 0 0), (.ref 270), (.bool false), (.int 181 0), (.ref 271), .none, .none, .none, .none, (.int 631 0), (.int 182 0), (vS "/claim/cut.py" 632)]
noncomputable def a273 (_ : Params) : Obj := ⟨(.type "frame"), none, .plain, #[(some (.ref 272)), (some (.ref 3)), (some (.ref 269)), none, (some (vS "lua.lexer" 433)), none, (some (.ref 0))]⟩
noncomputable def a274 (_ : Params) : Obj := oTu #[]
noncomputable def a275 (_ : Params) : Obj := oNo #[]
noncomputable def a276 (_ : Params) : Obj := oTu #[(vS "self" 641), (vS "text" 642), (vS "chunk" 643), (vS "limits" 644)]
noncomputable def a277 (_ : Params) : Obj := oTu #[]
noncomputable def fd278 : FuncData := fo (sC 63 0) (sx "__init__") (sx "Lexer.__init__") 0 .none .none .none
noncomputable def a278 (_ : Params) : Obj := oNf fd278
noncomputable def a279 (_ : Params) : Obj := oCo #[(vS "__init__" 638), (vS "Lexer.__init__" 639), (vS "/claim/cut.py" 640), (.int 184 0), (.int 4 0), (.int 0 0), (.int 0 0), (.int 3 0), (.ref 274), (.bool true), (.int 181 0), (.ref 275), .none, (.ref 276), (.ref 277), (.ref 278), (.int 645 0), (.int 184 0), (vS "/claim/cut.py" 646)]
noncomputable def fd280 : FuncData := fo (sC 63 0) (sx "__init__") (sx "Lexer.__init__") 3 .none (vS "lua.lexer" 433) (.ref 279)
noncomputable def a280 (_ : Params) : Obj := oFn fd280
noncomputable def a281 (_ : Params) : Obj := oTu #[]
noncomputable def a282 (_ : Params) : Obj := oNo #[]
noncomputable def a283 (_ : Params) : Obj := oTu #[(vS "self" 651)]
noncomputable def a284 (_ : Params) : Obj := oTu #[]
noncomputable def fd285 : FuncData := fo (sC 63 1) (sx "next") (sx "Lexer.next") 0 .none .none .none
noncomputable def a285 (_ : Params) : Obj := oNf fd285
noncomputable def a286 (_ : Params) : Obj := oCo #[(vS "next" 648), (vS "Lexer.next" 649), (vS "/claim/cut.py" 650), (.int 198 0), (.int 1 0), (.int 0 0), (.int 0 0), (.int 3 0), (.ref 281), (.bool true), (.int 181 0), (.ref 282), .none, (.ref 283), (.ref 284), (.ref 285), (.int 652 0), (.int 198 0), (vS "/claim/cut.py" 653)]
noncomputable def fd287 : FuncData := fo (sC 63 1) (sx "next") (sx "Lexer.next") 3 .none (vS "lua.lexer" 433) (.ref 286)
noncomputable def a287 (_ : Params) : Obj := oFn fd287
noncomputable def a288 (_ : Params) : Obj := oTu #[]
noncomputable def a289 (_ : Params) : Obj := oNo #[]
noncomputable def a290 (_ : Params) : Obj := oTu #[(vS "self" 658)]
noncomputable def a291 (_ : Params) : Obj := oTu #[]
noncomputable def fd292 : FuncData := fo (sC 63 2) (sx "lookahead") (sx "Lexer.lookahead") 0 .none .none .none
noncomputable def a292 (_ : Params) : Obj := oNf fd292
noncomputable def a293 (_ : Params) : Obj := oCo #[(vS "lookahead" 655), (vS "Lexer.lookahead" 656), (vS "/claim/cut.py" 657), (.int 207 0), (.int 1 0), (.int 0 0), (.int 0 0), (.int 3 0), (.ref 288), (.bool true), (.int 181 0), (.ref 289), .none, (.ref 290), (.ref 291), (.ref 292), (.int 659 0), (.int 207 0), (vS "/claim/cut.py" 660)]
noncomputable def fd294 : FuncData := fo (sC 63 2) (sx "lookahead") (sx "Lexer.lookahead") 3 .none (vS "lua.lexer" 433) (.ref 293)
noncomputable def a294 (_ : Params) : Obj := oFn fd294
noncomputable def a295 (_ : Params) : Obj := oTu #[]
noncomputable def a296 (_ : Params) : Obj := oNo #[]
noncomputable def a297 (_ : Params) : Obj := oTu #[(vS "self" 665), (vS "text" 666), (vS "kind" 667), (vS "message" 668)]
noncomputable def a298 (_ : Params) : Obj := oTu #[]
noncomputable def fd299 : FuncData := fo (sC 63 3) (sx "error") (sx "Lexer.error") 0 .none .none .none
noncomputable def a299 (_ : Params) : Obj := oNf fd299
noncomputable def a300 (_ : Params) : Obj := oCo #[(vS "error" 662), (vS "Lexer.error" 663), (vS "/claim/cut.py" 664), (.int 212 0), (.int 3 0), (.int 0 0), (.int 0 0), (.int 3 0), (.ref 295), (.bool true), (.int 181 0), (.ref 296), .none, (.ref 297), (.ref 298), (.ref 299), (.int 669 0), (.int 212 0), (vS "/claim/cut.py" 670)]
noncomputable def fd301 : FuncData := fo (sC 63 3) (sx "error") (sx "Lexer.error") 3 .none (vS "lua.lexer" 433) (.ref 300)
noncomputable def a301 (_ : Params) : Obj := oFn fd301
noncomputable def a302 (_ : Params) : Obj := oTu #[]
noncomputable def a303 (_ : Params) : Obj := oNo #[]
noncomputable def a304 (_ : Params) : Obj := oTu #[(vS "self" 675), (vS "text" 676)]
noncomputable def a305 (_ : Params) : Obj := oTu #[]
noncomputable def fd306 : FuncData := fo (sC 63 4) (sx "syntax_error") (sx "Lexer.syntax_error") 0 .none .none .none
noncomputable def a306 (_ : Params) : Obj := oNf fd306
noncomputable def a307 (_ : Params) : Obj := oCo #[(vS "syntax_error" 672), (vS "Lexer.syntax_error" 673), (vS "/claim/cut.py" 674), (.int 218 0), (.int 2 0), (.int 0 0), (.int 0 0), (.int 3 0), (.ref 302), (.bool true), (.int 181 0), (.ref 303), .none, (.ref 304), (.ref 305), (.ref 306), (.int 677 0), (.int 218 0), (vS "/claim/cut.py" 678)]
noncomputable def fd308 : FuncData := fo (sC 63 4) (sx "syntax_error") (sx "Lexer.syntax_error") 3 .none (vS "lua.lexer" 433) (.ref 307)
noncomputable def a308 (_ : Params) : Obj := oFn fd308
noncomputable def a309 (_ : Params) : Obj := oTu #[]
noncomputable def a310 (_ : Params) : Obj := oNo #[]
noncomputable def a311 (_ : Params) : Obj := oTu #[(vS "self" 683), (vS "kind" 684)]
noncomputable def a312 (_ : Params) : Obj := oTu #[]
noncomputable def fd313 : FuncData := fo (sC 63 5) (sx "near_text") (sx "Lexer.near_text") 0 .none .none .none
noncomputable def a313 (_ : Params) : Obj := oNf fd313
noncomputable def a314 (_ : Params) : Obj := oCo #[(vS "near_text" 680), (vS "Lexer.near_text" 681), (vS "/claim/cut.py" 682), (.int 221 0), (.int 2 0), (.int 0 0), (.int 0 0), (.int 3 0), (.ref 309), (.bool true), (.int 181 0), (.ref 310), .none, (.ref 311), (.ref 312), (.ref 313), (.int 685 0), (.int 221 0), (vS "/claim/cut.py" 686)]
noncomputable def fd315 : FuncData := fo (sC 63 5) (sx "near_text") (sx "Lexer.near_text") 3 .none (vS "lua.lexer" 433) (.ref 314)
noncomputable def a315 (_ : Params) : Obj := oFn fd315
noncomputable def a316 (_ : Params) : Obj := oTu #[]
noncomputable def a317 (_ : Params) : Obj := oNo #[]
noncomputable def a318 (_ : Params) : Obj := oTu #[(vS "self" 691)]
noncomputable def a319 (_ : Params) : Obj := oTu #[]
noncomputable def fd320 : FuncData := fo (sC 63 6) (sx "move") (sx "Lexer.move") 0 .none .none .none
noncomputable def a320 (_ : Params) : Obj := oNf fd320
noncomputable def a321 (_ : Params) : Obj := oCo #[(vS "move" 688), (vS "Lexer.move" 689), (vS "/claim/cut.py" 690), (.int 226 0), (.int 1 0), (.int 0 0), (.int 0 0), (.int 3 0), (.ref 316), (.bool true), (.int 181 0), (.ref 317), .none, (.ref 318), (.ref 319), (.ref 320), (.int 692 0), (.int 226 0), (vS "/claim/cut.py" 693)]
noncomputable def fd322 : FuncData := fo (sC 63 6) (sx "move") (sx "Lexer.move") 3 .none (vS "lua.lexer" 433) (.ref 321)
noncomputable def a322 (_ : Params) : Obj := oFn fd322
noncomputable def a323 (_ : Params) : Obj := oTu #[]
noncomputable def a324 (_ : Params) : Obj := oNo #[]
noncomputable def a325 (_ : Params) : Obj := oTu #[(vS "self" 698), (vS "sign" 699)]
noncomputable def a326 (_ : Params) : Obj := oTu #[]
noncomputable def fd327 : FuncData := fo (sC 63 7) (sx "keep") (sx "Lexer.keep") 0 .none .none .none
noncomputable def a327 (_ : Params) : Obj := oNf fd327
noncomputable def a328 (_ : Params) : Obj := oCo #[(vS "keep" 695), (vS "Lexer.keep" 696), (vS "/claim/cut.py" 697), (.int 230 0), (.int 2 0), (.int 0 0), (.int 0 0), (.int 3 0), (.ref 323), (.bool true), (.int 181 0), (.ref 324), .none, (.ref 325), (.ref 326), (.ref 327), (.int 700 0), (.int 230 0), (vS "/claim/cut.py" 701)]
noncomputable def fd329 : FuncData := fo (sC 63 7) (sx "keep") (sx "Lexer.keep") 3 .none (vS "lua.lexer" 433) (.ref 328)
noncomputable def a329 (_ : Params) : Obj := oFn fd329
noncomputable def a330 (_ : Params) : Obj := oTu #[]
noncomputable def a331 (_ : Params) : Obj := oNo #[]
noncomputable def a332 (_ : Params) : Obj := oTu #[(vS "self" 706)]
noncomputable def a333 (_ : Params) : Obj := oTu #[]
noncomputable def fd334 : FuncData := fo (sC 63 8) (sx "keep_and_move") (sx "Lexer.keep_and_move") 0 .none .none .none
noncomputable def a334 (_ : Params) : Obj := oNf fd334
noncomputable def a335 (_ : Params) : Obj := oCo #[(vS "keep_and_move" 703), (vS "Lexer.keep_and_move" 704), (vS "/claim/cut.py" 705), (.int 235 0), (.int 1 0), (.int 0 0), (.int 0 0), (.int 3 0), (.ref 330), (.bool true), (.int 181 0), (.ref 331), .none, (.ref 332), (.ref 333), (.ref 334), (.int 707 0), (.int 235 0), (vS "/claim/cut.py" 708)]
noncomputable def fd336 : FuncData := fo (sC 63 8) (sx "keep_and_move") (sx "Lexer.keep_and_move") 3 .none (vS "lua.lexer" 433) (.ref 335)
noncomputable def a336 (_ : Params) : Obj := oFn fd336
noncomputable def a337 (_ : Params) : Obj := oTu #[]
noncomputable def a338 (_ : Params) : Obj := oNo #[]
noncomputable def a339 (_ : Params) : Obj := oTu #[(vS "self" 713), (vS "signs" 714)]
noncomputable def a340 (_ : Params) : Obj := oTu #[]
noncomputable def fd341 : FuncData := fo (sC 63 9) (sx "keep_if") (sx "Lexer.keep_if") 0 .none .none .none
noncomputable def a341 (_ : Params) : Obj := oNf fd341
noncomputable def a342 (_ : Params) : Obj := oCo #[(vS "keep_if" 710), (vS "Lexer.keep_if" 711), (vS "/claim/cut.py" 712), (.int 239 0), (.int 2 0), (.int 0 0), (.int 0 0), (.int 3 0), (.ref 337), (.bool true), (.int 181 0), (.ref 338), .none, (.ref 339), (.ref 340), (.ref 341), (.int 715 0), (.int 239 0), (vS "/claim/cut.py" 716)]
noncomputable def fd343 : FuncData := fo (sC 63 9) (sx "keep_if") (sx "Lexer.keep_if") 3 .none (vS "lua.lexer" 433) (.ref 342)
noncomputable def a343 (_ : Params) : Obj := oFn fd343
noncomputable def a344 (_ : Params) : Obj := oTu #[]
noncomputable def a345 (_ : Params) : Obj := oNo #[]
noncomputable def a346 (_ : Params) : Obj := oTu #[(vS "self" 721)]
noncomputable def a347 (_ : Params) : Obj := oTu #[]
noncomputable def fd348 : FuncData := fo (sC 63 10) (sx "clear") (sx "Lexer.clear") 0 .none .none .none
noncomputable def a348 (_ : Params) : Obj := oNf fd348
noncomputable def a349 (_ : Params) : Obj := oCo #[(vS "clear" 718), (vS "Lexer.clear" 719), (vS "/claim/cut.py" 720), (.int 245 0), (.int 1 0), (.int 0 0), (.int 0 0), (.int 3 0), (.ref 344), (.bool true), (.int 181 0), (.ref 345), .none, (.ref 346), (.ref 347), (.ref 348), (.int 722 0), (.int 245 0), (vS "/claim/cut.py" 723)]
noncomputable def fd350 : FuncData := fo (sC 63 10) (sx "clear") (sx "Lexer.clear") 3 .none (vS "lua.lexer" 433) (.ref 349)
noncomputable def a350 (_ : Params) : Obj := oFn fd350
noncomputable def a351 (_ : Params) : Obj := oTu #[]
noncomputable def a352 (_ : Params) : Obj := oNo #[]
noncomputable def a353 (_ : Params) : Obj := oTu #[(vS "self" 728), (vS "first" 729)]
noncomputable def a354 (_ : Params) : Obj := oTu #[]
noncomputable def fd355 : FuncData := fo (sC 63 11) (sx "end_line") (sx "Lexer.end_line") 0 .none .none .none
noncomputable def a355 (_ : Params) : Obj := oNf fd355
noncomputable def a356 (_ : Params) : Obj := oCo #[(vS "end_line" 725), (vS "Lexer.end_line" 726), (vS "/claim/cut.py" 727), (.int 248 0), (.int 1 0), (.int 0 0), (.int 0 0), (.int 3 0), (.ref 351), (.bool true), (.int 181 0), (.ref 352), .none, (.ref 353), (.ref 354), (.ref 355), (.int 730 0), (.int 248 0), (vS "/claim/cut.py" 731)]
noncomputable def fd357 : FuncData := fo (sC 63 11) (sx "end_line") (sx "Lexer.end_line") 3 .none (vS "lua.lexer" 433) (.ref 356)
noncomputable def a357 (_ : Params) : Obj := oFn fd357
noncomputable def a358 (_ : Params) : Obj := oTu #[]
noncomputable def a359 (_ : Params) : Obj := oNo #[]
noncomputable def a360 (_ : Params) : Obj := oTu #[(vS "self" 736), (vS "sign" 737)]
noncomputable def a361 (_ : Params) : Obj := oTu #[]
noncomputable def fd362 : FuncData := fo (sC 63 12) (sx "read") (sx "Lexer.read") 0 .none .none .none
noncomputable def a362 (_ : Params) : Obj := oNf fd362
noncomputable def a363 (_ : Params) : Obj := oCo #[(vS "read" 733), (vS "Lexer.read" 734), (vS "/claim/cut.py" 735), (.int 257 0), (.int 1 0), (.int 0 0), (.int 0 0), (.int 3 0), (.ref 358), (.bool true), (.int 181 0), (.ref 359), .none, (.ref 360), (.ref 361), (.ref 362), (.int 738 0), (.int 257 0), (vS "/claim/cut.py" 739)]
noncomputable def fd364 : FuncData := fo (sC 63 12) (sx "read") (sx "Lexer.read") 3 .none (vS "lua.lexer" 433) (.ref 363)
noncomputable def a364 (_ : Params) : Obj := oFn fd364
noncomputable def a365 (_ : Params) : Obj := oTu #[]
noncomputable def a366 (_ : Params) : Obj := oNo #[]
noncomputable def a367 (_ : Params) : Obj := oTu #[(vS "self" 744)]
noncomputable def a368 (_ : Params) : Obj := oTu #[]
noncomputable def fd369 : FuncData := fo (sC 63 13) (sx "skip_blank") (sx "Lexer.skip_blank") 0 .none .none .none
noncomputable def a369 (_ : Params) : Obj := oNf fd369
noncomputable def a370 (_ : Params) : Obj := oCo #[(vS "skip_blank" 741), (vS "Lexer.skip_blank" 742), (vS "/claim/cut.py" 743), (.int 282 0), (.int 1 0), (.int 0 0), (.int 0 0), (.int 3 0), (.ref 365), (.bool true), (.int 181 0), (.ref 366), .none, (.ref 367), (.ref 368), (.ref 369), (.int 745 0), (.int 282 0), (vS "/claim/cut.py" 746)]
noncomputable def fd371 : FuncData := fo (sC 63 13) (sx "skip_blank") (sx "Lexer.skip_blank") 3 .none (vS "lua.lexer" 433) (.ref 370)
noncomputable def a371 (_ : Params) : Obj := oFn fd371
noncomputable def a372 (_ : Params) : Obj := oTu #[]
noncomputable def a373 (_ : Params) : Obj := oNo #[]
noncomputable def a374 (_ : Params) : Obj := oTu #[(vS "self" 751)]
noncomputable def a375 (_ : Params) : Obj := oTu #[]
noncomputable def fd376 : FuncData := fo (sC 63 14) (sx "sign_behind") (sx "Lexer.sign_behind") 0 .none .none .none
noncomputable def a376 (_ : Params) : Obj := oNf fd376
noncomputable def a377 (_ : Params) : Obj := oCo #[(vS "sign_behind" 748), (vS "Lexer.sign_behind" 749), (vS "/claim/cut.py" 750), (.int 294 0), (.int 1 0), (.int 0 0), (.int 0 0), (.int 3 0), (.ref 372), (.bool true), (.int 181 0), (.ref 373), .none, (.ref 374), (.ref 375), (.ref 376), (.int 752 0), (.int 294 0), (vS "/claim/cut.py" 753)]
noncomputable def fd378 : FuncData := fo (sC 63 14) (sx "sign_behind") (sx "Lexer.sign_behind") 3 .none (vS "lua.lexer" 433) (.ref 377)
noncomputable def a378 (_ : Params) : Obj := oFn fd378
noncomputable def a379 (_ : Params) : Obj := oTu #[]
noncomputable def a380 (_ : Params) : Obj := oNo #[]
noncomputable def a381 (_ : Params) : Obj := oTu #[(vS "self" 758), (vS "level" 759)]
noncomputable def a382 (_ : Params) : Obj := oTu #[]
noncomputable def fd383 : FuncData := fo (sC 63 15) (sx "skip_comment") (sx "Lexer.skip_comment") 0 .none .none .none
noncomputable def a383 (_ : Params) : Obj := oNf fd383
noncomputable def a384 (_ : Params) : Obj := oCo #[(vS "skip_comment" 755), (vS "Lexer.skip_comment" 756), (vS "/claim/cut.py" 757), (.int 297 0), (.int 1 0), (.int 0 0), (.int 0 0), (.int 3 0), (.ref 379), (.bool true), (.int 181 0), (.ref 380), .none, (.ref 381), (.ref 382), (.ref 383), (.int 760 0), (.int 297 0), (vS "/claim/cut.py" 761)]
noncomputable def fd385 : FuncData := fo (sC 63 15) (sx "skip_comment") (sx "Lexer.skip_comment") 3 .none (vS "lua.lexer" 433) (.ref 384)
noncomputable def a385 (_ : Params) : Obj := oFn fd385
noncomputable def a386 (_ : Params) : Obj := oTu #[]
noncomputable def a387 (_ : Params) : Obj := oNo #[]
noncomputable def a388 (_ : Params) : Obj := oTu #[(vS "self" 766), (vS "sign" 767)]
noncomputable def a389 (_ : Params) : Obj := oTu #[]
noncomputable def fd390 : FuncData := fo (sC 63 16) (sx "read_compared") (sx "Lexer.read_compared") 0 .none .none .none
noncomputable def a390 (_ : Params) : Obj := oNf fd390
noncomputable def a391 (_ : Params) : Obj := oCo #[(vS "read_compared" 763), (vS "Lexer.read_compared" 764), (vS "/claim/cut.py" 765), (.int 310 0), (.int 2 0), (.int 0 0), (.int 0 0), (.int 3 0), (.ref 386), (.bool true), (.int 181 0), (.ref 387), .none, (.ref 388), (.ref 389), (.ref 390), (.int 768 0), (.int 310 0), (vS "/claim/cut.py" 769)]
noncomputable def fd392 : FuncData := fo (sC 63 16) (sx "read_compared") (sx "Lexer.read_compared") 3 .none (vS "lua.lexer" 433) (.ref 391)
noncomputable def a392 (_ : Params) : Obj := oFn fd392
noncomputable def a393 (_ : Params) : Obj := oTu #[]
noncomputable def a394 (_ : Params) : Obj := oNo #[]
noncomputable def a395 (_ : Params) : Obj := oTu #[(vS "self" 774)]
noncomputable def a396 (_ : Params) : Obj := oTu #[]
noncomputable def fd397 : FuncData := fo (sC 63 17) (sx "read_dots") (sx "Lexer.read_dots") 0 .none .none .none
noncomputable def a397 (_ : Params) : Obj := oNf fd397
noncomputable def a398 (_ : Params) : Obj := oCo #[(vS "read_dots" 771), (vS "Lexer.read_dots" 772), (vS "/claim/cut.py" 773), (.int 321 0), (.int 1 0), (.int 0 0), (.int 0 0), (.int 3 0), (.ref 393), (.bool true), (.int 181 0), (.ref 394), .none, (.ref 395), (.ref 396), (.ref 397), (.int 775 0), (.int 321 0), (vS "/claim/cut.py" 776)]
noncomputable def fd399 : FuncData := fo (sC 63 17) (sx "read_dots") (sx "Lexer.read_dots") 3 .none (vS "lua.lexer" 433) (.ref 398)
noncomputable def a399 (_ : Params) : Obj := oFn fd399
noncomputable def a400 (_ : Params) : Obj := oTu #[]
noncomputable def a401 (_ : Params) : Obj := oNo #[]
noncomputable def a402 (_ : Params) : Obj := oTu #[(vS "self" 781), (vS "word" 782), (vS "kind" 783)]
noncomputable def a403 (_ : Params) : Obj := oTu #[]
noncomputable def fd404 : FuncData := fo (sC 63 18) (sx "read_word") (sx "Lexer.read_word") 0 .none .none .none
noncomputable def a404 (_ : Params) : Obj := oNf fd404
noncomputable def a405 (_ : Params) : Obj := oCo #[(vS "read_word" 778), (vS "Lexer.read_word" 779), (vS "/claim/cut.py" 780), (.int 331 0), (.int 1 0), (.int 0 0), (.int 0 0), (.int 3 0), (.ref 400), (.bool true), (.int 181 0), (.ref 401), .none, (.ref 402), (.ref 403), (.ref 404), (.int 784 0), (.int 331 0), (vS "/claim/cut.py" 785)]
noncomputable def fd406 : FuncData := fo (sC 63 18) (sx "read_word") (sx "Lexer.read_word") 3 .none (vS "lua.lexer" 433) (.ref 405)
noncomputable def a406 (_ : Params) : Obj := oFn fd406
noncomputable def a407 (_ : Params) : Obj := oTu #[]
noncomputable def a408 (_ : Params) : Obj := oNo #[]
noncomputable def a409 (_ : Params) : Obj := oTu #[(vS "self" 790), (vS "value" 791)]
noncomputable def a410 (_ : Params) : Obj := oTu #[]
noncomputable def fd411 : FuncData := fo (sC 63 19) (sx "read_numeral") (sx "Lexer.read_numeral") 0 .none .none .none
noncomputable def a411 (_ : Params) : Obj := oNf fd411
noncomputable def a412 (_ : Params) : Obj := oCo #[(vS "read_numeral" 787), (vS "Lexer.read_numeral" 788), (vS "/claim/cut.py" 789), (.int 338 0), (.int 1 0), (.int 0 0), (.int 0 0), (.int 3 0), (.ref 407), (.bool true), (.int 181 0), (.ref 408), .none, (.ref 409), (.ref 410), (.ref 411), (.int 792 0), (.int 338 0), (vS "/claim/cut.py" 793)]
noncomputable def fd413 : FuncData := fo (sC 63 19) (sx "read_numeral") (sx "Lexer.read_numeral") 3 .none (vS "lua.lexer" 433) (.ref 412)
noncomputable def a413 (_ : Params) : Obj := oFn fd413
noncomputable def a414 (_ : Params) : Obj := oTu #[]
noncomputable def a415 (_ : Params) : Obj := oNo #[]
noncomputable def a416 (_ : Params) : Obj := oTu #[(vS "self" 798), (vS "level" 799)]
noncomputable def a417 (_ : Params) : Obj := oTu #[]
noncomputable def fd418 : FuncData := fo (sC 63 20) (sx "read_bracket") (sx "Lexer.read_bracket") 0 .none .none .none
noncomputable def a418 (_ : Params) : Obj := oNf fd418
noncomputable def a419 (_ : Params) : Obj := oCo #[(vS "read_bracket" 795), (vS "Lexer.read_bracket" 796), (vS "/claim/cut.py" 797), (.int 350 0), (.int 1 0), (.int 0 0), (.int 0 0), (.int 3 0), (.ref 414), (.bool true), (.int 181 0), (.ref 415), .none, (.ref 416), (.ref 417), (.ref 418), (.int 800 0), (.int 350 0), (vS "/claim/cut.py" 801)]
noncomputable def fd420 : FuncData := fo (sC 63 20) (sx "read_bracket") (sx "Lexer.read_bracket") 3 .none (vS "lua.lexer" 433) (.ref 419)
noncomputable def a420 (_ : Params) : Obj := oFn fd420
noncomputable def a421 (_ : Params) : Obj := oTu #[]
noncomputable def a422 (_ : Params) : Obj := oNo #[]
noncomputable def a423 (_ : Params) : Obj := oTu #[(vS "self" 806), (vS "bracket" 807), (vS "many" 808)]
noncomputable def a424 (_ : Params) : Obj := oTu #[]
noncomputable def fd425 : FuncData := fo (sC 63 21) (sx "read_level") (sx "Lexer.read_level") 0 .none .none .none
noncomputable def a425 (_ : Params) : Obj := oNf fd425
noncomputable def a426 (_ : Params) : Obj := oCo #[(vS "read_level" 803), (vS "Lexer.read_level" 804), (vS "/claim/cut.py" 805), (.int 358 0), (.int 1 0), (.int 0 0), (.int 0 0), (.int 3 0), (.ref 421), (.bool true), (.int 181 0), (.ref 422), .none, (.ref 423), (.ref 424), (.ref 425), (.int 809 0), (.int 358 0), (vS "/claim/cut.py" 810)]
noncomputable def fd427 : FuncData := fo (sC 63 21) (sx "read_level") (sx "Lexer.read_level") 3 .none (vS "lua.lexer" 433) (.ref 426)
noncomputable def a427 (_ : Params) : Obj := oFn fd427
noncomputable def a428 (_ : Params) : Obj := oTu #[]
noncomputable def a429 (_ : Params) : Obj := oNo #[]
noncomputable def a430 (_ : Params) : Obj := oTu #[(vS "self" 815), (vS "level" 816), (vS "is_text" 817), (vS "begin" 818)]
noncomputable def a431 (_ : Params) : Obj := oTu #[]
noncomputable def fd432 : FuncData := fo (sC 63 22) (sx "read_long") (sx "Lexer.read_long") 0 .none .none .none
noncomputable def a432 (_ : Params) : Obj := oNf fd432
noncomputable def a433 (_ : Params) : Obj := oCo #[(vS "read_long" 812), (vS "Lexer.read_long" 813), (vS "/claim/cut.py" 814), (.int 367 0), (.int 3 0), (.int 0 0), (.int 0 0), (.int 3 0), (.ref 428), (.bool true), (.int 181 0), (.ref 429), .none, (.ref 430), (.ref 431), (.ref 432), (.int 819 0), (.int 367 0), (vS "/claim/cut.py" 820)]
noncomputable def fd434 : FuncData := fo (sC 63 22) (sx "read_long") (sx "Lexer.read_long") 3 .none (vS "lua.lexer" 433) (.ref 433)
noncomputable def a434 (_ : Params) : Obj := oFn fd434
noncomputable def a435 (_ : Params) : Obj := oTu #[]
noncomputable def a436 (_ : Params) : Obj := oNo #[]
noncomputable def a437 (_ : Params) : Obj := oTu #[(vS "self" 825), (vS "level" 826)]
noncomputable def a438 (_ : Params) : Obj := oTu #[]
noncomputable def fd439 : FuncData := fo (sC 63 23) (sx "read_inner") (sx "Lexer.read_inner") 0 .none .none .none
noncomputable def a439 (_ : Params) : Obj := oNf fd439
noncomputable def a440 (_ : Params) : Obj := oCo #[(vS "read_inner" 822), (vS "Lexer.read_inner" 823), (vS "/claim/cut.py" 824), (.int 391 0), (.int 2 0), (.int 0 0), (.int 0 0), (.int 3 0), (.ref 435), (.bool true), (.int 181 0), (.ref 436), .none, (.ref 437), (.ref 438), (.ref 439), (.int 827 0), (.int 391 0), (vS "/claim/cut.py" 828)]
noncomputable def fd441 : FuncData := fo (sC 63 23) (sx "read_inner") (sx "Lexer.read_inner") 3 .none (vS "lua.lexer" 433) (.ref 440)
noncomputable def a441 (_ : Params) : Obj := oFn fd441
noncomputable def a442 (_ : Params) : Obj := oTu #[]
noncomputable def a443 (_ : Params) : Obj := oNo #[]
noncomputable def a444 (_ : Params) : Obj := oTu #[(vS "self" 833), (vS "quote" 834)]
noncomputable def a445 (_ : Params) : Obj := oTu #[]
noncomputable def fd446 : FuncData := fo (sC 63 24) (sx "read_string") (sx "Lexer.read_string") 0 .none .none .none
noncomputable def a446 (_ : Params) : Obj := oNf fd446
noncomputable def a447 (_ : Params) : Obj := oCo #[(vS "read_string" 830), (vS "Lexer.read_string" 831), (vS "/claim/cut.py" 832), (.int 397 0), (.int 2 0), (.int 0 0), (.int 0 0), (.int 3 0), (.ref 442), (.bool true), (.int 181 0), (.ref 443), .none, (.ref 444), (.ref 445), (.ref 446), (.int 835 0), (.int 397 0), (vS "/claim/cut.py" 836)]
noncomputable def fd448 : FuncData := fo (sC 63 24) (sx "read_string") (sx "Lexer.read_string") 3 .none (vS "lua.lexer" 433) (.ref 447)
noncomputable def a448 (_ : Params) : Obj := oFn fd448
noncomputable def a449 (_ : Params) : Obj := oTu #[]
noncomputable def a450 (_ : Params) : Obj := oNo #[]
noncomputable def a451 (_ : Params) : Obj := oTu #[(vS "self" 841), (vS "told" 842)]
noncomputable def a452 (_ : Params) : Obj := oTu #[]
noncomputable def fd453 : FuncData := fo (sC 63 25) (sx "read_escape") (sx "Lexer.read_escape") 0 .none .none .none
noncomputable def a453 (_ : Params) : Obj := oNf fd453
noncomputable def a454 (_ : Params) : Obj := oCo #[(vS "read_escape" 838), (vS "Lexer.read_escape" 839), (vS "/claim/cut.py" 840), (.int 412 0), (.int 1 0), (.int 0 0), (.int 0 0), (.int 3 0), (.ref 449), (.bool true), (.int 181 0), (.ref 450), .none, (.ref 451), (.ref 452), (.ref 453), (.int 843 0), (.int 412 0), (vS "/claim/cut.py" 844)]
noncomputable def fd455 : FuncData := fo (sC 63 25) (sx "read_escape") (sx "Lexer.read_escape") 3 .none (vS "lua.lexer" 433) (.ref 454)
noncomputable def a455 (_ : Params) : Obj := oFn fd455
noncomputable def a456 (_ : Params) : Obj := oTu #[]
noncomputable def a457 (_ : Params) : Obj := oNo #[]
noncomputable def a458 (_ : Params) : Obj := oTu #[(vS "self" 849), (vS "value" 850), (vS "many" 851)]
noncomputable def a459 (_ : Params) : Obj := oTu #[]
noncomputable def fd460 : FuncData := fo (sC 63 26) (sx "read_digits") (sx "Lexer.read_digits") 0 .none .none .none
noncomputable def a460 (_ : Params) : Obj := oNf fd460
noncomputable def a461 (_ : Params) : Obj := oCo #[(vS "read_digits" 846), (vS "Lexer.read_digits" 847), (vS "/claim/cut.py" 848), (.int 426 0), (.int 1 0), (.int 0 0), (.int 0 0), (.int 3 0), (.ref 456), (.bool true), (.int 181 0), (.ref 457), .none, (.ref 458), (.ref 459), (.ref 460), (.int 852 0), (.int 426 0), (vS "/claim/cut.py" 853)]
noncomputable def fd462 : FuncData := fo (sC 63 26) (sx "read_digits") (sx "Lexer.read_digits") 3 .none (vS "lua.lexer" 433) (.ref 461)
noncomputable def a462 (_ : Params) : Obj := oFn fd462
noncomputable def a463 (_ : Params) : Obj := oTu #[(vS "ahead" 855), (vS "at" 856), (vS "buffer" 857), (vS "chunk" 858), (vS "current" 859), (vS "kinds" 860), (vS "last_line" 861), (vS "limits" 862), (vS "line" 863), (vS "sign" 864), (vS "source" 865), (vS "text" 866)]
noncomputable def a464 (P : Params) : Obj := ⟨(.type "dict"), none, (.dict #[kv P "__module__" 633 (vS "lua.lexer" 433), kv P "__firstlineno__" 637 (.int 182 636), kv P "__init__" 647 (.ref 280), kv P "next" 654 (.ref 287), kv P "lookahead" 661 (.ref 294), kv P "error" 671 (.ref 301), kv P "syntax_error" 679 (.ref 308), kv P "near_text" 687 (.ref 315), kv P "move" 694 (.ref 322), kv P "keep" 702 (.ref 329), kv P "keep_and_move" 709 (.ref 336), kv P "keep_if" 717 (.ref 343), kv P "clear" 724 (.ref 350), kv P "end_line" 732 (.ref 357), kv P "read" 740 (.ref 364), kv P "skip_blank" 747 (.ref 371), kv P "sign_behind" 754 (.ref 378), kv P "skip_comment" 762 (.ref 385), kv P "read_compared" 770 (.ref 392), kv P "read_dots" 777 (.ref 399), kv P "read_word" 786 (.ref 406), kv P "read_numeral" 794 (.ref 413), kv P "read_bracket" 802 (.ref 420), kv P "read_level" 811 (.ref 427), kv P "read_long" 821 (.ref 434), kv P "read_inner" 829 (.ref 441), kv P "read_string" 837 (.ref 448), kv P "read_escape" 845 (.ref 455), kv P "read_digits" 854 (.ref 462), kv P "__static_attributes__" 867 (.ref 463), kv P "__dict__" 869 (.ref 466), kv P "__weakref__" 871 (.ref 467), kv P "__doc__" 872 .none] 4), #[]⟩
noncomputable def a465 (_ : Params) : Obj := ⟨(.type "type"), none, (.cls { name := (sx "Lexer"), bases := [(.type "object")], mro := [(.ref 465), (.type "object")], ns := 464, qualname := (sx "Lexer"), hasDict := true, slotNames := [], subclasses := [], abstract := false, collection := none, hasDel := false }), #[none, none, (some (vS "Lexer" 626)), (some (vS "Lexer" 634)), (some (.builtin "object.__new__")), (some (.bool true))]⟩
noncomputable def a466 (_ : Params) : Obj := ⟨(.type "getset_descriptor"), none, (.fields #[(vS "__dict__" 868), (.ref 465), (.builtin "function.__dict__"), (.builtin "function.__dict__#set")]), #[]⟩
noncomputable def a467 (_ : Params) : Obj := ⟨(.type "getset_descriptor"), none, (.fields #[(vS "__weakref__" 870), (.ref 465), (.builtin "ExceptionGroup.__weakref__"), .none]), #[]⟩
noncomputable def a468 (_ : Params) : Obj := ⟨(.type "super"), none, (.fields #[(.ref 465), (.ref 465), (.ref 465)]), #[]⟩
noncomputable def a469 (_ : Params) : Obj := ⟨(.type "builtin_function_or_method"), none, (.fields #[(.builtin "object.__init_subclass__"), (.ref 465)]), #[]⟩
noncomputable def tr10 (P : Params) : BT := (nd (boot_o_0 P) (nd (boot_o_1 P) (nd (a3_9 P) (nd (boot_o_7 P) (nd (a15 P) (nd (a31 P) (nd (a63 P) (nd (a127 P) (nd (a255 P) nl nl) (nd (a383 P) nl nl)) (nd (a191 P) (nd (a319 P) nl nl) (nd (a447 P) nl nl))) (nd (a95 P) (nd (a159 P) (nd (a287 P) nl nl) (nd (a415 P) nl nl)) (nd (a223 P) (nd (a351 P) nl nl) nl))) (nd (a47 P) (nd (a79 P) (nd (a143 P) (nd (a271 P) nl nl) (nd (a399 P) nl nl)) (nd (a207 P) (nd (a335 P) nl nl) (nd (a463 P) nl nl))) (nd (a111 P) (nd (a175 P) (nd (a303 P) nl nl) (nd (a431 P) nl nl)) (nd (a239 P) (nd (a367 P) nl nl) nl)))) (nd (a23 P) (nd (a39 P) (nd (a71 P) (nd (a135 P) (nd (a263 P) nl nl) (nd (a391 P) nl nl)) (nd (a199 P) (nd (a327 P) nl nl) (nd (a455 P) nl nl))) (nd (a103 P) (nd (a167 P) (nd (a295 P) nl nl) (nd (a423 P) nl nl)) (nd (a231 P) (nd (a359 P) nl nl) nl))) (nd (a55 P) (nd (a87 P) (nd (a151 P) (nd (a279 P) nl nl) (nd (a407 P) nl nl)) (nd (a215 P) (nd (a343 P) nl nl) nl)) (nd (a119 P) (nd (a183 P) (nd (a311 P) nl nl) (nd (a439 P) nl nl)) (nd (a247 P) (nd (a375 P) nl nl) nl))))) (nd (a11 P) (nd (a19 P) (nd (a35 P) (nd (a67 P) (nd (a131 P) (nd (a259 P) nl nl) (nd (a387 P) nl nl)) (nd (a195 P) (nd (a323 P) nl nl) (nd (a451 P) nl nl))) (nd (a99 P) (nd (a163 P) (nd (a291 P) nl nl) (nd (a419 P) nl nl)) (nd (a227 P) (nd (a355 P) nl nl) nl))) (nd (a51 P) (nd (a83 P) (nd (a147 P) (nd (a275 P) nl nl) (nd (a403 P) nl nl)) (nd (a211 P) (nd (a339 P) nl nl) (nd (a467 P) nl nl))) (nd (a115 P) (nd (a179 P) (nd (a307 P) nl nl) (nd (a435 P) nl nl)) (nd (a243 P) (nd (a371 P) nl nl) nl)))) (nd (a27 P) (nd (a43 P) (nd (a75 P) (nd (a139 P) (nd (a267 P) nl nl) (nd (a395 P) nl nl)) (nd (a203 P) (nd (a331 P) nl nl) (nd (a459 P) nl nl))) (nd (a107 P) (nd (a171 P) (nd (a299 P) nl nl) (nd (a427 P) nl nl)) (nd (a235 P) (nd (a363 P) nl nl) nl))) (nd (a59 P) (nd (a91 P) (nd (a155 P) (nd (a283 P) nl nl) (nd (a411 P) nl nl)) (nd (a219 P) (nd (a347 P) nl nl) nl)) (nd (a123 P) (nd (a187 P) (nd (a315 P) nl nl) (nd (a443 P) nl nl)) (nd (a251 P) (nd (a379 P) nl nl) nl)))))) (nd (boot_o_5 P) (nd (boot_o_9 P) (nd (a17 P) (nd (a33 P) (nd (a65 P) (nd (a129 P) (nd (a257 P) nl nl) (nd (a385 P) nl nl)) (nd (a193 P) (nd (a321 P) nl nl) (nd (a449 P) nl nl))) (nd (a97 P) (nd (a161 P) (nd (a289 P) nl nl) (nd (a417 P) nl nl)) (nd (a225 P) (nd (a353 P) nl nl) nl))) (nd (a49 P) (nd (a81 P) (nd (a145 P) (nd (a273 P) nl nl) (nd (a401 P) nl nl)) (nd (a209 P) (nd (a337 P) nl nl) (nd (a465 P) nl nl))) (nd (a113 P) (nd (a177 P) (nd (a305 P) nl nl) (nd (a433 P) nl nl)) (nd (a241 P) (nd (a369 P) nl nl) nl)))) (nd (a25 P) (nd (a41 P) (nd (a73 P) (nd (a137 P) (nd (a265 P) nl nl) (nd (a393 P) nl nl)) (nd (a201 P) (nd (a329 P) nl nl) (nd (a457 P) nl nl))) (nd (a105 P) (nd (a169 P) (nd (a297 P) nl nl) (nd (a425 P) nl nl)) (nd (a233 P) (nd (a361 P) nl nl) nl))) (nd (a57 P) (nd (a89 P) (nd (a153 P) (nd (a281 P) nl nl) (nd (a409 P) nl nl)) (nd (a217 P) (nd (a345 P) nl nl) nl)) (nd (a121 P) (nd (a185 P) (nd (a313 P) nl nl) (nd (a441 P) nl nl)) (nd (a249 P) (nd (a377 P) nl nl) nl))))) (nd (a13 P) (nd (a21 P) (nd (a37 P) (nd (a69 P) (nd (a133 P) (nd (a261 P) nl nl) (nd (a389 P) nl nl)) (nd (a197 P) (nd (a325 P) nl nl) (nd (a453 P) nl nl))) (nd (a101 P) (nd (a165 P) (nd (a293 P) nl nl) (nd (a421 P) nl nl)) (nd (a229 P) (nd (a357 P) nl nl) nl))) (nd (a53 P) (nd (a85 P) (nd (a149 P) (nd (a277 P) nl nl) (nd (a405 P) nl nl)) (nd (a213 P) (nd (a341 P) nl nl) (nd (a469 P) nl nl))) (nd (a117 P) (nd (a181 P) (nd (a309 P) nl nl) (nd (a437 P) nl nl)) (nd (a245 P) (nd (a373 P) nl nl) nl)))) (nd (a29 P) (nd (a45 P) (nd (a77 P) (nd (a141 P) (nd (a269 P) nl nl) (nd (a397 P) nl nl)) (nd (a205 P) (nd (a333 P) nl nl) (nd (a461 P) nl nl))) (nd (a109 P) (nd (a173 P) (nd (a301 P) nl nl) (nd (a429 P) nl nl)) (nd (a237 P) (nd (a365 P) nl nl) nl))) (nd (a61 P) (nd (a93 P) (nd (a157 P) (nd (a285 P) nl nl) (nd (a413 P) nl nl)) (nd (a221 P) (nd (a349 P) nl nl) nl)) (nd (a125 P) (nd (a189 P) (nd (a317 P) nl nl) (nd (a445 P) nl nl)) (nd (a253 P) (nd (a381 P) nl nl) nl))))))) (nd (a2 P) (nd (boot_o_4 P) (nd (boot_o_8 P) (nd (a16 P) (nd (a32 P) (nd (a64 P) (nd (a128 P) (nd (a256 P) nl nl) (nd (a384 P) nl nl)) (nd (a192 P) (nd (a320 P) nl nl) (nd (a448 P) nl nl))) (nd (a96 P) (nd (a160 P) (nd (a288 P) nl nl) (nd (a416 P) nl nl)) (nd (a224 P) (nd (a352 P) nl nl) nl))) (nd (a48 P) (nd (a80 P) (nd (a144 P) (nd (a272 P) nl nl) (nd (a400 P) nl nl)) (nd (a208 P) (nd (a336 P) nl nl) (nd (a464 P) nl nl))) (nd (a112 P) (nd (a176 P) (nd (a304 P) nl nl) (nd (a432 P) nl nl)) (nd (a240 P) (nd (a368 P) nl nl) nl)))) (nd (a24 P) (nd (a40 P) (nd (a72 P) (nd (a136 P) (nd (a264 P) nl nl) (nd (a392 P) nl nl)) (nd (a200 P) (nd (a328 P) nl nl) (nd (a456 P) nl nl))) (nd (a104 P) (nd (a168 P) (nd (a296 P) nl nl) (nd (a424 P) nl nl)) (nd (a232 P) (nd (a360 P) nl nl) nl))) (nd (a56 P) (nd (a88 P) (nd (a152 P) (nd (a280 P) nl nl) (nd (a408 P) nl nl)) (nd (a216 P) (nd (a344 P) nl nl) nl)) (nd (a120 P) (nd (a184 P) (nd (a312 P) nl nl) (nd (a440 P) nl nl)) (nd (a248 P) (nd (a376 P) nl nl) nl))))) (nd (a12_8 P) (nd (a20 P) (nd (a36 P) (nd (a68 P) (nd (a132 P) (nd (a260 P) nl nl) (nd (a388 P) nl nl)) (nd (a196 P) (nd (a324 P) nl nl) (nd (a452 P) nl nl))) (nd (a100 P) (nd (a164 P) (nd (a292 P) nl nl) (nd (a420 P) nl nl)) (nd (a228 P) (nd (a356 P) nl nl) nl))) (nd (a52 P) (nd (a84 P) (nd (a148 P) (nd (a276 P) nl nl) (nd (a404 P) nl nl)) (nd (a212 P) (nd (a340 P) nl nl) (nd (a468 P) nl nl))) (nd (a116 P) (nd (a180 P) (nd (a308 P) nl nl) (nd (a436 P) nl nl)) (nd (a244 P) (nd (a372 P) nl nl) nl)))) (nd (a28 P) (nd (a44 P) (nd (a76 P) (nd (a140 P) (nd (a268 P) nl nl) (nd (a396 P) nl nl)) (nd (a204 P) (nd (a332 P) nl nl) (nd (a460 P) nl nl))) (nd (a108 P) (nd (a172 P) (nd (a300 P) nl nl) (nd (a428 P) nl nl)) (nd (a236 P) (nd (a364 P) nl nl) nl))) (nd (a60 P) (nd (a92 P) (nd (a156 P) (nd (a284 P) nl nl) (nd (a412 P) nl nl)) (nd (a220 P) (nd (a348 P) nl nl) nl)) (nd (a124 P) (nd (a188 P) (nd (a316 P) nl nl) (nd (a444 P) nl nl)) (nd (a252 P) (nd (a380 P) nl nl) nl)))))) (nd (boot_o_6 P) (nd (boot_o_10 P) (nd (a18 P) (nd (a34 P) (nd (a66 P) (nd (a130 P) (nd (a258 P) nl nl) (nd (a386 P) nl nl)) (nd (a194 P) (nd (a322 P) nl nl) (nd (a450 P) nl nl))) (nd (a98 P) (nd (a162 P) (nd (a290 P) nl nl) (nd (a418 P) nl nl)) (nd (a226 P) (nd (a354 P) nl nl) nl))) (nd (a50 P) (nd (a82 P) (nd (a146 P) (nd (a274 P) nl nl) (nd (a402 P) nl nl)) (nd (a210 P) (nd (a338 P) nl nl) (nd (a466 P) nl nl))) (nd (a114 P) (nd (a178 P) (nd (a306 P) nl nl) (nd (a434 P) nl nl)) (nd (a242 P) (nd (a370 P) nl nl) nl)))) (nd (a26 P) (nd (a42 P) (nd (a74_1 P) (nd (a138 P) (nd (a266 P) nl nl) (nd (a394 P) nl nl)) (nd (a202 P) (nd (a330 P) nl nl) (nd (a458 P) nl nl))) (nd (a106 P) (nd (a170 P) (nd (a298 P) nl nl) (nd (a426 P) nl nl)) (nd (a234 P) (nd (a362 P) nl nl) nl))) (nd (a58 P) (nd (a90 P) (nd (a154 P) (nd (a282 P) nl nl) (nd (a410 P) nl nl)) (nd (a218 P) (nd (a346 P) nl nl) nl)) (nd (a122 P) (nd (a186 P) (nd (a314 P) nl nl) (nd (a442 P) nl nl)) (nd (a250 P) (nd (a378 P) nl nl) nl))))) (nd (a14 P) (nd (a22 P) (nd (a38 P) (nd (a70 P) (nd (a134 P) (nd (a262 P) nl nl) (nd (a390 P) nl nl)) (nd (a198 P) (nd (a326 P) nl nl) (nd (a454 P) nl nl))) (nd (a102 P) (nd (a166 P) (nd (a294 P) nl nl) (nd (a422 P) nl nl)) (nd (a230 P) (nd (a358 P) nl nl) nl))) (nd (a54 P) (nd (a86 P) (nd (a150 P) (nd (a278 P) nl nl) (nd (a406 P) nl nl)) (nd (a214 P) (nd (a342 P) nl nl) nl)) (nd (a118 P) (nd (a182 P) (nd (a310 P) nl nl) (nd (a438 P) nl nl)) (nd (a246 P) (nd (a374 P) nl nl) nl)))) (nd (a30 P) (nd (a46 P) (nd (a78 P) (nd (a142 P) (nd (a270 P) nl nl) (nd (a398 P) nl nl)) (nd (a206 P) (nd (a334 P) nl nl) (nd (a462 P) nl nl))) (nd (a110 P) (nd (a174 P) (nd (a302 P) nl nl) (nd (a430 P) nl nl)) (nd (a238 P) (nd (a366 P) nl nl) nl))) (nd (a62 P) (nd (a94 P) (nd (a158 P) (nd (a286 P) nl nl) (nd (a414 P) nl nl)) (nd (a222 P) (nd (a350 P) nl nl) nl)) (nd (a126 P) (nd (a190 P) (nd (a318 P) nl nl) (nd (a446 P) nl nl)) (nd (a254 P) (nd (a382 P) nl nl) nl))))))))
noncomputable def a3_10 (P : Params) : Obj := ⟨(.type "dict"), none, (.dict #[kv P "__name__" 165 (vS "lua.tokenrow" 875), kv P "__doc__" 166 .none, kv P "__package__" 167 .none, kv P "__loader__" 168 (.builtin "__main__.__loader__#opaque"), kv P "__spec__" 169 .none, kv P "__annotations__" 170 (.ref 6), kv P "__builtins__" 171 (.ref 4), kv P "__file__" 173 (vS "/claim/cut.py" 172), kv P "__cached__" 174 .none, kv P "_wall" 193 (.ref 21), kv P "BLANKS" 197 (.bytes #[32, 9, 10, 11, 12, 13] 196), kv P "Limits" 268 (.ref 53), kv P "LuaError" 299 (.ref 74), kv P "LuaSyntaxError" 315 (.ref 87), kv P "is_number" 322 (.ref 96), kv P "wrap" 331 (.ref 103), kv P "is_blank" 338 (.ref 210), kv P "is_blank_values" 339 (.ref 110), kv P "digit_of" 346 (.ref 117), kv P "read_digits" 359 (.ref 124), kv P "skip_blanks" 367 (.ref 131), kv P "str_to_number" 375 (.ref 138), kv P "text_in_base" 389 (.ref 145), kv P "number_text" 398 (.ref 152), kv P "to_text" 405 (.ref 159), kv P "c_text" 413 (.ref 166), kv P "first_line" 421 (.ref 173), kv P "chunk_id" 432 (.ref 180), kv P "END_OF_TEXT" 437 (.int (-1) 436), kv P "FIRST_RESERVED" 439 (.int 257 438), kv P "RESERVED" 461 (.ref 181), kv P "TK_CONCAT" 463 (.int 278 462), kv P "TK_DOTS" 465 (.int 279 464), kv P "TK_EQ" 467 (.int 280 466), kv P "TK_GE" 469 (.int 281 468), kv P "TK_LE" 471 (.int 282 470), kv P "TK_NE" 473 (.int 283 472), kv P "TK_NUMBER" 475 (.int 284 474), kv P "TK_NAME" 477 (.int 285 476), kv P "TK_STRING" 479 (.int 286 478), kv P "TK_EOS" 481 (.int 287 480), kv P "OTHER_TEXTS" 492 (.ref 182), kv P "SOURCE_SIZE" 494 (.int 80 493), kv P "MOST_LINES" 496 (.int 2147483645 495), kv P "NEWLINE" 498 (.int 10 497), kv P "RETURN" 500 (.int 13 499), kv P "QUOTE_DOUBLE" 502 (.int 34 501), kv P "QUOTE_SINGLE" 504 (.int 39 503), kv P "PLUS" 506 (.int 43 505), kv P "MINUS" 508 (.int 45 507), kv P "DOT" 510 (.int 46 509), kv P "LESS" 512 (.int 60 511), kv P "EQUALS" 514 (.int 61 513), kv P "GREATER" 516 (.int 62 515), kv P "BRACKET_OPEN" 518 (.int 91 517), kv P "BACKSLASH" 520 (.int 92 519), kv P "BRACKET_CLOSE" 522 (.int 93 521), kv P "UNDERSCORE" 524 (.int 95 523), kv P "TILDE" 526 (.int 126 525), kv P "is_digit" 533 (.ref 189), kv P "is_letter" 540 (.ref 196), kv P "is_name_sign" 547 (.ref 203), kv P "is_blank_lexer" 555 (.ref 210), kv P "is_control" 562 (.ref 217), kv P "is_newline" 569 (.ref 224), kv P "escaped_sign" 577 (.ref 231), kv P "reserved_kinds" 586 (.ref 238), kv P "token_text" 594 (.ref 245), kv P "Token" 625 (.ref 262), kv P "Lexer" 874 (.ref 465), kv P "TokenRow" 949 (.ref 521)] 71), #[]⟩
noncomputable def a12_9 (_ : Params) : Obj := oNo #[(.int 1 0), (.int 0 0), (.ref 20), (.int 6 0), (.int 0 0), (.ref 27), (.int 25 0), (.int 0 0), (.ref 63), (.int 31 0), (.int 0 0), (.ref 83), (.int 33 0), (.int 0 0), (.ref 95), (.int 35 0), (.int 0 0), (.ref 102), (.int 40 0), (.int 0 0), (.ref 109), (.int 43 0), (.int 0 0), (.ref 116), (.int 51 0), (.int 0 0), (.ref 123), (.int 60 0), (.int 0 0), (.ref 130), (.int 64 0), (.int 0 0), (.ref 137), (.int 66 0), (.int 0 0), (.ref 144), (.int 78 0), (.int 0 0), (.ref 151), (.int 88 0), (.int 0 0), (.ref 158), (.int 94 0), (.int 0 0), (.ref 165), (.int 99 0), (.int 0 0), (.ref 172), (.int 104 0), (.int 0 0), (.ref 179), (.int 149 0), (.int 0 0), (.ref 188), (.int 151 0), (.int 0 0), (.ref 195), (.int 153 0), (.int 0 0), (.ref 202), (.int 155 0), (.int 0 0), (.ref 209), (.int 158 0), (.int 0 0), (.ref 216), (.int 160 0), (.int 0 0), (.ref 223), (.int 162 0), (.int 0 0), (.ref 230), (.int 165 0), (.int 0 0), (.ref 237), (.int 170 0), (.int 0 0), (.ref 244), (.int 177 0), (.int 0 0), (.ref 251), (.int 182 0), (.int 0 0), (.ref 272), (.int 436 0), (.int 0 0), (.ref 475)]
noncomputable def a470 (_ : Params) : Obj := oTu #[]
noncomputable def a471 (_ : Params) : Obj := ⟨(.type "builtin_function_or_method"), none, (.fields #[(.builtin "type.__prepare__"), (.type "type")]), #[]⟩
noncomputable def a472 (P : Params) : Obj := ⟨(.type "dict"), none, (.dict #[kv P "__module__" 884 (vS "lua.tokenrow" 875), kv P "__qualname__" 886 (vS "TokenRow" 885), kv P "__firstlineno__" 888 (.int 436 887), kv P "__init__" 896 (.ref 483), kv P "token_at" 904 (.ref 490), kv P "next" 911 (.ref 497), kv P "lookahead" 918 (.ref 504), kv P "error" 928 (.ref 511), kv P "syntax_error" 936 (.ref 518), kv P "__static_attributes__" 942 (.ref 519)] 10), #[]⟩
noncomputable def a473 (_ : Params) : Obj := oTu #[]
noncomputable def a474 (_ : Params) : Obj := oNo #[(.int 438 0), (.int 4 0), (.ref 482), (.int 446 0), (.int 4 0), (.ref 489), (.int 449 0), (.int 4 0), (.ref 496), (.int 457 0), (.int 4 0), (.ref 503), (.int 460 0), (.int 4 0), (.ref 510), (.int 464 0), (.int 4 0), (.ref 517)]
noncomputable def a475 (_ : Params) : Obj := oCo #[(vS "TokenRow" 879), (vS "TokenRow" 880), (vS "/claim/cut.py" 881), (.int 436 0), (.int 0 0), (.int 0 0), (.int 0 0), (.int 0 0), (.ref 473), (.bool false), (.int 181 0), (.ref 474), .none, .none, .none, .none, (.int 882 0), (.int 436 0), (vS "/claim/cut.py" 883)]
noncomputable def a476 (_ : Params) : Obj := ⟨(.type "frame"), none, .plain, #[(some (.ref 475)), (some (.ref 3)), (some (.ref 472)), none, (some (vS "lua.tokenrow" 875)), none, (some (.ref 0))]⟩
noncomputable def a477 (_ : Params) : Obj := oTu #[]
noncomputable def a478 (_ : Params) : Obj := oNo #[]
noncomputable def a479 (_ : Params) : Obj := oTu #[(vS "self" 892), (vS "pairs" 893)]
noncomputable def a480 (_ : Params) : Obj := oTu #[]
noncomputable def fd481 : FuncData := fo (sC 65 0) (sx "__init__") (sx "TokenRow.__init__") 0 .none .none .none
noncomputable def a481 (_ : Params) : Obj := oNf fd481
noncomputable def a482 (_ : Params) : Obj := oCo #[(vS "__init__" 889), (vS "TokenRow.__init__" 890), (vS "/claim/cut.py" 891), (.int 438 0), (.int 2 0), (.int 0 0), (.int 0 0), (.int 3 0), (.ref 477), (.bool true), (.int 181 0), (.ref 478), .none, (.ref 479), (.ref 480), (.ref 481), (.int 894 0), (.int 438 0), (vS "/claim/cut.py" 895)]
noncomputable def fd483 : FuncData := fo (sC 65 0) (sx "__init__") (sx "TokenRow.__init__") 3 .none (vS "lua.tokenrow" 875) (.ref 482)
noncomputable def a483 (_ : Params) : Obj := oFn fd483
noncomputable def a484 (_ : Params) : Obj := oTu #[]
noncomputable def a485 (_ : Params) : Obj := oNo #[]
noncomputable def a486 (_ : Params) : Obj := oTu #[(vS "self" 900), (vS "at" 901)]
noncomputable def a487 (_ : Params) : Obj := oTu #[]
noncomputable def fd488 : FuncData := fo (sC 65 1) (sx "token_at") (sx "TokenRow.token_at") 0 .none .none .none
noncomputable def a488 (_ : Params) : Obj := oNf fd488
noncomputable def a489 (_ : Params) : Obj := oCo #[(vS "token_at" 897), (vS "TokenRow.token_at" 898), (vS "/claim/cut.py" 899), (.int 446 0), (.int 2 0), (.int 0 0), (.int 0 0), (.int 3 0), (.ref 484), (.bool true), (.int 181 0), (.ref 485), .none, (.ref 486), (.ref 487), (.ref 488), (.int 902 0), (.int 446 0), (vS "/claim/cut.py" 903)]
noncomputable def fd490 : FuncData := fo (sC 65 1) (sx "token_at") (sx "TokenRow.token_at") 3 .none (vS "lua.tokenrow" 875) (.ref 489)
noncomputable def a490 (_ : Params) : Obj := oFn fd490
noncomputable def a491 (_ : Params) : Obj := oTu #[]
noncomputable def a492 (_ : Params) : Obj := oNo #[]
noncomputable def a493 (_ : Params) : Obj := oTu #[(vS "self" 908)]
noncomputable def a494 (_ : Params) : Obj := oTu #[]
noncomputable def fd495 : FuncData := fo (sC 65 2) (sx "next") (sx "TokenRow.next") 0 .none .none .none
noncomputable def a495 (_ : Params) : Obj := oNf fd495
noncomputable def a496 (_ : Params) : Obj := oCo #[(vS "next" 905), (vS "TokenRow.next" 906), (vS "/claim/cut.py" 907), (.int 449 0), (.int 1 0), (.int 0 0), (.int 0 0), (.int 3 0), (.ref 491), (.bool true), (.int 181 0), (.ref 492), .none, (.ref 493), (.ref 494), (.ref 495), (.int 909 0), (.int 449 0), (vS "/claim/cut.py" 910)]
noncomputable def fd497 : FuncData := fo (sC 65 2) (sx "next") (sx "TokenRow.next") 3 .none (vS "lua.tokenrow" 875) (.ref 496)
noncomputable def a497 (_ : Params) : Obj := oFn fd497
noncomputable def a498 (_ : Params) : Obj := oTu #[]
noncomputable def a499 (_ : Params) : Obj := oNo #[]
noncomputable def a500 (_ : Params) : Obj := oTu #[(vS "self" 915)]
noncomputable def a501 (_ : Params) : Obj := oTu #[]
noncomputable def fd502 : FuncData := fo (sC 65 3) (sx "lookahead") (sx "TokenRow.lookahead") 0 .none .none .none
noncomputable def a502 (_ : Params) : Obj := oNf fd502
noncomputable def a503 (_ : Params) : Obj := oCo #[(vS "lookahead" 912), (vS "TokenRow.lookahead" 913), (vS "/claim/cut.py" 914), (.int 457 0), (.int 1 0), (.int 0 0), (.int 0 0), (.int 3 0), (.ref 498), (.bool true), (.int 181 0), (.ref 499), .none, (.ref 500), (.ref 501), (.ref 502), (.int 916 0), (.int 457 0), (vS "/claim/cut.py" 917)]
noncomputable def fd504 : FuncData := fo (sC 65 3) (sx "lookahead") (sx "TokenRow.lookahead") 3 .none (vS "lua.tokenrow" 875) (.ref 503)
noncomputable def a504 (_ : Params) : Obj := oFn fd504
noncomputable def a505 (_ : Params) : Obj := oTu #[]
noncomputable def a506 (_ : Params) : Obj := oNo #[]
noncomputable def a507 (_ : Params) : Obj := oTu #[(vS "self" 922), (vS "text" 923), (vS "kind" 924), (vS "told" 925)]
noncomputable def a508 (_ : Params) : Obj := oTu #[]
noncomputable def fd509 : FuncData := fo (sC 65 4) (sx "error") (sx "TokenRow.error") 0 .none .none .none
noncomputable def a509 (_ : Params) : Obj := oNf fd509
noncomputable def a510 (_ : Params) : Obj := oCo #[(vS "error" 919), (vS "TokenRow.error" 920), (vS "/claim/cut.py" 921), (.int 460 0), (.int 3 0), (.int 0 0), (.int 0 0), (.int 3 0), (.ref 505), (.bool true), (.int 181 0), (.ref 506), .none, (.ref 507), (.ref 508), (.ref 509), (.int 926 0), (.int 460 0), (vS "/claim/cut.py" 927)]
noncomputable def fd511 : FuncData := fo (sC 65 4) (sx "error") (sx "TokenRow.error") 3 .none (vS "lua.tokenrow" 875) (.ref 510)
noncomputable def a511 (_ : Params) : Obj := oFn fd511
noncomputable def a512 (_ : Params) : Obj := oTu #[]
noncomputable def a513 (_ : Params) : Obj := oNo #[]
noncomputable def a514 (_ : Params) : Obj := oTu #[(vS "self" 932), (vS "text" 933)]
noncomputable def a515 (_ : Params) : Obj := oTu #[]
noncomputable def fd516 : FuncData := fo (sC 65 5) (sx "syntax_error") (sx "TokenRow.syntax_error") 0 .none .none .none
noncomputable def a516 (_ : Params) : Obj := oNf fd516
noncomputable def a517 (_ : Params) : Obj := oCo #[(vS "syntax_error" 929), (vS "TokenRow.syntax_error" 930), (vS "/claim/cut.py" 931), (.int 464 0), (.int 2 0), (.int 0 0), (.int 0 0), (.int 3 0), (.ref 512), (.bool true), (.int 181 0), (.ref 513), .none, (.ref 514), (.ref 515), (.ref 516), (.int 934 0), (.int 464 0), (vS "/claim/cut.py" 935)]
noncomputable def fd518 : FuncData := fo (sC 65 5) (sx "syntax_error") (sx "TokenRow.syntax_error") 3 .none (vS "lua.tokenrow" 875) (.ref 517)
noncomputable def a518 (_ : Params) : Obj := oFn fd518
noncomputable def a519 (_ : Params) : Obj := oTu #[(vS "at" 937), (vS "current" 938), (vS "last_line" 939), (vS "line" 940), (vS "pairs" 941)]
noncomputable def a520 (P : Params) : Obj := ⟨(.type "dict"), none, (.dict #[kv P "__module__" 884 (vS "lua.tokenrow" 875), kv P "__firstlineno__" 888 (.int 436 887), kv P "__init__" 896 (.ref 483), kv P "token_at" 904 (.ref 490), kv P "next" 911 (.ref 497), kv P "lookahead" 918 (.ref 504), kv P "error" 928 (.ref 511), kv P "syntax_error" 936 (.ref 518), kv P "__static_attributes__" 942 (.ref 519), kv P "__dict__" 944 (.ref 522), kv P "__weakref__" 946 (.ref 523), kv P "__doc__" 947 .none] 4), #[]⟩
noncomputable def a521 (_ : Params) : Obj := ⟨(.type "type"), none, (.cls { name := (sx "TokenRow"), bases := [(.type "object")], mro := [(.ref 521), (.type "object")], ns := 520, qualname := (sx "TokenRow"), hasDict := true, slotNames := [], subclasses := [], abstract := false, collection := none, hasDel := false }), #[none, none, (some (vS "TokenRow" 877)), (some (vS "TokenRow" 885)), (some (.builtin "object.__new__")), (some (.bool true))]⟩
noncomputable def a522 (_ : Params) : Obj := ⟨(.type "getset_descriptor"), none, (.fields #[(vS "__dict__" 943), (.ref 521), (.builtin "function.__dict__"), (.builtin "function.__dict__#set")]), #[]⟩
noncomputable def a523 (_ : Params) : Obj := ⟨(.type "getset_descriptor"), none, (.fields #[(vS "__weakref__" 945), (.ref 521), (.builtin "ExceptionGroup.__weakref__"), .none]), #[]⟩
noncomputable def a524 (_ : Params) : Obj := ⟨(.type "super"), none, (.fields #[(.ref 521), (.ref 521), (.ref 521)]), #[]⟩
noncomputable def a525 (_ : Params) : Obj := ⟨(.type "builtin_function_or_method"), none, (.fields #[(.builtin "object.__init_subclass__"), (.ref 521)]), #[]⟩
noncomputable def tr11 (P : Params) : BT := (nd (boot_o_0 P) (nd (boot_o_1 P) (nd (a3_10 P) (nd (boot_o_7 P) (nd (a15 P) (nd (a31 P) (nd (a63 P) (nd (a127 P) (nd (a255 P) (nd (a511 P) nl nl) nl) (nd (a383 P) nl nl)) (nd (a191 P) (nd (a319 P) nl nl) (nd (a447 P) nl nl))) (nd (a95 P) (nd (a159 P) (nd (a287 P) nl nl) (nd (a415 P) nl nl)) (nd (a223 P) (nd (a351 P) nl nl) (nd (a479 P) nl nl)))) (nd (a47 P) (nd (a79 P) (nd (a143 P) (nd (a271 P) nl nl) (nd (a399 P) nl nl)) (nd (a207 P) (nd (a335 P) nl nl) (nd (a463 P) nl nl))) (nd (a111 P) (nd (a175 P) (nd (a303 P) nl nl) (nd (a431 P) nl nl)) (nd (a239 P) (nd (a367 P) nl nl) (nd (a495 P) nl nl))))) (nd (a23 P) (nd (a39 P) (nd (a71 P) (nd (a135 P) (nd (a263 P) (nd (a519 P) nl nl) nl) (nd (a391 P) nl nl)) (nd (a199 P) (nd (a327 P) nl nl) (nd (a455 P) nl nl))) (nd (a103 P) (nd (a167 P) (nd (a295 P) nl nl) (nd (a423 P) nl nl)) (nd (a231 P) (nd (a359 P) nl nl) (nd (a487 P) nl nl)))) (nd (a55 P) (nd (a87 P) (nd (a151 P) (nd (a279 P) nl nl) (nd (a407 P) nl nl)) (nd (a215 P) (nd (a343 P) nl nl) (nd (a471 P) nl nl))) (nd (a119 P) (nd (a183 P) (nd (a311 P) nl nl) (nd (a439 P) nl nl)) (nd (a247 P) (nd (a375 P) nl nl) (nd (a503 P) nl nl)))))) (nd (a11 P) (nd (a19 P) (nd (a35 P) (nd (a67 P) (nd (a131 P) (nd (a259 P) (nd (a515 P) nl nl) nl) (nd (a387 P) nl nl)) (nd (a195 P) (nd (a323 P) nl nl) (nd (a451 P) nl nl))) (nd (a99 P) (nd (a163 P) (nd (a291 P) nl nl) (nd (a419 P) nl nl)) (nd (a227 P) (nd (a355 P) nl nl) (nd (a483 P) nl nl)))) (nd (a51 P) (nd (a83 P) (nd (a147 P) (nd (a275 P) nl nl) (nd (a403 P) nl nl)) (nd (a211 P) (nd (a339 P) nl nl) (nd (a467 P) nl nl))) (nd (a115 P) (nd (a179 P) (nd (a307 P) nl nl) (nd (a435 P) nl nl)) (nd (a243 P) (nd (a371 P) nl nl) (nd (a499 P) nl nl))))) (nd (a27 P) (nd (a43 P) (nd (a75 P) (nd (a139 P) (nd (a267 P) (nd (a523 P) nl nl) nl) (nd (a395 P) nl nl)) (nd (a203 P) (nd (a331 P) nl nl) (nd (a459 P) nl nl))) (nd (a107 P) (nd (a171 P) (nd (a299 P) nl nl) (nd (a427 P) nl nl)) (nd (a235 P) (nd (a363 P) nl nl) (nd (a491 P) nl nl)))) (nd (a59 P) (nd (a91 P) (nd (a155 P) (nd (a283 P) nl nl) (nd (a411 P) nl nl)) (nd (a219 P) (nd (a347 P) nl nl) (nd (a475 P) nl nl))) (nd (a123 P) (nd (a187 P) (nd (a315 P) nl nl) (nd (a443 P) nl nl)) (nd (a251 P) (nd (a379 P) nl nl) (nd (a507 P) nl nl))))))) (nd (boot_o_5 P) (nd (boot_o_9 P) (nd (a17 P) (nd (a33 P) (nd (a65 P) (nd (a129 P) (nd (a257 P) (nd (a513 P) nl nl) nl) (nd (a385 P) nl nl)) (nd (a193 P) (nd (a321 P) nl nl) (nd (a449 P) nl nl))) (nd (a97 P) (nd (a161 P) (nd (a289 P) nl nl) (nd (a417 P) nl nl)) (nd (a225 P) (nd (a353 P) nl nl) (nd (a481 P) nl nl)))) (nd (a49 P) (nd (a81 P) (nd (a145 P) (nd (a273 P) nl nl) (nd (a401 P) nl nl)) (nd (a209 P) (nd (a337 P) nl nl) (nd (a465 P) nl nl))) (nd (a113 P) (nd (a177 P) (nd (a305 P) nl nl) (nd (a433 P) nl nl)) (nd (a241 P) (nd (a369 P) nl nl) (nd (a497 P) nl nl))))) (nd (a25 P) (nd (a41 P) (nd (a73 P) (nd (a137 P) (nd (a265 P) (nd (a521 P) nl nl) nl) (nd (a393 P) nl nl)) (nd (a201 P) (nd (a329 P) nl nl) (nd (a457 P) nl nl))) (nd (a105 P) (nd (a169 P) (nd (a297 P) nl nl) (nd (a425 P) nl nl)) (nd (a233 P) (nd (a361 P) nl nl) (nd (a489 P) nl nl)))) (nd (a57 P) (nd (a89 P) (nd (a153 P) (nd (a281 P) nl nl) (nd (a409 P) nl nl)) (nd (a217 P) (nd (a345 P) nl nl) (nd (a473 P) nl nl))) (nd (a121 P) (nd (a185 P) (nd (a313 P) nl nl) (nd (a441 P) nl nl)) (nd (a249 P) (nd (a377 P) nl nl) (nd (a505 P) nl nl)))))) (nd (a13 P) (nd (a21 P) (nd (a37 P) (nd (a69 P) (nd (a133 P) (nd (a261 P) (nd (a517 P) nl nl) nl) (nd (a389 P) nl nl)) (nd (a197 P) (nd (a325 P) nl nl) (nd (a453 P) nl nl))) (nd (a101 P) (nd (a165 P) (nd (a293 P) nl nl) (nd (a421 P) nl nl)) (nd (a229 P) (nd (a357 P) nl nl) (nd (a485 P) nl nl)))) (nd (a53 P) (nd (a85 P) (nd (a149 P) (nd (a277 P) nl nl) (nd (a405 P) nl nl)) (nd (a213 P) (nd (a341 P) nl nl) (nd (a469 P) nl nl))) (nd (a117 P) (nd (a181 P) (nd (a309 P) nl nl) (nd (a437 P) nl nl)) (nd (a245 P) (nd (a373 P) nl nl) (nd (a501 P) nl nl))))) (nd (a29 P) (nd (a45 P) (nd (a77 P) (nd (a141 P) (nd (a269 P) (nd (a525 P) nl nl) nl) (nd (a397 P) nl nl)) (nd (a205 P) (nd (a333 P) nl nl) (nd (a461 P) nl nl))) (nd (a109 P) (nd (a173 P) (nd (a301 P) nl nl) (nd (a429 P) nl nl)) (nd (a237 P) (nd (a365 P) nl nl) (nd (a493 P) nl nl)))) (nd (a61 P) (nd (a93 P) (nd (a157 P) (nd (a285 P) nl nl) (nd (a413 P) nl nl)) (nd (a221 P) (nd (a349 P) nl nl) (nd (a477 P) nl nl))) (nd (a125 P) (nd (a189 P) (nd (a317 P) nl nl) (nd (a445 P) nl nl)) (nd (a253 P) (nd (a381 P) nl nl) (nd (a509 P) nl nl)))))))) (nd (a2 P) (nd (boot_o_4 P) (nd (boot_o_8 P) (nd (a16 P) (nd (a32 P) (nd (a64 P) (nd (a128 P) (nd (a256 P) (nd (a512 P) nl nl) nl) (nd (a384 P) nl nl)) (nd (a192 P) (nd (a320 P) nl nl) (nd (a448 P) nl nl))) (nd (a96 P) (nd (a160 P) (nd (a288 P) nl nl) (nd (a416 P) nl nl)) (nd (a224 P) (nd (a352 P) nl nl) (nd (a480 P) nl nl)))) (nd (a48 P) (nd (a80 P) (nd (a144 P) (nd (a272 P) nl nl) (nd (a400 P) nl nl)) (nd (a208 P) (nd (a336 P) nl nl) (nd (a464 P) nl nl))) (nd (a112 P) (nd (a176 P) (nd (a304 P) nl nl) (nd (a432 P) nl nl)) (nd (a240 P) (nd (a368 P) nl nl) (nd (a496 P) nl nl))))) (nd (a24 P) (nd (a40 P) (nd (a72 P) (nd (a136 P) (nd (a264 P) (nd (a520 P) nl nl) nl) (nd (a392 P) nl nl)) (nd (a200 P) (nd (a328 P) nl nl) (nd (a456 P) nl nl))) (nd (a104 P) (nd (a168 P) (nd (a296 P) nl nl) (nd (a424 P) nl nl)) (nd (a232 P) (nd (a360 P) nl nl) (nd (a488 P) nl nl)))) (nd (a56 P) (nd (a88 P) (nd (a152 P) (nd (a280 P) nl nl) (nd (a408 P) nl nl)) (nd (a216 P) (nd (a344 P) nl nl) (nd (a472 P) nl nl))) (nd (a120 P) (nd (a184 P) (nd (a312 P) nl nl) (nd (a440 P) nl nl)) (nd (a248 P) (nd (a376 P) nl nl) (nd (a504 P) nl nl)))))) (nd (a12_9 P) (nd (a20 P) (nd (a36 P) (nd (a68 P) (nd (a132 P) (nd (a260 P) (nd (a516 P) nl nl) nl) (nd (a388 P) nl nl)) (nd (a196 P) (nd (a324 P) nl nl) (nd (a452 P) nl nl))) (nd (a100 P) (nd (a164 P) (nd (a292 P) nl nl) (nd (a420 P) nl nl)) (nd (a228 P) (nd (a356 P) nl nl) (nd (a484 P) nl nl)))) (nd (a52 P) (nd (a84 P) (nd (a148 P) (nd (a276 P) nl nl) (nd (a404 P) nl nl)) (nd (a212 P) (nd (a340 P) nl nl) (nd (a468 P) nl nl))) (nd (a116 P) (nd (a180 P) (nd (a308 P) nl nl) (nd (a436 P) nl nl)) (nd (a244 P) (nd (a372 P) nl nl) (nd (a500 P) nl nl))))) (nd (a28 P) (nd (a44 P) (nd (a76 P) (nd (a140 P) (nd (a268 P) (nd (a524 P) nl nl) nl) (nd (a396 P) nl nl)) (nd (a204 P) (nd (a332 P) nl nl) (nd (a460 P) nl nl))) (nd (a108 P) (nd (a172 P) (nd (a300 P) nl nl) (nd (a428 P) nl nl)) (nd (a236 P) (nd (a364 P) nl nl) (nd (a492 P) nl nl)))) (nd (a60 P) (nd (a92 P) (nd (a156 P) (nd (a284 P) nl nl) (nd (a412 P) nl nl)) (nd (a220 P) (nd (a348 P) nl nl) (nd (a476 P) nl nl))) (nd (a124 P) (nd (a188 P) (nd (a316 P) nl nl) (nd (a444 P) nl nl)) (nd (a252 P) (nd (a380 P) nl nl) (nd (a508 P) nl nl))))))) (nd (boot_o_6 P) (nd (boot_o_10 P) (nd (a18 P) (nd (a34 P) (nd (a66 P) (nd (a130 P) (nd (a258 P) (nd (a514 P) nl nl) nl) (nd (a386 P) nl nl)) (nd (a194 P) (nd (a322 P) nl nl) (nd (a450 P) nl nl))) (nd (a98 P) (nd (a162 P) (nd (a290 P) nl nl) (nd (a418 P) nl nl)) (nd (a226 P) (nd (a354 P) nl nl) (nd (a482 P) nl nl)))) (nd (a50 P) (nd (a82 P) (nd (a146 P) (nd (a274 P) nl nl) (nd (a402 P) nl nl)) (nd (a210 P) (nd (a338 P) nl nl) (nd (a466 P) nl nl))) (nd (a114 P) (nd (a178 P) (nd (a306 P) nl nl) (nd (a434 P) nl nl)) (nd (a242 P) (nd (a370 P) nl nl) (nd (a498 P) nl nl))))) (nd (a26 P) (nd (a42 P) (nd (a74_1 P) (nd (a138 P) (nd (a266 P) (nd (a522 P) nl nl) nl) (nd (a394 P) nl nl)) (nd (a202 P) (nd (a330 P) nl nl) (nd (a458 P) nl nl))) (nd (a106 P) (nd (a170 P) (nd (a298 P) nl nl) (nd (a426 P) nl nl)) (nd (a234 P) (nd (a362 P) nl nl) (nd (a490 P) nl nl)))) (nd (a58 P) (nd (a90 P) (nd (a154 P) (nd (a282 P) nl nl) (nd (a410 P) nl nl)) (nd (a218 P) (nd (a346 P) nl nl) (nd (a474 P) nl nl))) (nd (a122 P) (nd (a186 P) (nd (a314 P) nl nl) (nd (a442 P) nl nl)) (nd (a250 P) (nd (a378 P) nl nl) (nd (a506 P) nl nl)))))) (nd (a14 P) (nd (a22 P) (nd (a38 P) (nd (a70 P) (nd (a134 P) (nd (a262 P) (nd (a518 P) nl nl) nl) (nd (a390 P) nl nl)) (nd (a198 P) (nd (a326 P) nl nl) (nd (a454 P) nl nl))) (nd (a102 P) (nd (a166 P) (nd (a294 P) nl nl) (nd (a422 P) nl nl)) (nd (a230 P) (nd (a358 P) nl nl) (nd (a486 P) nl nl)))) (nd (a54 P) (nd (a86 P) (nd (a150 P) (nd (a278 P) nl nl) (nd (a406 P) nl nl)) (nd (a214 P) (nd (a342 P) nl nl) (nd (a470 P) nl nl))) (nd (a118 P) (nd (a182 P) (nd (a310 P) nl nl) (nd (a438 P) nl nl)) (nd (a246 P) (nd (a374 P) nl nl) (nd (a502 P) nl nl))))) (nd (a30 P) (nd (a46 P) (nd (a78 P) (nd (a142 P) (nd (a270 P) nl nl) (nd (a398 P) nl nl)) (nd (a206 P) (nd (a334 P) nl nl) (nd (a462 P) nl nl))) (nd (a110 P) (nd (a174 P) (nd (a302 P) nl nl) (nd (a430 P) nl nl)) (nd (a238 P) (nd (a366 P) nl nl) (nd (a494 P) nl nl)))) (nd (a62 P) (nd (a94 P) (nd (a158 P) (nd (a286 P) nl nl) (nd (a414 P) nl nl)) (nd (a222 P) (nd (a350 P) nl nl) (nd (a478 P) nl nl))) (nd (a126 P) (nd (a190 P) (nd (a318 P) nl nl) (nd (a446 P) nl nl)) (nd (a254 P) (nd (a382 P) nl nl) (nd (a510 P) nl nl)))))))))
noncomputable def a3_11 (P : Params) : Obj := ⟨(.type "dict"), none, (.dict #[kv P "__name__" 165 (vS "law_sm0068_01" 950), kv P "__doc__" 166 .none, kv P "__package__" 167 .none, kv P "__loader__" 168 (.builtin "__main__.__loader__#opaque"), kv P "__spec__" 169 .none, kv P "__annotations__" 170 (.ref 6), kv P "__builtins__" 171 (.ref 4), kv P "__file__" 173 (vS "/claim/cut.py" 172), kv P "__cached__" 174 .none, kv P "_wall" 193 (.ref 21), kv P "BLANKS" 197 (.bytes #[32, 9, 10, 11, 12, 13] 196), kv P "Limits" 268 (.ref 53), kv P "LuaError" 299 (.ref 74), kv P "LuaSyntaxError" 315 (.ref 87), kv P "is_number" 322 (.ref 96), kv P "wrap" 331 (.ref 103), kv P "is_blank" 338 (.ref 210), kv P "is_blank_values" 339 (.ref 110), kv P "digit_of" 346 (.ref 117), kv P "read_digits" 359 (.ref 124), kv P "skip_blanks" 367 (.ref 131), kv P "str_to_number" 375 (.ref 138), kv P "text_in_base" 389 (.ref 145), kv P "number_text" 398 (.ref 152), kv P "to_text" 405 (.ref 159), kv P "c_text" 413 (.ref 166), kv P "first_line" 421 (.ref 173), kv P "chunk_id" 432 (.ref 180), kv P "END_OF_TEXT" 437 (.int (-1) 436), kv P "FIRST_RESERVED" 439 (.int 257 438), kv P "RESERVED" 461 (.ref 181), kv P "TK_CONCAT" 463 (.int 278 462), kv P "TK_DOTS" 465 (.int 279 464), kv P "TK_EQ" 467 (.int 280 466), kv P "TK_GE" 469 (.int 281 468), kv P "TK_LE" 471 (.int 282 470), kv P "TK_NE" 473 (.int 283 472), kv P "TK_NUMBER" 475 (.int 284 474), kv P "TK_NAME" 477 (.int 285 476), kv P "TK_STRING" 479 (.int 286 478), kv P "TK_EOS" 481 (.int 287 480), kv P "OTHER_TEXTS" 492 (.ref 182), kv P "SOURCE_SIZE" 494 (.int 80 493), kv P "MOST_LINES" 496 (.int 2147483645 495), kv P "NEWLINE" 498 (.int 10 497), kv P "RETURN" 500 (.int 13 499), kv P "QUOTE_DOUBLE" 502 (.int 34 501), kv P "QUOTE_SINGLE" 504 (.int 39 503), kv P "PLUS" 506 (.int 43 505), kv P "MINUS" 508 (.int 45 507), kv P "DOT" 510 (.int 46 509), kv P "LESS" 512 (.int 60 511), kv P "EQUALS" 514 (.int 61 513), kv P "GREATER" 516 (.int 62 515), kv P "BRACKET_OPEN" 518 (.int 91 517), kv P "BACKSLASH" 520 (.int 92 519), kv P "BRACKET_CLOSE" 522 (.int 93 521), kv P "UNDERSCORE" 524 (.int 95 523), kv P "TILDE" 526 (.int 126 525), kv P "is_digit" 533 (.ref 189), kv P "is_letter" 540 (.ref 196), kv P "is_name_sign" 547 (.ref 203), kv P "is_blank_lexer" 555 (.ref 210), kv P "is_control" 562 (.ref 217), kv P "is_newline" 569 (.ref 224), kv P "escaped_sign" 577 (.ref 231), kv P "reserved_kinds" 586 (.ref 238), kv P "token_text" 594 (.ref 245), kv P "Token" 625 (.ref 262), kv P "Lexer" 874 (.ref 465), kv P "TokenRow" 949 (.ref 521), kv P "_law_sip" 960 (.ref 532), kv P "_law_told" 967 (.ref 539), kv P "_law_tokens" 978 (.ref 546), kv P "_law_refused" 985 (.ref 553), kv P "law" 991 (.ref 558)] 76), #[]⟩
noncomputable def a12_10 (_ : Params) : Obj := oNo #[(.int 1 0), (.int 0 0), (.ref 20), (.int 6 0), (.int 0 0), (.ref 27), (.int 25 0), (.int 0 0), (.ref 63), (.int 31 0), (.int 0 0), (.ref 83), (.int 33 0), (.int 0 0), (.ref 95), (.int 35 0), (.int 0 0), (.ref 102), (.int 40 0), (.int 0 0), (.ref 109), (.int 43 0), (.int 0 0), (.ref 116), (.int 51 0), (.int 0 0), (.ref 123), (.int 60 0), (.int 0 0), (.ref 130), (.int 64 0), (.int 0 0), (.ref 137), (.int 66 0), (.int 0 0), (.ref 144), (.int 78 0), (.int 0 0), (.ref 151), (.int 88 0), (.int 0 0), (.ref 158), (.int 94 0), (.int 0 0), (.ref 165), (.int 99 0), (.int 0 0), (.ref 172), (.int 104 0), (.int 0 0), (.ref 179), (.int 149 0), (.int 0 0), (.ref 188), (.int 151 0), (.int 0 0), (.ref 195), (.int 153 0), (.int 0 0), (.ref 202), (.int 155 0), (.int 0 0), (.ref 209), (.int 158 0), (.int 0 0), (.ref 216), (.int 160 0), (.int 0 0), (.ref 223), (.int 162 0), (.int 0 0), (.ref 230), (.int 165 0), (.int 0 0), (.ref 237), (.int 170 0), (.int 0 0), (.ref 244), (.int 177 0), (.int 0 0), (.ref 251), (.int 182 0), (.int 0 0), (.ref 272), (.int 436 0), (.int 0 0), (.ref 475), (.int 467 0), (.int 0 0), (.ref 531), (.int 471 0), (.int 0 0), (.ref 538), (.int 473 0), (.int 0 0), (.ref 545), (.int 481 0), (.int 0 0), (.ref 552), (.int 487 0), (.int 0 0), (.ref 557)]
noncomputable def a526 (_ : Params) : Obj := oTu #[]
noncomputable def a527 (_ : Params) : Obj := oNo #[]
noncomputable def a528 (_ : Params) : Obj := oTu #[(vS "cup" 955), (vS "bound" 956), (vS "turn" 957)]
noncomputable def a529 (_ : Params) : Obj := oTu #[]
noncomputable def fd530 : FuncData := fo (sT 67) (sx "_law_sip") (sx "_law_sip") 0 .none .none .none
noncomputable def a530 (_ : Params) : Obj := oNf fd530
noncomputable def a531 (_ : Params) : Obj := oCo #[(vS "_law_sip" 952), (vS "_law_sip" 953), (vS "/claim/cut.py" 954), (.int 467 0), (.int 2 0), (.int 0 0), (.int 0 0), (.int 3 0), (.ref 526), (.bool true), (.int 181 0), (.ref 527), .none, (.ref 528), (.ref 529), (.ref 530), (.int 958 0), (.int 467 0), (vS "/claim/cut.py" 959)]
noncomputable def fd532 : FuncData := fo (sT 67) (sx "_law_sip") (sx "_law_sip") 3 .none (vS "law_sm0068_01" 950) (.ref 531)
noncomputable def a532 (_ : Params) : Obj := oFn fd532
noncomputable def a533 (_ : Params) : Obj := oTu #[]
noncomputable def a534 (_ : Params) : Obj := oNo #[]
noncomputable def a535 (_ : Params) : Obj := oTu #[(vS "token" 964)]
noncomputable def a536 (_ : Params) : Obj := oTu #[]
noncomputable def fd537 : FuncData := fo (sT 68) (sx "_law_told") (sx "_law_told") 0 .none .none .none
noncomputable def a537 (_ : Params) : Obj := oNf fd537
noncomputable def a538 (_ : Params) : Obj := oCo #[(vS "_law_told" 961), (vS "_law_told" 962), (vS "/claim/cut.py" 963), (.int 471 0), (.int 1 0), (.int 0 0), (.int 0 0), (.int 3 0), (.ref 533), (.bool true), (.int 181 0), (.ref 534), .none, (.ref 535), (.ref 536), (.ref 537), (.int 965 0), (.int 471 0), (vS "/claim/cut.py" 966)]
noncomputable def fd539 : FuncData := fo (sT 68) (sx "_law_told") (sx "_law_told") 3 .none (vS "law_sm0068_01" 950) (.ref 538)
noncomputable def a539 (_ : Params) : Obj := oFn fd539
noncomputable def a540 (_ : Params) : Obj := oTu #[]
noncomputable def a541 (_ : Params) : Obj := oNo #[]
noncomputable def a542 (_ : Params) : Obj := oTu #[(vS "text" 971), (vS "lexer" 972), (vS "found" 973), (vS "places" 974), (vS "token" 975)]
noncomputable def a543 (_ : Params) : Obj := oTu #[]
noncomputable def fd544 : FuncData := fo (sT 69) (sx "_law_tokens") (sx "_law_tokens") 0 .none .none .none
noncomputable def a544 (_ : Params) : Obj := oNf fd544
noncomputable def a545 (_ : Params) : Obj := oCo #[(vS "_law_tokens" 968), (vS "_law_tokens" 969), (vS "/claim/cut.py" 970), (.int 473 0), (.int 1 0), (.int 0 0), (.int 0 0), (.int 3 0), (.ref 540), (.bool true), (.int 181 0), (.ref 541), .none, (.ref 542), (.ref 543), (.ref 544), (.int 976 0), (.int 473 0), (vS "/claim/cut.py" 977)]
noncomputable def fd546 : FuncData := fo (sT 69) (sx "_law_tokens") (sx "_law_tokens") 3 .none (vS "law_sm0068_01" 950) (.ref 545)
noncomputable def a546 (_ : Params) : Obj := oFn fd546
noncomputable def a547 (_ : Params) : Obj := oTu #[]
noncomputable def a548 (_ : Params) : Obj := oNo #[]
noncomputable def a549 (_ : Params) : Obj := oTu #[(vS "reader" 982)]
noncomputable def a550 (_ : Params) : Obj := oTu #[]
noncomputable def fd551 : FuncData := fo (sT 70) (sx "_law_refused") (sx "_law_refused") 0 .none .none .none
noncomputable def a551 (_ : Params) : Obj := oNf fd551
noncomputable def a552 (_ : Params) : Obj := oCo #[(vS "_law_refused" 979), (vS "_law_refused" 980), (vS "/claim/cut.py" 981), (.int 481 0), (.int 1 0), (.int 0 0), (.int 0 0), (.int 3 0), (.ref 547), (.bool true), (.int 181 0), (.ref 548), .none, (.ref 549), (.ref 550), (.ref 551), (.int 983 0), (.int 481 0), (vS "/claim/cut.py" 984)]
noncomputable def fd553 : FuncData := fo (sT 70) (sx "_law_refused") (sx "_law_refused") 3 .none (vS "law_sm0068_01" 950) (.ref 552)
noncomputable def a553 (_ : Params) : Obj := oFn fd553
noncomputable def a554 (_ : Params) : Obj := oTu #[]
noncomputable def a555 (_ : Params) : Obj := oNo #[]
noncomputable def fd556 : FuncData := fo (sT 71) (sx "law") (sx "law") 0 .none .none .none
noncomputable def a556 (_ : Params) : Obj := oNf fd556
noncomputable def a557 (_ : Params) : Obj := oCo #[(vS "law" 986), (vS "law" 987), (vS "/claim/cut.py" 988), (.int 487 0), (.int 1 0), (.int 0 0), (.int 0 0), (.int 3 0), (.ref 554), (.bool true), (.int 181 0), (.ref 555), .none, .none, .none, (.ref 556), (.int 989 0), (.int 487 0), (vS "/claim/cut.py" 990)]
noncomputable def fd558 : FuncData := fo (sT 71) (sx "law") (sx "law") 3 .none (vS "law_sm0068_01" 950) (.ref 557)
noncomputable def a558 (_ : Params) : Obj := oFn fd558
noncomputable def tr12 (P : Params) : BT := (nd (boot_o_0 P) (nd (boot_o_1 P) (nd (a3_11 P) (nd (boot_o_7 P) (nd (a15 P) (nd (a31 P) (nd (a63 P) (nd (a127 P) (nd (a255 P) (nd (a511 P) nl nl) nl) (nd (a383 P) nl nl)) (nd (a191 P) (nd (a319 P) nl nl) (nd (a447 P) nl nl))) (nd (a95 P) (nd (a159 P) (nd (a287 P) (nd (a543 P) nl nl) nl) (nd (a415 P) nl nl)) (nd (a223 P) (nd (a351 P) nl nl) (nd (a479 P) nl nl)))) (nd (a47 P) (nd (a79 P) (nd (a143 P) (nd (a271 P) (nd (a527 P) nl nl) nl) (nd (a399 P) nl nl)) (nd (a207 P) (nd (a335 P) nl nl) (nd (a463 P) nl nl))) (nd (a111 P) (nd (a175 P) (nd (a303 P) nl nl) (nd (a431 P) nl nl)) (nd (a239 P) (nd (a367 P) nl nl) (nd (a495 P) nl nl))))) (nd (a23 P) (nd (a39 P) (nd (a71 P) (nd (a135 P) (nd (a263 P) (nd (a519 P) nl nl) nl) (nd (a391 P) nl nl)) (nd (a199 P) (nd (a327 P) nl nl) (nd (a455 P) nl nl))) (nd (a103 P) (nd (a167 P) (nd (a295 P) (nd (a551 P) nl nl) nl) (nd (a423 P) nl nl)) (nd (a231 P) (nd (a359 P) nl nl) (nd (a487 P) nl nl)))) (nd (a55 P) (nd (a87 P) (nd (a151 P) (nd (a279 P) (nd (a535 P) nl nl) nl) (nd (a407 P) nl nl)) (nd (a215 P) (nd (a343 P) nl nl) (nd (a471 P) nl nl))) (nd (a119 P) (nd (a183 P) (nd (a311 P) nl nl) (nd (a439 P) nl nl)) (nd (a247 P) (nd (a375 P) nl nl) (nd (a503 P) nl nl)))))) (nd (a11 P) (nd (a19 P) (nd (a35 P) (nd (a67 P) (nd (a131 P) (nd (a259 P) (nd (a515 P) nl nl) nl) (nd (a387 P) nl nl)) (nd (a195 P) (nd (a323 P) nl nl) (nd (a451 P) nl nl))) (nd (a99 P) (nd (a163 P) (nd (a291 P) (nd (a547 P) nl nl) nl) (nd (a419 P) nl nl)) (nd (a227 P) (nd (a355 P) nl nl) (nd (a483 P) nl nl)))) (nd (a51 P) (nd (a83 P) (nd (a147 P) (nd (a275 P) (nd (a531 P) nl nl) nl) (nd (a403 P) nl nl)) (nd (a211 P) (nd (a339 P) nl nl) (nd (a467 P) nl nl))) (nd (a115 P) (nd (a179 P) (nd (a307 P) nl nl) (nd (a435 P) nl nl)) (nd (a243 P) (nd (a371 P) nl nl) (nd (a499 P) nl nl))))) (nd (a27 P) (nd (a43 P) (nd (a75 P) (nd (a139 P) (nd (a267 P) (nd (a523 P) nl nl) nl) (nd (a395 P) nl nl)) (nd (a203 P) (nd (a331 P) nl nl) (nd (a459 P) nl nl))) (nd (a107 P) (nd (a171 P) (nd (a299 P) (nd (a555 P) nl nl) nl) (nd (a427 P) nl nl)) (nd (a235 P) (nd (a363 P) nl nl) (nd (a491 P) nl nl)))) (nd (a59 P) (nd (a91 P) (nd (a155 P) (nd (a283 P) (nd (a539 P) nl nl) nl) (nd (a411 P) nl nl)) (nd (a219 P) (nd (a347 P) nl nl) (nd (a475 P) nl nl))) (nd (a123 P) (nd (a187 P) (nd (a315 P) nl nl) (nd (a443 P) nl nl)) (nd (a251 P) (nd (a379 P) nl nl) (nd (a507 P) nl nl))))))) (nd (boot_o_5 P) (nd (boot_o_9 P) (nd (a17 P) (nd (a33 P) (nd (a65 P) (nd (a129 P) (nd (a257 P) (nd (a513 P) nl nl) nl) (nd (a385 P) nl nl)) (nd (a193 P) (nd (a321 P) nl nl) (nd (a449 P) nl nl))) (nd (a97 P) (nd (a161 P) (nd (a289 P) (nd (a545 P) nl nl) nl) (nd (a417 P) nl nl)) (nd (a225 P) (nd (a353 P) nl nl) (nd (a481 P) nl nl)))) (nd (a49 P) (nd (a81 P) (nd (a145 P) (nd (a273 P) (nd (a529 P) nl nl) nl) (nd (a401 P) nl nl)) (nd (a209 P) (nd (a337 P) nl nl) (nd (a465 P) nl nl))) (nd (a113 P) (nd (a177 P) (nd (a305 P) nl nl) (nd (a433 P) nl nl)) (nd (a241 P) (nd (a369 P) nl nl) (nd (a497 P) nl nl))))) (nd (a25 P) (nd (a41 P) (nd (a73 P) (nd (a137 P) (nd (a265 P) (nd (a521 P) nl nl) nl) (nd (a393 P) nl nl)) (nd (a201 P) (nd (a329 P) nl nl) (nd (a457 P) nl nl))) (nd (a105 P) (nd (a169 P) (nd (a297 P) (nd (a553 P) nl nl) nl) (nd (a425 P) nl nl)) (nd (a233 P) (nd (a361 P) nl nl) (nd (a489 P) nl nl)))) (nd (a57 P) (nd (a89 P) (nd (a153 P) (nd (a281 P) (nd (a537 P) nl nl) nl) (nd (a409 P) nl nl)) (nd (a217 P) (nd (a345 P) nl nl) (nd (a473 P) nl nl))) (nd (a121 P) (nd (a185 P) (nd (a313 P) nl nl) (nd (a441 P) nl nl)) (nd (a249 P) (nd (a377 P) nl nl) (nd (a505 P) nl nl)))))) (nd (a13 P) (nd (a21 P) (nd (a37 P) (nd (a69 P) (nd (a133 P) (nd (a261 P) (nd (a517 P) nl nl) nl) (nd (a389 P) nl nl)) (nd (a197 P) (nd (a325 P) nl nl) (nd (a453 P) nl nl))) (nd (a101 P) (nd (a165 P) (nd (a293 P) (nd (a549 P) nl nl) nl) (nd (a421 P) nl nl)) (nd (a229 P) (nd (a357 P) nl nl) (nd (a485 P) nl nl)))) (nd (a53 P) (nd (a85 P) (nd (a149 P) (nd (a277 P) (nd (a533 P) nl nl) nl) (nd (a405 P) nl nl)) (nd (a213 P) (nd (a341 P) nl nl) (nd (a469 P) nl nl))) (nd (a117 P) (nd (a181 P) (nd (a309 P) nl nl) (nd (a437 P) nl nl)) (nd (a245 P) (nd (a373 P) nl nl) (nd (a501 P) nl nl))))) (nd (a29 P) (nd (a45 P) (nd (a77 P) (nd (a141 P) (nd (a269 P) (nd (a525 P) nl nl) nl) (nd (a397 P) nl nl)) (nd (a205 P) (nd (a333 P) nl nl) (nd (a461 P) nl nl))) (nd (a109 P) (nd (a173 P) (nd (a301 P) (nd (a557 P) nl nl) nl) (nd (a429 P) nl nl)) (nd (a237 P) (nd (a365 P) nl nl) (nd (a493 P) nl nl)))) (nd (a61 P) (nd (a93 P) (nd (a157 P) (nd (a285 P) (nd (a541 P) nl nl) nl) (nd (a413 P) nl nl)) (nd (a221 P) (nd (a349 P) nl nl) (nd (a477 P) nl nl))) (nd (a125 P) (nd (a189 P) (nd (a317 P) nl nl) (nd (a445 P) nl nl)) (nd (a253 P) (nd (a381 P) nl nl) (nd (a509 P) nl nl)))))))) (nd (a2 P) (nd (boot_o_4 P) (nd (boot_o_8 P) (nd (a16 P) (nd (a32 P) (nd (a64 P) (nd (a128 P) (nd (a256 P) (nd (a512 P) nl nl) nl) (nd (a384 P) nl nl)) (nd (a192 P) (nd (a320 P) nl nl) (nd (a448 P) nl nl))) (nd (a96 P) (nd (a160 P) (nd (a288 P) (nd (a544 P) nl nl) nl) (nd (a416 P) nl nl)) (nd (a224 P) (nd (a352 P) nl nl) (nd (a480 P) nl nl)))) (nd (a48 P) (nd (a80 P) (nd (a144 P) (nd (a272 P) (nd (a528 P) nl nl) nl) (nd (a400 P) nl nl)) (nd (a208 P) (nd (a336 P) nl nl) (nd (a464 P) nl nl))) (nd (a112 P) (nd (a176 P) (nd (a304 P) nl nl) (nd (a432 P) nl nl)) (nd (a240 P) (nd (a368 P) nl nl) (nd (a496 P) nl nl))))) (nd (a24 P) (nd (a40 P) (nd (a72 P) (nd (a136 P) (nd (a264 P) (nd (a520 P) nl nl) nl) (nd (a392 P) nl nl)) (nd (a200 P) (nd (a328 P) nl nl) (nd (a456 P) nl nl))) (nd (a104 P) (nd (a168 P) (nd (a296 P) (nd (a552 P) nl nl) nl) (nd (a424 P) nl nl)) (nd (a232 P) (nd (a360 P) nl nl) (nd (a488 P) nl nl)))) (nd (a56 P) (nd (a88 P) (nd (a152 P) (nd (a280 P) (nd (a536 P) nl nl) nl) (nd (a408 P) nl nl)) (nd (a216 P) (nd (a344 P) nl nl) (nd (a472 P) nl nl))) (nd (a120 P) (nd (a184 P) (nd (a312 P) nl nl) (nd (a440 P) nl nl)) (nd (a248 P) (nd (a376 P) nl nl) (nd (a504 P) nl nl)))))) (nd (a12_10 P) (nd (a20 P) (nd (a36 P) (nd (a68 P) (nd (a132 P) (nd (a260 P) (nd (a516 P) nl nl) nl) (nd (a388 P) nl nl)) (nd (a196 P) (nd (a324 P) nl nl) (nd (a452 P) nl nl))) (nd (a100 P) (nd (a164 P) (nd (a292 P) (nd (a548 P) nl nl) nl) (nd (a420 P) nl nl)) (nd (a228 P) (nd (a356 P) nl nl) (nd (a484 P) nl nl)))) (nd (a52 P) (nd (a84 P) (nd (a148 P) (nd (a276 P) (nd (a532 P) nl nl) nl) (nd (a404 P) nl nl)) (nd (a212 P) (nd (a340 P) nl nl) (nd (a468 P) nl nl))) (nd (a116 P) (nd (a180 P) (nd (a308 P) nl nl) (nd (a436 P) nl nl)) (nd (a244 P) (nd (a372 P) nl nl) (nd (a500 P) nl nl))))) (nd (a28 P) (nd (a44 P) (nd (a76 P) (nd (a140 P) (nd (a268 P) (nd (a524 P) nl nl) nl) (nd (a396 P) nl nl)) (nd (a204 P) (nd (a332 P) nl nl) (nd (a460 P) nl nl))) (nd (a108 P) (nd (a172 P) (nd (a300 P) (nd (a556 P) nl nl) nl) (nd (a428 P) nl nl)) (nd (a236 P) (nd (a364 P) nl nl) (nd (a492 P) nl nl)))) (nd (a60 P) (nd (a92 P) (nd (a156 P) (nd (a284 P) (nd (a540 P) nl nl) nl) (nd (a412 P) nl nl)) (nd (a220 P) (nd (a348 P) nl nl) (nd (a476 P) nl nl))) (nd (a124 P) (nd (a188 P) (nd (a316 P) nl nl) (nd (a444 P) nl nl)) (nd (a252 P) (nd (a380 P) nl nl) (nd (a508 P) nl nl))))))) (nd (boot_o_6 P) (nd (boot_o_10 P) (nd (a18 P) (nd (a34 P) (nd (a66 P) (nd (a130 P) (nd (a258 P) (nd (a514 P) nl nl) nl) (nd (a386 P) nl nl)) (nd (a194 P) (nd (a322 P) nl nl) (nd (a450 P) nl nl))) (nd (a98 P) (nd (a162 P) (nd (a290 P) (nd (a546 P) nl nl) nl) (nd (a418 P) nl nl)) (nd (a226 P) (nd (a354 P) nl nl) (nd (a482 P) nl nl)))) (nd (a50 P) (nd (a82 P) (nd (a146 P) (nd (a274 P) (nd (a530 P) nl nl) nl) (nd (a402 P) nl nl)) (nd (a210 P) (nd (a338 P) nl nl) (nd (a466 P) nl nl))) (nd (a114 P) (nd (a178 P) (nd (a306 P) nl nl) (nd (a434 P) nl nl)) (nd (a242 P) (nd (a370 P) nl nl) (nd (a498 P) nl nl))))) (nd (a26 P) (nd (a42 P) (nd (a74_1 P) (nd (a138 P) (nd (a266 P) (nd (a522 P) nl nl) nl) (nd (a394 P) nl nl)) (nd (a202 P) (nd (a330 P) nl nl) (nd (a458 P) nl nl))) (nd (a106 P) (nd (a170 P) (nd (a298 P) (nd (a554 P) nl nl) nl) (nd (a426 P) nl nl)) (nd (a234 P) (nd (a362 P) nl nl) (nd (a490 P) nl nl)))) (nd (a58 P) (nd (a90 P) (nd (a154 P) (nd (a282 P) (nd (a538 P) nl nl) nl) (nd (a410 P) nl nl)) (nd (a218 P) (nd (a346 P) nl nl) (nd (a474 P) nl nl))) (nd (a122 P) (nd (a186 P) (nd (a314 P) nl nl) (nd (a442 P) nl nl)) (nd (a250 P) (nd (a378 P) nl nl) (nd (a506 P) nl nl)))))) (nd (a14 P) (nd (a22 P) (nd (a38 P) (nd (a70 P) (nd (a134 P) (nd (a262 P) (nd (a518 P) nl nl) nl) (nd (a390 P) nl nl)) (nd (a198 P) (nd (a326 P) nl nl) (nd (a454 P) nl nl))) (nd (a102 P) (nd (a166 P) (nd (a294 P) (nd (a550 P) nl nl) nl) (nd (a422 P) nl nl)) (nd (a230 P) (nd (a358 P) nl nl) (nd (a486 P) nl nl)))) (nd (a54 P) (nd (a86 P) (nd (a150 P) (nd (a278 P) (nd (a534 P) nl nl) nl) (nd (a406 P) nl nl)) (nd (a214 P) (nd (a342 P) nl nl) (nd (a470 P) nl nl))) (nd (a118 P) (nd (a182 P) (nd (a310 P) nl nl) (nd (a438 P) nl nl)) (nd (a246 P) (nd (a374 P) nl nl) (nd (a502 P) nl nl))))) (nd (a30 P) (nd (a46 P) (nd (a78 P) (nd (a142 P) (nd (a270 P) (nd (a526 P) nl nl) nl) (nd (a398 P) nl nl)) (nd (a206 P) (nd (a334 P) nl nl) (nd (a462 P) nl nl))) (nd (a110 P) (nd (a174 P) (nd (a302 P) (nd (a558 P) nl nl) nl) (nd (a430 P) nl nl)) (nd (a238 P) (nd (a366 P) nl nl) (nd (a494 P) nl nl)))) (nd (a62 P) (nd (a94 P) (nd (a158 P) (nd (a286 P) (nd (a542 P) nl nl) nl) (nd (a414 P) nl nl)) (nd (a222 P) (nd (a350 P) nl nl) (nd (a478 P) nl nl))) (nd (a126 P) (nd (a190 P) (nd (a318 P) nl nl) (nd (a446 P) nl nl)) (nd (a254 P) (nd (a382 P) nl nl) (nd (a510 P) nl nl)))))))))
noncomputable def hpF (P : Params) : Heap := ⟨⟨[boot_o_0 P, boot_o_1 P, a2 P, a3_11 P, boot_o_4 P, boot_o_5 P, boot_o_6 P, boot_o_7 P, boot_o_8 P, boot_o_9 P, boot_o_10 P, a11 P, a12_10 P, a13 P, a14 P, a15 P, a16 P, a17 P, a18 P, a19 P, a20 P, a21 P, a22 P, a23 P, a24 P, a25 P, a26 P, a27 P, a28 P, a29 P, a30 P, a31 P, a32 P, a33 P, a34 P, a35 P, a36 P, a37 P, a38 P, a39 P, a40 P, a41 P, a42 P, a43 P, a44 P, a45 P, a46 P, a47 P, a48 P, a49 P, a50 P, a51 P, a52 P, a53 P, a54 P, a55 P, a56 P, a57 P, a58 P, a59 P, a60 P, a61 P, a62 P, a63 P, a64 P, a65 P, a66 P, a67 P, a68 P, a69 P, a70 P, a71 P, a72 P, a73 P, a74_1 P, a75 P, a76 P, a77 P, a78 P, a79 P, a80 P, a81 P, a82 P, a83 P, a84 P, a85 P, a86 P, a87 P, a88 P, a89 P, a90 P, a91 P, a92 P, a93 P, a94 P, a95 P, a96 P, a97 P, a98 P, a99 P, a100 P, a101 P, a102 P, a103 P, a104 P, a105 P, a106 P, a107 P, a108 P, a109 P, a110 P, a111 P, a112 P, a113 P, a114 P, a115 P, a116 P, a117 P, a118 P, a119 P, a120 P, a121 P, a122 P, a123 P, a124 P, a125 P, a126 P, a127 P, a128 P, a129 P, a130 P, a131 P, a132 P, a133 P, a134 P, a135 P, a136 P, a137 P, a138 P, a139 P, a140 P, a141 P, a142 P, a143 P, a144 P, a145 P, a146 P, a147 P, a148 P, a149 P, a150 P, a151 P, a152 P, a153 P, a154 P, a155 P, a156 P, a157 P, a158 P, a159 P, a160 P, a161 P, a162 P, a163 P, a164 P, a165 P, a166 P, a167 P, a168 P, a169 P, a170 P, a171 P, a172 P, a173 P, a174 P, a175 P, a176 P, a177 P, a178 P, a179 P, a180 P, a181 P, a182 P, a183 P, a184 P, a185 P, a186 P, a187 P, a188 P, a189 P, a190 P, a191 P, a192 P, a193 P, a194 P, a195 P, a196 P, a197 P, a198 P, a199 P, a200 P, a201 P, a202 P, a203 P, a204 P, a205 P, a206 P, a207 P, a208 P, a209 P, a210 P, a211 P, a212 P, a213 P, a214 P, a215 P, a216 P, a217 P, a218 P, a219 P, a220 P, a221 P, a222 P, a223 P, a224 P, a225 P, a226 P, a227 P, a228 P, a229 P, a230 P, a231 P, a232 P, a233 P, a234 P, a235 P, a236 P, a237 P, a238 P, a239 P, a240 P, a241 P, a242 P, a243 P, a244 P, a245 P, a246 P, a247 P, a248 P, a249 P, a250 P, a251 P, a252 P, a253 P, a254 P, a255 P, a256 P, a257 P, a258 P, a259 P, a260 P, a261 P, a262 P, a263 P, a264 P, a265 P, a266 P, a267 P, a268 P, a269 P, a270 P, a271 P, a272 P, a273 P, a274 P, a275 P, a276 P, a277 P, a278 P, a279 P, a280 P, a281 P, a282 P, a283 P, a284 P, a285 P, a286 P, a287 P, a288 P, a289 P, a290 P, a291 P, a292 P, a293 P, a294 P, a295 P, a296 P, a297 P, a298 P, a299 P, a300 P, a301 P, a302 P, a303 P, a304 P, a305 P, a306 P, a307 P, a308 P, a309 P, a310 P, a311 P, a312 P, a313 P, a314 P, a315 P, a316 P, a317 P, a318 P, a319 P, a320 P, a321 P, a322 P, a323 P, a324 P, a325 P, a326 P, a327 P, a328 P, a329 P, a330 P, a331 P, a332 P, a333 P, a334 P, a335 P, a336 P, a337 P, a338 P, a339 P, a340 P, a341 P, a342 P, a343 P, a344 P, a345 P, a346 P, a347 P, a348 P, a349 P, a350 P, a351 P, a352 P, a353 P, a354 P, a355 P, a356 P, a357 P, a358 P, a359 P, a360 P, a361 P, a362 P, a363 P, a364 P, a365 P, a366 P, a367 P, a368 P, a369 P, a370 P, a371 P, a372 P, a373 P, a374 P, a375 P, a376 P, a377 P, a378 P, a379 P, a380 P, a381 P, a382 P, a383 P, a384 P, a385 P, a386 P, a387 P, a388 P, a389 P, a390 P, a391 P, a392 P, a393 P, a394 P, a395 P, a396 P, a397 P, a398 P, a399 P, a400 P, a401 P, a402 P, a403 P, a404 P, a405 P, a406 P, a407 P, a408 P, a409 P, a410 P, a411 P, a412 P, a413 P, a414 P, a415 P, a416 P, a417 P, a418 P, a419 P, a420 P, a421 P, a422 P, a423 P, a424 P, a425 P, a426 P, a427 P, a428 P, a429 P, a430 P, a431 P, a432 P, a433 P, a434 P, a435 P, a436 P, a437 P, a438 P, a439 P, a440 P, a441 P, a442 P, a443 P, a444 P, a445 P, a446 P, a447 P, a448 P, a449 P, a450 P, a451 P, a452 P, a453 P, a454 P, a455 P, a456 P, a457 P, a458 P, a459 P, a460 P, a461 P, a462 P, a463 P, a464 P, a465 P, a466 P, a467 P, a468 P, a469 P, a470 P, a471 P, a472 P, a473 P, a474 P, a475 P, a476 P, a477 P, a478 P, a479 P, a480 P, a481 P, a482 P, a483 P, a484 P, a485 P, a486 P, a487 P, a488 P, a489 P, a490 P, a491 P, a492 P, a493 P, a494 P, a495 P, a496 P, a497 P, a498 P, a499 P, a500 P, a501 P, a502 P, a503 P, a504 P, a505 P, a506 P, a507 P, a508 P, a509 P, a510 P, a511 P, a512 P, a513 P, a514 P, a515 P, a516 P, a517 P, a518 P, a519 P, a520 P, a521 P, a522 P, a523 P, a524 P, a525 P, a526 P, a527 P, a528 P, a529 P, a530 P, a531 P, a532 P, a533 P, a534 P, a535 P, a536 P, a537 P, a538 P, a539 P, a540 P, a541 P, a542 P, a543 P, a544 P, a545 P, a546 P, a547 P, a548 P, a549 P, a550 P, a551 P, a552 P, a553 P, a554 P, a555 P, a556 P, a557 P, a558 P]⟩, {}⟩
noncomputable def env0 : Env := { scope := pw.main.scope, locals := mainNs, globals := mainNs, cells := [], code := .ref 13, frame := some 14 }
noncomputable abbrev cE : Code := .body (behindTheImports pw) env0
noncomputable abbrev an0 : Option Value := some (.ref 6)
noncomputable abbrev topB : List Frame := [topFrame ⟨0, 0, 0, 0⟩]
noncomputable abbrev seg' := @PySem.W.Fast.tw10110043849684766642
noncomputable abbrev tab' := @PySem.W.Fast.tw14364793385576792824
noncomputable abbrev execs' := @PySem.W.Fast.tw12563942051412417395
theorem seg_tw {p : Program} {w : World} {m0 : Nat} {ann : Option Value} {N : Nat} {S : SharedT} {l : List Stmt} {env : Env} {c : Code} {pos : Pos} {B : List Frame} {r : Option (Flow × SharedT × Code × Pos)}
    (h : seg' tab' p w m0 ann 1 N S ⟨(execs' l env).wrap doneF deadEnd id id, c, pos, B⟩ = r) : segRunT treeTable p w m0 ann 1 N S (piecesOf l env c pos B) = r := by
  rw [PySem.W.Fast.te10110043849684766642, PySem.W.Fast.te14364793385576792824]
  unfold piecesOf
  rw [PySem.W.Fast.te12563942051412417395]
  exact h
noncomputable abbrev ss0 (w : World) (os : OsState) : SharedT := ⟨tr0 w.params, 15, {}, Array.mk [], {}, 187, os⟩
noncomputable abbrev ss1 (w : World) (os : OsState) : SharedT := ⟨tr1 w.params, 22, {}, Array.mk [], {}, 198, os⟩
noncomputable abbrev ss2 (w : World) (os : OsState) : SharedT := ⟨tr2 w.params, 58, {}, Array.mk [], {}, 269, os⟩
noncomputable abbrev ss3 (w : World) (os : OsState) : SharedT := ⟨tr3 w.params, 78, {}, Array.mk [], {}, 300, os⟩
noncomputable abbrev ss4 (w : World) (os : OsState) : SharedT := ⟨tr4 w.params, 90, {}, Array.mk [], {}, 316, os⟩
noncomputable abbrev ss5 (w : World) (os : OsState) : SharedT := ⟨tr5 w.params, 181, {}, Array.mk [], {}, 440, os⟩
noncomputable abbrev ss6 (w : World) (os : OsState) : SharedT := ⟨tr6 w.params, 183, {}, Array.mk [], {}, 493, os⟩
noncomputable abbrev ss7 (w : World) (os : OsState) : SharedT := ⟨tr7 w.params, 183, {}, Array.mk [], {}, 527, os⟩
noncomputable abbrev ss8 (w : World) (os : OsState) : SharedT := ⟨tr8 w.params, 246, {}, Array.mk [], {}, 595, os⟩
noncomputable abbrev ss9 (w : World) (os : OsState) : SharedT := ⟨tr9 w.params, 267, {}, Array.mk [], {}, 626, os⟩
noncomputable abbrev ss10 (w : World) (os : OsState) : SharedT := ⟨tr10 w.params, 470, {}, Array.mk [], {}, 875, os⟩
noncomputable abbrev ss11 (w : World) (os : OsState) : SharedT := ⟨tr11 w.params, 526, {}, Array.mk [], {}, 950, os⟩
noncomputable abbrev ss12 (w : World) (os : OsState) : SharedT := ⟨tr12 w.params, 559, {}, Array.mk [], {}, 992, os⟩
noncomputable abbrev ls0 : List Stmt := (pw.main.body.drop 0).take 3
noncomputable abbrev ls1 : List Stmt := (pw.main.body.drop 3).take 1
noncomputable abbrev ls2 : List Stmt := (pw.main.body.drop 4).take 1
noncomputable abbrev ls3 : List Stmt := (pw.main.body.drop 5).take 1
noncomputable abbrev ls4 : List Stmt := (pw.main.body.drop 6).take 17
noncomputable abbrev ls5 : List Stmt := (pw.main.body.drop 23).take 12
noncomputable abbrev ls6 : List Stmt := (pw.main.body.drop 35).take 17
noncomputable abbrev ls7 : List Stmt := (pw.main.body.drop 52).take 10
noncomputable abbrev ls8 : List Stmt := (pw.main.body.drop 62).take 1
noncomputable abbrev ls9 : List Stmt := (pw.main.body.drop 63).take 1
noncomputable abbrev ls10 : List Stmt := (pw.main.body.drop 64).take 2
noncomputable abbrev ls11 : List Stmt := (pw.main.body.drop 66).take 6
theorem sg0 (w : World) : (fun os => seg' tab' pw w 11 an0 1 48 (ss0 w os) ⟨(execs' ls0 env0).wrap doneF deadEnd id id, cE, ⟨0, 0, 0, 0⟩, topB⟩) = fun os => some (.next, ss1 w os, cE, ⟨5, 0, 5, 6⟩) := by kernel_rfl
theorem sg1 (w : World) : (fun os => seg' tab' pw w 11 an0 1 314 (ss1 w os) ⟨(execs' ls1 env0).wrap doneF deadEnd id id, cE, ⟨5, 0, 5, 6⟩, topB⟩) = fun os => some (.next, ss2 w os, cE, ⟨6, 0, 24, 16⟩) := by kernel_rfl
theorem sg2 (w : World) : (fun os => seg' tab' pw w 11 an0 1 231 (ss2 w os) ⟨(execs' ls2 env0).wrap doneF deadEnd id id, cE, ⟨6, 0, 24, 16⟩, topB⟩) = fun os => some (.next, ss3 w os, cE, ⟨25, 0, 30, 34⟩) := by kernel_rfl
theorem sg3 (w : World) : (fun os => seg' tab' pw w 11 an0 1 214 (ss3 w os) ⟨(execs' ls3 env0).wrap doneF deadEnd id id, cE, ⟨25, 0, 30, 34⟩, topB⟩) = fun os => some (.next, ss4 w os, cE, ⟨31, 0, 32, 8⟩) := by kernel_rfl
theorem sg4 (w : World) : (fun os => seg' tab' pw w 11 an0 1 445 (ss4 w os) ⟨(execs' ls4 env0).wrap doneF deadEnd id id, cE, ⟨31, 0, 32, 8⟩, topB⟩) = fun os => some (.next, ss5 w os, cE, ⟨119, 0, 119, 14⟩) := by kernel_rfl
theorem sg5 (w : World) : (fun os => seg' tab' pw w 11 an0 1 142 (ss5 w os) ⟨(execs' ls5 env0).wrap doneF deadEnd id id, cE, ⟨119, 0, 119, 14⟩, topB⟩) = fun os => some (.next, ss6 w os, cE, ⟨131, 0, 131, 11⟩) := by kernel_rfl
theorem sg6 (w : World) : (fun os => seg' tab' pw w 11 an0 1 154 (ss6 w os) ⟨(execs' ls6 env0).wrap doneF deadEnd id id, cE, ⟨131, 0, 131, 11⟩, topB⟩) = fun os => some (.next, ss7 w os, cE, ⟨148, 0, 148, 5⟩) := by kernel_rfl
theorem sg7 (w : World) : (fun os => seg' tab' pw w 11 an0 1 276 (ss7 w os) ⟨(execs' ls7 env0).wrap doneF deadEnd id id, cE, ⟨148, 0, 148, 5⟩, topB⟩) = fun os => some (.next, ss8 w os, cE, ⟨170, 0, 176, 82⟩) := by kernel_rfl
theorem sg8 (w : World) : (fun os => seg' tab' pw w 11 an0 1 225 (ss8 w os) ⟨(execs' ls8 env0).wrap doneF deadEnd id id, cE, ⟨170, 0, 176, 82⟩, topB⟩) = fun os => some (.next, ss9 w os, cE, ⟨177, 0, 181, 26⟩) := by kernel_rfl
theorem sg9 (w : World) : (fun os => seg' tab' pw w 11 an0 1 1067 (ss9 w os) ⟨(execs' ls9 env0).wrap doneF deadEnd id id, cE, ⟨177, 0, 181, 26⟩, topB⟩) = fun os => some (.next, ss10 w os, cE, ⟨182, 0, 434, 24⟩) := by kernel_rfl
theorem sg10 (w : World) : (fun os => seg' tab' pw w 11 an0 1 396 (ss10 w os) ⟨(execs' ls10 env0).wrap doneF deadEnd id id, cE, ⟨182, 0, 434, 24⟩, topB⟩) = fun os => some (.next, ss11 w os, cE, ⟨436, 0, 465, 43⟩) := by kernel_rfl
theorem sg11 (w : World) : (fun os => seg' tab' pw w 11 an0 1 158 (ss11 w os) ⟨(execs' ls11 env0).wrap doneF deadEnd id id, cE, ⟨436, 0, 465, 43⟩, topB⟩) = fun os => some (.next, ss12 w os, cE, ⟨487, 0, 515, 32⟩) := by kernel_rfl
noncomputable def KK (P : Params) : Frag := [(2, a2 P), (3, a3_11 P), (15, a15 P), (17, a17 P), (18, a18 P), (20, a20 P), (21, a21 P), (29, a29 P), (30, a30 P), (32, a32 P), (33, a33 P), (35, a35 P), (36, a36 P), (37, a37 P), (39, a39 P), (40, a40 P), (42, a42 P), (43, a43 P), (44, a44 P), (46, a46 P), (47, a47 P), (49, a49 P), (50, a50 P), (51, a51 P), (52, a52 P), (53, a53 P), (54, a54 P), (55, a55 P), (58, a58 P), (65, a65 P), (67, a67 P), (68, a68 P), (70, a70 P), (71, a71 P), (72, a72 P), (73, a73 P), (74, a74_1 P), (75, a75 P), (78, a78 P), (85, a85 P), (86, a86 P), (87, a87 P), (90, a90 P), (92, a92 P), (93, a93 P), (95, a95 P), (96, a96 P), (97, a97 P), (99, a99 P), (100, a100 P), (102, a102 P), (103, a103 P), (104, a104 P), (106, a106 P), (107, a107 P), (109, a109 P), (110, a110 P), (111, a111 P), (113, a113 P), (114, a114 P), (116, a116 P), (117, a117 P), (118, a118 P), (120, a120 P), (121, a121 P), (123, a123 P), (124, a124 P), (125, a125 P), (127, a127 P), (128, a128 P), (130, a130 P), (131, a131 P), (132, a132 P), (134, a134 P), (135, a135 P), (137, a137 P), (138, a138 P), (139, a139 P), (141, a141 P), (142, a142 P), (144, a144 P), (145, a145 P), (146, a146 P), (148, a148 P), (149, a149 P), (151, a151 P), (152, a152 P), (153, a153 P), (155, a155 P), (156, a156 P), (158, a158 P), (159, a159 P), (160, a160 P), (162, a162 P), (163, a163 P), (165, a165 P), (166, a166 P), (167, a167 P), (169, a169 P), (170, a170 P), (172, a172 P), (173, a173 P), (174, a174 P), (176, a176 P), (177, a177 P), (179, a179 P), (180, a180 P), (181, a181 P), (182, a182 P), (183, a183 P), (185, a185 P), (186, a186 P), (188, a188 P), (189, a189 P), (190, a190 P), (192, a192 P), (193, a193 P), (195, a195 P), (196, a196 P), (197, a197 P), (199, a199 P), (200, a200 P), (202, a202 P), (203, a203 P), (204, a204 P), (206, a206 P), (207, a207 P), (209, a209 P), (210, a210 P), (211, a211 P), (213, a213 P), (214, a214 P), (216, a216 P), (217, a217 P), (218, a218 P), (220, a220 P), (221, a221 P), (223, a223 P), (224, a224 P), (225, a225 P), (227, a227 P), (228, a228 P), (230, a230 P), (231, a231 P), (232, a232 P), (234, a234 P), (235, a235 P), (237, a237 P), (238, a238 P), (239, a239 P), (241, a241 P), (242, a242 P), (244, a244 P), (245, a245 P), (253, a253 P), (255, a255 P), (256, a256 P), (258, a258 P), (259, a259 P), (260, a260 P), (261, a261 P), (262, a262 P), (263, a263 P), (264, a264 P), (274, a274 P), (276, a276 P), (277, a277 P), (279, a279 P), (280, a280 P), (281, a281 P), (283, a283 P), (284, a284 P), (286, a286 P), (287, a287 P), (288, a288 P), (290, a290 P), (291, a291 P), (293, a293 P), (294, a294 P), (295, a295 P), (297, a297 P), (298, a298 P), (300, a300 P), (301, a301 P), (302, a302 P), (304, a304 P), (305, a305 P), (307, a307 P), (308, a308 P), (309, a309 P), (311, a311 P), (312, a312 P), (314, a314 P), (315, a315 P), (316, a316 P), (318, a318 P), (319, a319 P), (321, a321 P), (322, a322 P), (323, a323 P), (325, a325 P), (326, a326 P), (328, a328 P), (329, a329 P), (330, a330 P), (332, a332 P), (333, a333 P), (335, a335 P), (336, a336 P), (337, a337 P), (339, a339 P), (340, a340 P), (342, a342 P), (343, a343 P), (344, a344 P), (346, a346 P), (347, a347 P), (349, a349 P), (350, a350 P), (351, a351 P), (353, a353 P), (354, a354 P), (356, a356 P), (357, a357 P), (358, a358 P), (360, a360 P), (361, a361 P), (363, a363 P), (364, a364 P), (365, a365 P), (367, a367 P), (368, a368 P), (370, a370 P), (371, a371 P), (372, a372 P), (374, a374 P), (375, a375 P), (377, a377 P), (378, a378 P), (379, a379 P), (381, a381 P), (382, a382 P), (384, a384 P), (385, a385 P), (386, a386 P), (388, a388 P), (389, a389 P), (391, a391 P), (392, a392 P), (393, a393 P), (395, a395 P), (396, a396 P), (398, a398 P), (399, a399 P), (400, a400 P), (402, a402 P), (403, a403 P), (405, a405 P), (406, a406 P), (407, a407 P), (409, a409 P), (410, a410 P), (412, a412 P), (413, a413 P), (414, a414 P), (416, a416 P), (417, a417 P), (419, a419 P), (420, a420 P), (421, a421 P), (423, a423 P), (424, a424 P), (426, a426 P), (427, a427 P), (428, a428 P), (430, a430 P), (431, a431 P), (433, a433 P), (434, a434 P), (435, a435 P), (437, a437 P), (438, a438 P), (440, a440 P), (441, a441 P), (442, a442 P), (444, a444 P), (445, a445 P), (447, a447 P), (448, a448 P), (449, a449 P), (451, a451 P), (452, a452 P), (454, a454 P), (455, a455 P), (456, a456 P), (458, a458 P), (459, a459 P), (461, a461 P), (462, a462 P), (463, a463 P), (464, a464 P), (465, a465 P), (466, a466 P), (467, a467 P), (477, a477 P), (479, a479 P), (480, a480 P), (482, a482 P), (483, a483 P), (484, a484 P), (486, a486 P), (487, a487 P), (489, a489 P), (490, a490 P), (491, a491 P), (493, a493 P), (494, a494 P), (496, a496 P), (497, a497 P), (498, a498 P), (500, a500 P), (501, a501 P), (503, a503 P), (504, a504 P), (505, a505 P), (507, a507 P), (508, a508 P), (510, a510 P), (511, a511 P), (512, a512 P), (514, a514 P), (515, a515 P), (517, a517 P), (518, a518 P), (519, a519 P), (520, a520 P), (521, a521 P), (522, a522 P), (523, a523 P), (526, a526 P), (528, a528 P), (529, a529 P), (531, a531 P), (532, a532 P), (533, a533 P), (535, a535 P), (536, a536 P), (538, a538 P), (539, a539 P), (540, a540 P), (542, a542 P), (543, a543 P), (545, a545 P), (546, a546 P), (547, a547 P), (549, a549 P), (550, a550 P), (552, a552 P), (553, a553 P), (554, a554 P), (557, a557 P), (558, a558 P)]
noncomputable abbrev fd_lim_init : FuncData := fd36
noncomputable abbrev fd_err_init : FuncData := fd71
noncomputable abbrev fd_is_number : FuncData := fd96
noncomputable abbrev fd_wrap : FuncData := fd103
noncomputable abbrev fd_is_blank_values : FuncData := fd110
noncomputable abbrev fd_digit_of : FuncData := fd117
noncomputable abbrev fd_read_digits : FuncData := fd124
noncomputable abbrev fd_skip_blanks : FuncData := fd131
noncomputable abbrev fd_str_to_number : FuncData := fd138
noncomputable abbrev fd_text_in_base : FuncData := fd145
noncomputable abbrev fd_number_text : FuncData := fd152
noncomputable abbrev fd_to_text : FuncData := fd159
noncomputable abbrev fd_c_text : FuncData := fd166
noncomputable abbrev fd_chunk_id : FuncData := fd180
noncomputable abbrev fd_is_digit : FuncData := fd189
noncomputable abbrev fd_is_letter : FuncData := fd196
noncomputable abbrev fd_is_name_sign : FuncData := fd203
noncomputable abbrev fd_is_blank_lexer : FuncData := fd210
noncomputable abbrev fd_is_control : FuncData := fd217
noncomputable abbrev fd_is_newline : FuncData := fd224
noncomputable abbrev fd_escaped_sign : FuncData := fd231
noncomputable abbrev fd_reserved_kinds : FuncData := fd238
noncomputable abbrev fd_token_text : FuncData := fd245
noncomputable abbrev fd_tok_init : FuncData := fd259
noncomputable abbrev fd_lex_init : FuncData := fd280
noncomputable abbrev fd_next : FuncData := fd287
noncomputable abbrev fd_lookahead : FuncData := fd294
noncomputable abbrev fd_error : FuncData := fd301
noncomputable abbrev fd_syntax_error : FuncData := fd308
noncomputable abbrev fd_near_text : FuncData := fd315
noncomputable abbrev fd_move : FuncData := fd322
noncomputable abbrev fd_keep : FuncData := fd329
noncomputable abbrev fd_keep_and_move : FuncData := fd336
noncomputable abbrev fd_keep_if : FuncData := fd343
noncomputable abbrev fd_clear : FuncData := fd350
noncomputable abbrev fd_end_line : FuncData := fd357
noncomputable abbrev fd_read : FuncData := fd364
noncomputable abbrev fd_skip_blank : FuncData := fd371
noncomputable abbrev fd_sign_behind : FuncData := fd378
noncomputable abbrev fd_skip_comment : FuncData := fd385
noncomputable abbrev fd_read_compared : FuncData := fd392
noncomputable abbrev fd_read_dots : FuncData := fd399
noncomputable abbrev fd_read_word : FuncData := fd406
noncomputable abbrev fd_read_numeral : FuncData := fd413
noncomputable abbrev fd_read_bracket : FuncData := fd420
noncomputable abbrev fd_read_level : FuncData := fd427
noncomputable abbrev fd_read_long : FuncData := fd434
noncomputable abbrev fd_read_string : FuncData := fd448
noncomputable abbrev fd_read_escape : FuncData := fd455
noncomputable abbrev fd_row_init : FuncData := fd483
noncomputable abbrev fd_row_token_at : FuncData := fd490
noncomputable abbrev fd_row_next : FuncData := fd497
noncomputable abbrev fd_row_lookahead : FuncData := fd504
noncomputable abbrev fd_row_error : FuncData := fd511
noncomputable abbrev fd_row_syntax_error : FuncData := fd518
noncomputable abbrev fd_law_sip : FuncData := fd532
noncomputable abbrev fd_law_told : FuncData := fd539
noncomputable abbrev fd_law_tokens : FuncData := fd546
noncomputable abbrev fd_law_refused : FuncData := fd553
noncomputable abbrev fd_law : FuncData := fd558
noncomputable abbrev lp : Program := PySem.Challenge.pw_sm0068_01
noncomputable abbrev lw : OpenLaw := PySem.Challenge.rw_sm0068_01
theorem open_ : opening pw = plainProg pw.main.scope.names := by kernel_rfl
theorem fence_ (s : Shared) : fenceModules? pw s = some s := by kernel_rfl
theorem behind_ : behindTheImports pw = ls0 ++ (ls1 ++ (ls2 ++ (ls3 ++ (ls4 ++ (ls5 ++ (ls6 ++ (ls7 ++ (ls8 ++ (ls9 ++ (ls10 ++ (ls11 ++ []))))))))))) := by kernel_rfl
theorem heapF (P : Params) : hpF P = absHeap (tr12 P) 559 {} := by kernel_rfl
theorem size_ (w : World) : ((boot_heap w.params).isNs mainGlobals && (Array.mk ([] : List GenState)).size == 0, (boot_heap w.params).objs.size, (boot_heap w.params).nsMap mainGlobals "__annotations__") = (true, 11, an0) := by kernel_rfl
theorem pre_ (w : World) : (fun os => PySem.W.Fast.tw15667345088766844465 tab' pw w 11 an0 12 ⟨boot_heap w.params, Array.mk [], boot_drawn, boot_toks, os⟩ (topStub pw)) = fun os => some (⟨absHeap (tr0 w.params) 15 {}, Array.mk [], {}, 187, os⟩, ⟨PySem.W.Fast.tw11892475500146522536 tab' cE, cE, ⟨0, 0, 0, 0⟩, topB⟩) := by kernel_rfl
theorem block_ (w : World) (os : OsState) : segRun treeTable pw w 11 an0 1 1 (ss0 w os).abs (blockOf (behindTheImports pw) env0 cE ⟨0, 0, 0, 0⟩ topB) = some (.next, (ss0 w os).abs, cE, ⟨0, 0, 0, 0⟩) := by kernel_rfl
theorem fin_ (w : World) (os : OsState) : topRun treeTable pw w 11 an0 2 (ss12 w os).abs (restOf [] env0 cE ⟨487, 0, 515, 32⟩ topB) = some (ss12 w os).abs := by kernel_rfl
theorem pre' (w : World) (os : OsState) : topGo treeTable pw w 11 an0 12 ⟨boot_heap w.params, Array.mk [], boot_drawn, boot_toks, os⟩ (topStub pw) = some (⟨absHeap (tr0 w.params) 15 {}, Array.mk [], {}, 187, os⟩, ⟨denote treeTable cE, cE, ⟨0, 0, 0, 0⟩, topB⟩) := by
  rw [PySem.W.Fast.te15667345088766844465, PySem.W.Fast.te11892475500146522536, PySem.W.Fast.te14364793385576792824]
  exact congrFun (pre_ w) os
theorem run_ (w : World) (os : OsState) : topRun treeTable pw w 11 an0 (12 + (1 + (48 + (314 + (231 + (214 + (445 + (142 + (154 + (276 + (225 + (1067 + (396 + (158 + 2)))))))))))))) ⟨boot_heap w.params, Array.mk [], boot_drawn, boot_toks, os⟩ (topStub pw) = some ⟨hpF w.params, Array.mk [], {}, 992, os⟩ := by
  rw [heapF]
  refine go_top (pre' w os) (piece_block (block_ w os) ?_)
  rw [behind_]
  exact piece_app (segRun_of (seg_tw (congrFun (sg0 w) os))) (piece_app (segRun_of (seg_tw (congrFun (sg1 w) os))) (piece_app (segRun_of (seg_tw (congrFun (sg2 w) os))) (piece_app (segRun_of (seg_tw (congrFun (sg3 w) os))) (piece_app (segRun_of (seg_tw (congrFun (sg4 w) os))) (piece_app (segRun_of (seg_tw (congrFun (sg5 w) os))) (piece_app (segRun_of (seg_tw (congrFun (sg6 w) os))) (piece_app (segRun_of (seg_tw (congrFun (sg7 w) os))) (piece_app (segRun_of (seg_tw (congrFun (sg8 w) os))) (piece_app (segRun_of (seg_tw (congrFun (sg9 w) os))) (piece_app (segRun_of (seg_tw (congrFun (sg10 w) os))) (piece_app (segRun_of (seg_tw (congrFun (sg11 w) os))) (fin_ w os))))))))))))
noncomputable def looseN : List Str := [Str.ofString "_wall", Str.ofString "__name__", Str.ofString "BLANKS", Str.ofString "Limits", Str.ofString "LuaError", Str.ofString "LuaSyntaxError", Str.ofString "is_number", Str.ofString "wrap", Str.ofString "is_blank", Str.ofString "is_blank_values", Str.ofString "digit_of", Str.ofString "read_digits", Str.ofString "skip_blanks", Str.ofString "str_to_number", Str.ofString "text_in_base", Str.ofString "number_text", Str.ofString "to_text", Str.ofString "c_text", Str.ofString "first_line", Str.ofString "chunk_id", Str.ofString "END_OF_TEXT", Str.ofString "FIRST_RESERVED", Str.ofString "RESERVED", Str.ofString "TK_CONCAT", Str.ofString "TK_DOTS", Str.ofString "TK_EQ", Str.ofString "TK_GE", Str.ofString "TK_LE", Str.ofString "TK_NE", Str.ofString "TK_NUMBER", Str.ofString "TK_NAME", Str.ofString "TK_STRING", Str.ofString "TK_EOS", Str.ofString "OTHER_TEXTS", Str.ofString "SOURCE_SIZE", Str.ofString "MOST_LINES", Str.ofString "NEWLINE", Str.ofString "RETURN", Str.ofString "QUOTE_DOUBLE", Str.ofString "QUOTE_SINGLE", Str.ofString "PLUS", Str.ofString "MINUS", Str.ofString "DOT", Str.ofString "LESS", Str.ofString "EQUALS", Str.ofString "GREATER", Str.ofString "BRACKET_OPEN", Str.ofString "BACKSLASH", Str.ofString "BRACKET_CLOSE", Str.ofString "UNDERSCORE", Str.ofString "TILDE", Str.ofString "is_digit", Str.ofString "is_letter", Str.ofString "is_name_sign", Str.ofString "is_blank_lexer", Str.ofString "is_control", Str.ofString "is_newline", Str.ofString "escaped_sign", Str.ofString "reserved_kinds", Str.ofString "token_text", Str.ofString "Token", Str.ofString "Lexer", Str.ofString "TokenRow", Str.ofString "_law_sip", Str.ofString "_law_told", Str.ofString "_law_tokens", Str.ofString "_law_refused"]
noncomputable def kAs : List Addr := [2, 3, 15, 17, 18, 20, 21, 29, 30, 32, 33, 35, 36, 37, 39, 40, 42, 43, 44, 46, 47, 49, 50, 51, 52, 53, 54, 55, 58, 65, 67, 68, 70, 71, 72, 73, 74, 75, 78, 85, 86, 87, 90, 92, 93, 95, 96, 97, 99, 100, 102, 103, 104, 106, 107, 109, 110, 111, 113, 114, 116, 117, 118, 120, 121, 123, 124, 125, 127, 128, 130, 131, 132, 134, 135, 137, 138, 139, 141, 142, 144, 145, 146, 148, 149, 151, 152, 153, 155, 156, 158, 159, 160, 162, 163, 165, 166, 167, 169, 170, 172, 173, 174, 176, 177, 179, 180, 181, 182, 183, 185, 186, 188, 189, 190, 192, 193, 195, 196, 197, 199, 200, 202, 203, 204, 206, 207, 209, 210, 211, 213, 214, 216, 217, 218, 220, 221, 223, 224, 225, 227, 228, 230, 231, 232, 234, 235, 237, 238, 239, 241, 242, 244, 245, 253, 255, 256, 258, 259, 260, 261, 262, 263, 264, 274, 276, 277, 279, 280, 281, 283, 284, 286, 287, 288, 290, 291, 293, 294, 295, 297, 298, 300, 301, 302, 304, 305, 307, 308, 309, 311, 312, 314, 315, 316, 318, 319, 321, 322, 323, 325, 326, 328, 329, 330, 332, 333, 335, 336, 337, 339, 340, 342, 343, 344, 346, 347, 349, 350, 351, 353, 354, 356, 357, 358, 360, 361, 363, 364, 365, 367, 368, 370, 371, 372, 374, 375, 377, 378, 379, 381, 382, 384, 385, 386, 388, 389, 391, 392, 393, 395, 396, 398, 399, 400, 402, 403, 405, 406, 407, 409, 410, 412, 413, 414, 416, 417, 419, 420, 421, 423, 424, 426, 427, 428, 430, 431, 433, 434, 435, 437, 438, 440, 441, 442, 444, 445, 447, 448, 449, 451, 452, 454, 455, 456, 458, 459, 461, 462, 463, 464, 465, 466, 467, 477, 479, 480, 482, 483, 484, 486, 487, 489, 490, 491, 493, 494, 496, 497, 498, 500, 501, 503, 504, 505, 507, 508, 510, 511, 512, 514, 515, 517, 518, 519, 520, 521, 522, 523, 526, 528, 529, 531, 532, 533, 535, 536, 538, 539, 540, 542, 543, 545, 546, 547, 549, 550, 552, 553, 554, 557, 558]
noncomputable abbrev qv : Program := view pw [71]
noncomputable abbrev sF (w : World) (os : OsState) : Shared := ⟨hpF w.params, Array.mk [], {}, 992, os⟩
theorem kAs_ (P : Params) : kAs = (KK P).map (·.1) := by kernel_rfl
theorem look0 (w : World) : (fun os => (staticsOk (importedModules pw.main.body) (boot_heap w.params) (hpF w.params) && namesBound pw (hpF w.params) && gensDone (sF w os) && laidKept (boot_heap w.params) (hpF w.params))) = fun _ => true := by kernel_rfl
theorem look1 (w : World) : (fun os => seen ((recsOf qv).map (·.name)) (ownsOf qv) [] { sF w os with gens := #[] }) = fun _ => expectedOf qv := by kernel_rfl
theorem look2 (w : World) : (hpF w.params).bltView = bltViewBooted := by kernel_rfl
noncomputable abbrev gk (s : Shared) : Bool := s.heap.keysOk (looseW qv looseN) ((recsOf qv).map (·.name)) ((litsOf qv).map (·.1)) ((clssOf qv (looseW qv looseN)).map (·.name)) && s.heap.accountedOkI (importedModules pw.main.body) && s.heap.isNs mainGlobals && s.heap.isNs builtinsNs && tablesOk qv s.heap && (fun _ : Shared => true) s && (if true then s.gens.size == 0 else !leftWithCleanup s.gens)
theorem look3 (w : World) : (fun os => gk (sF w os)) = fun _ => true := by kernel_rfl
theorem look4 (w : World) : (fun os => tabsOk qv (sF w os)) = fun _ => true := by kernel_rfl
theorem look5 (w : World) : (fun os => pinSeenD qv (drecsOf qv) (sF w os)) = fun _ => pinGoodD (drecsOf qv) := by kernel_rfl
theorem look6 (w : World) : (fun os => plainSeenE qv (looseW qv looseN) (sF w os)) = fun _ => plainGoodE qv (looseW qv looseN) := by kernel_rfl
theorem look7 (w : World) : (fun os => plainSeenD qv looseN (sF w os)) = fun _ => plainGoodD qv looseN := by kernel_rfl
theorem look8 (w : World) : (fun os => wideSeen qv (sF w os)) = fun _ => wideGood qv := by kernel_rfl
theorem look9 (w : World) : (fun os => clsSeenW qv looseN (sF w os)) = fun _ => clsGoodW qv looseN := by kernel_rfl
theorem lookY (w : World) : (fun os => (kAs.map (sF w os).heap.get?, (sF w os).heap.nsMap mainGlobals (Str.ofString "law"))) = fun _ => ((KK w.params).map (fun p => some p.2), some (.ref 558)) := by kernel_rfl
noncomputable abbrev Yf (s : Shared) : List (Option Obj) × Option Value := (kAs.map s.heap.get?, s.heap.nsMap mainGlobals (Str.ofString "law"))
noncomputable abbrev Ya (w : World) : List (Option Obj) × Option Value := ((KK w.params).map (fun p => some p.2), some (.ref 558))
theorem looks_ (w : World) : (fun os => ((staticsOk (importedModules pw.main.body) (boot_heap w.params) (hpF w.params) && namesBound pw (hpF w.params) && gensDone (sF w os) && laidKept (boot_heap w.params) (hpF w.params)), openSeen qv looseN (importedModules pw.main.body) (fun _ => true) true (sF w os), Yf (sF w os))) = fun _ => (true, openGood qv looseN, Ya w) := by
  funext os
  have l0 := congrFun (look0 w) os
  have l1 := congrFun (look1 w) os
  have l2 := look2 w
  have l3 := congrFun (look3 w) os
  have l4 := congrFun (look4 w) os
  have l5 := congrFun (look5 w) os
  have l6 := congrFun (look6 w) os
  have l7 := congrFun (look7 w) os
  have l8 := congrFun (look8 w) os
  have l9 := congrFun (look9 w) os
  have ly := congrFun (lookY w) os
  exact looks_pair l0 (looks_pair (looks_pair l1 (looks_pair l2 (looks_pair l3 (looks_pair l4 (looks_pair l5 (looks_pair l6 (looks_pair l7 (looks_pair l8 l9)))))))) ly)
theorem left_ : LeftO pw qv looseN (fun _ => true) Yf Ya 4000 :=
  .of_pieces (boot_open open_ rfl fence_) size_ run_ rfl looks_
theorem in_of {h : Heap} : ∀ (K : Frag), (K.map (·.1)).map h.get? = K.map (fun p => some p.2) → K.In h
  | [], _, a, o, e => by cases e
  | (b, x) :: K, q, a, o, e => by
    simp only [List.map_cons, List.cons.injEq] at q
    rw [List.lookup_cons] at e
    by_cases hc : a = b
    · subst hc
      rw [show (a == a) = true from by simp] at e
      rw [q.1]; exact e
    · rw [show (a == b) = false from by simpa using hc] at e
      exact in_of K q.2 a o e
theorem hY_ (w : World) (s : Shared) (e : Yf s = Ya w) : (KK w.params).In s.heap ∧ s.heap.nsMap mainGlobals PySem.Challenge.rw_sm0068_01.name = some (.ref 558) := by
  obtain ⟨a, b⟩ := Prod.mk.inj e
  rw [kAs_ w.params] at a
  exact ⟨in_of _ a, b⟩
theorem ok_ : (chainsOk qv && opensWell pw && (frees lw.row.toRowW && lw.row.within.isEmpty)) = true := by kernel_rfl
theorem bare_ : pw.bare := ⟨rfl, rfl, rfl, rfl, rfl, by decide +kernel⟩
theorem wit_ : lw.row.toRowW.promised := ⟨[.list []], by kernel_rfl, by kernel_rfl⟩
theorem dS_ : (defOf qv lw.name).isSome = true := by kernel_rfl
noncomputable def dT : DefRec := ((defOf qv lw.name).get dS_).1
noncomputable def dK : List (Str × PySem.Expr) := ((defOf qv lw.name).get dS_).2
theorem def_ : defOf qv lw.name = some (dT, dK) := (Option.some_get dS_).symm
theorem the_ : pw.theDef lw.name = some (dT.params, dT.body, dT.scope) := by kernel_rfl
theorem kw_ : kwWritten? dT.params.kwonlyargs dT.params.kw_defaults = some dK := by kernel_rfl
noncomputable def loF (p : Program) : { b : Bool × Bool × Bool × Bool × Bool × Bool // looksOpen p = (b.1 && b.2.1 && b.2.2.1 && b.2.2.2.1 && b.2.2.2.2.1 && b.2.2.2.2.2) } := ⟨⟨_, _, _, _, _, _⟩, rfl⟩
theorem lo1 : ((loF lp).1.1 && (loF lp).1.2.1 && (loF lp).1.2.2.1 && (loF lp).1.2.2.2.1) = true := by kernel_rfl
theorem lo5 : (loF lp).1.2.2.2.2.1 = true := by kernel_rfl
theorem lo6 : (loF lp).1.2.2.2.2.2 = true := by kernel_rfl
theorem lo7 : looksOpen lp = true := (loF lp).2.trans (look_both (look_both lo1 lo5) lo6)
theorem said_ : lw.wellSaid = true := by
  unfold OpenLaw.wellSaid OpenRow.wellSaid OpenRow.partSaid
  repeat' with_reducible refine look_both ?_ ?_
  · refine Eq.trans ?_ lo7
    kernel_rfl
  all_goals kernel_rfl
noncomputable def dirtyIds : List String := ["bytearray.__contains__", "bytearray.__mod__", "bytearray.__rmod__", "_struct.pack_into.held", "bytearray.find.held"] ++ Builtin.Bytes.decodersThatHold
noncomputable def dirty : Code → Bool
  | .builtin id _ => dirtyIds.contains id
  | _ => false
noncomputable def CleanB (l : List (Code × Pos)) : Prop := ∀ x ∈ l, dirty x.1 = false
noncomputable def Clean (Γ : Ctx) : Prop := dirty Γ.code = false ∧ CleanB Γ.below
noncomputable def W {α : Type} (prog : Program) (w : World) (A : Around) (t : Sem α) (h : Heap) (Q : α → Heap → Prop) : Prop :=
  ∀ (g : Array GenState) (d : Drawn) (tk : Nat) (os : OsState) (QQ : α → Shared → Prop),
    (∀ v h' tk', Q v h' → QQ v ⟨h', g, d, tk', os⟩) → ∀ Γ p, Γ.In A → Clean Γ → Sem.wp (model prog w) Γ t (fun a _ s' => QQ a s') (fun _ _ _ => False) p ⟨h, g, d, tk, os⟩
noncomputable def CW (prog : Program) (w : World) (A : Around) (c : Code) (h : Heap) (Q : Flow → Heap → Prop) : Prop :=
  ∀ (g : Array GenState) (d : Drawn) (tk : Nat) (os : OsState) (QQ : Flow → Shared → Prop),
    (∀ v h' tk', Q v h' → QQ v ⟨h', g, d, tk', os⟩) → ∀ Γ p, Γ.code = c → Γ.Below A → CleanB Γ.below → wpCode (model prog w) Γ (fun r s' => match r with | .ok f => QQ f s' | .error _ => False) p ⟨h, g, d, tk, os⟩
noncomputable def Grown (h h' : Heap) : Prop := ∀ b o, h.get? b = some o → h'.get? b = some o
structure Gr (K : Frag) (hT : Heap) : Prop where
  X : K.In hT
  g : ∃ mg, hT.Ns mainGlobals mg
  b : ∃ mb, hT.Ns builtinsNs mb ∧ ∀ x, x ≠ ("__name__" : Str) → mb x = bootBuiltins x
  lim : hT.NoLimit
noncomputable def IsL (h : Heap) (a : Addr) (vs : List Value) : Prop := ∃ n, h.get? a = some { cls := .type "list", data := .seq vs.toArray n }
inductive Ints : List Value → List Int → Prop
  | nil : Ints [] []
  | cons {vs : List Value} {ns : List Int} (n : Int) (t : Tok) (r : Ints vs ns) : Ints (.int n t :: vs) (n :: ns)
theorem prog_ex : ∃ p : Program, p = PySem.Challenge.pw_sm0068_01 := ⟨_, rfl⟩
noncomputable def prog : Program := Classical.choose prog_ex
theorem prog_is : prog = PySem.Challenge.pw_sm0068_01 := Classical.choose_spec prog_ex
noncomputable def Ask (w : World) (hT : Heap) : Prop := ∀ (mg : Str → Option Value) (a : Addr) (us : List Value) (ns : List Int), Gr (KK w.params) hT → hT.Ns mainGlobals mg → mg lw.name = some (.ref 558) → IsL hT a us → Ints us ns → us.length ≤ 63 →
  W prog w callerA (callStub lw.name [.ref a]).cur hT fun fin h' => fin = .done (.ret (.bool true)) ∧ ∀ b o, hT.get? b = some o → h'.get? b = some o
theorem pick_ex : ∃ c : World × Heap, Ask c.1 c.2 → ∀ w hT, Ask w hT := by
  by_cases e : ∃ c : World × Heap, ¬ Ask c.1 c.2
  · obtain ⟨c, n⟩ := e
    exact ⟨c, fun y => absurd y n⟩
  · exact ⟨(⟨fun _ _ => 0, { strHash := fun _ => 0, shareClass := fun _ => 0, mergeTok := id, idOf := fun _ => 0, idOfShared := fun _ _ => 0, followText := fun _ => false, idOfImm := fun _ => 0 }⟩, {}), fun _ w hT => Classical.byContradiction fun n => e ⟨(w, hT), n⟩⟩
noncomputable def w : World := (Classical.choose pick_ex).1
noncomputable def hT : Heap := (Classical.choose pick_ex).2
theorem w_all : Ask w hT → ∀ w hT, Ask w hT := Classical.choose_spec pick_ex
end Mine
end
section
open PySem PySem.W PySem.Calls PyProof.Rows
set_option Elab.async false
set_option maxRecDepth 100000
set_option linter.unusedVariables false
namespace Mine
theorem all1 {α : Type} {P : α → Prop} {a : α} (p : P a) : ∀ x ∈ [a], P x := fun x m => List.mem_singleton.mp m ▸ p
section
variable {A : Around} {env : Env} {h : Heap} {α β : Type}
theorem W.any {t : Sem α} {Q : α → Heap → Prop} (H : ∀ (g : Array GenState) (d : Drawn) (tk : Nat) (os : OsState) (QQ : α → Shared → Prop) (EE : Value → Shared → Prop),
    (∀ v h' tk', Q v h' → QQ v ⟨h', g, d, tk', os⟩) → wpAny (model prog w) A t QQ EE ⟨h, g, d, tk, os⟩) : W prog w A t h Q :=
  fun g d tk os QQ k Γ p hΓ _ => H g d tk os QQ (fun _ _ => False) k Γ p hΓ
theorem W.mono {t : Sem α} {Q Q' : α → Heap → Prop} (H : W prog w A t h Q) (k : ∀ v h', Q v h' → Q' v h') : W prog w A t h Q' :=
  fun g d tk os QQ kk => H g d tk os QQ fun v h' tk' q => kk v h' tk' (k v h' q)
theorem W.pure {a : α} {Q : α → Heap → Prop} (q : Q a h) : W prog w A (Pure.pure a) h Q := fun _ _ tk _ _ k _ _ _ _ => k a h tk q
theorem W.bind {m : Sem α} {f : α → Sem β} {Q : β → Heap → Prop} (H : W prog w A m h fun a h1 => W prog w A (f a) h1 Q) : W prog w A (m >>= f) h Q :=
  fun g d tk os QQ k Γ p hΓ hc => by
    rw [Sem.wp_bind']
    exact Sem.wp_mono _ Γ _ (fun a p' s' h' => h' p') (fun _ _ _ x => x) _ _
      (H g d tk os (fun a s' => ∀ p', Sem.wp (model prog w) Γ (f a) (fun a _ s' => QQ a s') (fun _ _ _ => False) p' s') (fun a h1 tk1 H1 p' => H1 g d tk1 os QQ k Γ p' hΓ hc) Γ p hΓ hc)
theorem W.of_eq {t t' : Sem α} {Q : α → Heap → Prop} (e : t = t') (H : W prog w A t' h Q) : W prog w A t h Q := e ▸ H
theorem W.looks {t : Sem α} {r : α} {Q : α → Heap → Prop} (L : Looks (model prog w) h t r) (q : Q r h) : W prog w A t h Q :=
  W.any fun _ _ tk _ _ _ k => L _ _ _ _ (fun _ _ e => e) (k r h tk q)
theorem W.standAt {pos : Pos} {Q : Unit → Heap → Prop} (q : Q () h) : W prog w A (PySem.standAt pos) h Q := W.any fun _ _ tk _ _ _ k => wpAny_standAt (k () h tk q)
theorem W.point {Q : Unit → Heap → Prop} (q : Q () h) : W prog w A PySem.point h Q := W.any fun _ _ tk _ _ _ k => wpAny_point (k () h tk q)
theorem W.holding {vs : List Value} {m : Sem α} {Q : α → Heap → Prop} (H : W prog w A m h Q) : W prog w A (PySem.holding vs m) h Q :=
  fun g d tk os QQ k Γ p hΓ hc => by rw [Sem.wp_holding]; exact H g d tk os QQ k Γ p hΓ hc
theorem W.operate {vs : List Value} {m : Sem Value} {Q : Value → Heap → Prop} (H : W prog w A m h Q) : W prog w A (PySem.operate vs m) h Q :=
  fun g d tk os QQ k Γ p hΓ hc => by rw [Sem.wp_operate]; exact H g d tk os QQ k Γ p hΓ hc
theorem W.release {vs keep : List Value} {Q : Unit → Heap → Prop} (q : Q () h) : W prog w A (PySem.release vs keep) h Q := W.any fun _ _ tk _ _ _ k => wpAny_release' (k () h tk q)
theorem W.keep {vs : List Value} {m : Sem α} {Q : α → Heap → Prop} (H : W prog w A m h Q) : W prog w A (m.keep vs) h Q :=
  fun g d tk os QQ k Γ p hΓ hc => by rw [Sem.wp_keep]; exact H g d tk os QQ k Γ p hΓ hc
theorem W.bindName {x : Str} {v : Value} {Q : Unit → Heap → Prop} (H : W prog w A (storeName env x v) h Q) : W prog w A (PySem.bindName env x v) h Q :=
  fun g d tk os QQ k Γ p hΓ hc => by rw [Sem.wp_bindName]; exact H g d tk os QQ k Γ p hΓ hc
theorem W.onRaise {m : Sem α} {k : Value → Sem Unit} {Q : α → Heap → Prop} (H : W prog w A m h Q) : W prog w A (m.onRaise k) h Q :=
  fun g d tk os QQ kk Γ p hΓ hc => by
    rw [Sem.wp_onRaise]
    exact Sem.wp_mono _ Γ _ (fun _ _ _ x => x) (fun _ _ _ x => x.elim) _ _ (H g d tk os QQ kk Γ p hΓ hc)
theorem W.load {a : Addr} {o : Obj} {Q : Obj → Heap → Prop} (e : h.get? a = some o) (q : Q o h) : W prog w A (PySem.load a) h Q := W.any fun _ _ tk _ _ _ k => wpAny_load e (k _ h tk q)
theorem W.stackAny {f : Code × Pos → Bool} {Q : Bool → Heap → Prop} (hf : ∀ c p, dirty c = false → f (c, p) = false) (q : Q false h) : W prog w A (do return (← stack).any f) h Q :=
  fun g d tk os QQ k Γ p hΓ hc => by
    show QQ (((Γ.code, p) :: Γ.below).any f) _
    have e : ((Γ.code, p) :: Γ.below).any f = false := by
      rw [List.any_eq_false]
      intro x hx
      rcases List.mem_cons.mp hx with rfl | hx
      · rw [hf _ _ hc.1]; decide
      · obtain ⟨c, p'⟩ := x
        rw [hf _ _ (hc.2 _ hx)]; decide
    rw [e]; exact k _ _ _ q
theorem CW.mono {c : Code} {Q Q' : Flow → Heap → Prop} (H : CW prog w A c h Q) (k : ∀ v h', Q v h' → Q' v h') : CW prog w A c h Q' :=
  fun g d tk os QQ kk => H g d tk os QQ fun v h' tk' q => kk v h' tk' (k v h' q)
theorem Clean.enter {Γ : Ctx} {c : Code} {hd : Option Value} {p : Pos} (hc : Clean Γ) : CleanB (Γ.enter c hd p).below := fun x hx => by
  rcases List.mem_cons.mp hx with rfl | hx
  · exact hc.1
  · exact hc.2 x hx
theorem CW.tree {c : Code} {Q : Flow → Heap → Prop} (hd : dirty c = false)
    (H : W prog w (A.under c) (denote table c) h fun fin h' => match fin with | .done f => Q f h' | .again c' => c'.quiet = true ∧ CW prog w A c' h' Q) : CW prog w A c h Q :=
  fun g d tk os QQ k Γ p hc hΓ hb => by
    rw [wpCode_iff_wp, hc]
    refine Sem.wp_mono _ Γ _ (fun fin p' s' h' => ?_) (fun _ _ _ x => x) _ _ (H g d tk os (fun fin s' => ∀ p', Sem.finPost (model prog w) Γ (fun r s' => match r with | .ok f => QQ f s' | .error _ => False) fin p' s') (fun fin h1 tk1 H1 p' => ?_) Γ p (hc ▸ hΓ.in) ⟨hc ▸ hd, hb⟩)
    · exact h' p'
    · cases fin with
      | done f => exact k _ _ _ H1
      | again c' => exact ⟨H1.1, H1.2 g d tk1 os QQ k (Γ.goto c') p' rfl (hΓ.goto c') hb⟩
theorem CW.loop {c : Code} {Q : Flow → Heap → Prop} (hd : dirty c = false) (hq : c.quiet = true) (I : Nat → Heap → Prop)
    (turn : ∀ n h, I n h → W prog w (A.under c) (denote table c) h fun fin h' => match fin with | .done f => Q f h' | .again c' => c' = c ∧ ∃ m, m < n ∧ I m h') (n : Nat) (hI : I n h) : CW prog w A c h Q := by
  induction n using Nat.strongRecOn generalizing h with
  | ind n ih =>
    refine CW.tree hd ((turn n h hI).mono fun fin h' hf => ?_)
    cases fin with
    | done f => exact hf
    | again c' => obtain ⟨rfl, m, hm, hI'⟩ := hf; exact ⟨hq, ih m hm hI'⟩
theorem W.run {c : Code} {Q : Flow → Heap → Prop} (H : CW prog w A c h Q) : W prog w A (PySem.run c none) h Q :=
  fun g d tk os QQ k Γ p hΓ hc => by
    rw [Sem.wp_run]
    refine wpCode_mono (fun r s' x => ?_) (H g d tk os QQ k _ p rfl (hΓ.enter c none p (by intro x; cases x)) hc.enter)
    cases r <;> exact x
theorem W.runOwn {c : Code} {Q : Flow → Heap → Prop} (H : CW prog w A c h Q) : W prog w A (PySem.runOwn c env none) h Q := by
  unfold PySem.runOwn
  exact W.onRaise (W.run H)
theorem W.runValue {c : Code} {Q : Value → Heap → Prop} (H : CW prog w A c h fun f h' => ∃ v, f = .ret v ∧ Q v h') : W prog w A (PySem.runValue c) h Q :=
  fun g d tk os QQ k Γ p hΓ hc => by
    rw [Sem.wp_runValue]
    refine wpCode_mono (fun r s' x => ?_) (H g d tk os (fun f s' => ∃ v, f = .ret v ∧ QQ v s') (fun f h' tk' ⟨v, e, q⟩ => ⟨v, e, k _ _ _ q⟩) _ p rfl (hΓ.enter c none p (by intro x; cases x)) hc.enter)
    cases r with
    | ok f => obtain ⟨v, rfl, q⟩ := x; exact q
    | error e => exact x
theorem W.call {f : Value} {pos : List Value} {kw : List (Str × Value)} {Q : Value → Heap → Prop} (H : CW prog w A (.call f ⟨pos, kw⟩) h fun f h' => ∃ v, f = .ret v ∧ Q v h') : W prog w A (PySem.call f pos kw) h Q := W.runValue H
theorem CW.builtin {id : String} {args : Args} {b : Builtin} {Q : Flow → Heap → Prop} (hd : dirty (.builtin id args) = false) (hb : entryFor table id = some b)
    (H : W prog w (A.under (.builtin id args)) (b args) h fun fin h' => match fin with | .done f => Q f h' | .again c' => c'.quiet = true ∧ CW prog w A c' h' Q) : CW prog w A (.builtin id args) h Q := by
  refine CW.tree hd ?_
  show W _ _ _ (match entryFor table id with | some b => b args | none => unsupported ((withoutEnding? id "#data").getD id)) _ _
  rw [hb]; exact H
theorem CW.call_builtin {id : String} {args : Args} {b : Builtin} {Q : Flow → Heap → Prop} (hd : dirty (.builtin id args) = false) (hp : plainId id = true) (hb : entryFor table id = some b)
    (H : W prog w A.in1 (checkBuiltinCall id args) h fun _ h1 => W prog w A.in1 (b args) h1 fun fin h' => match fin with | .done f => Q f h' | .again c' => c'.quiet = true ∧ CW prog w A c' h' Q) : CW prog w A (.call (.builtin id) args) h Q := by
  refine CW.tree rfl ?_
  show W _ _ A.in1 (do checkBuiltinCall id args; again (.builtin id args)) _ _
  refine W.bind (H.mono fun _ h1 H1 => W.pure ⟨plainId_quiet hp args, CW.builtin hd hb ?_⟩)
  rw [Around.under_plainId hp args]; exact H1
theorem W_nil {Q : Flow → Heap → Prop} (q : Q .next h) : W prog w A (execs [] env) h Q := W.pure q
theorem W_cons {st : Stmt} {rest : List Stmt} {Q : Flow → Heap → Prop}
    (H : W prog w A (exec st env) h fun f h1 => match f with | .next => W prog w A (execs rest env) h1 Q | f => Q f h1) : W prog w A (execs (st :: rest) env) h Q := by
  rw [execs_cons]
  refine W.bind (H.mono fun f h1 H1 => ?_)
  cases f with
  | next => exact H1
  | brk => exact W.pure H1
  | cont => exact W.pure H1
  | ret v => exact W.pure H1
theorem W_consS {st : Stmt} {rest : List Stmt} {Q : Flow → Heap → Prop} (H : ∀ Q1 : Flow → Heap → Prop, (∀ f h1, (match f with | .next => W prog w A (execs rest env) h1 Q | f => Q f h1) → Q1 f h1) → W prog w A (exec st env) h Q1) : W prog w A (execs (st :: rest) env) h Q := W_cons (H _ fun _ _ x => x)
theorem useQ {P Q : Flow → Heap → Prop} {f : Flow} {h : Heap} (q : ∀ f h, P f h → Q f h) (x : P f h) : Q f h := q f h x
theorem W_ret {e : Expr} {pos : Pos} {Q : Flow → Heap → Prop} (H : W prog w A (eval e env) h fun v h1 => Q (.ret v) h1) : W prog w A (exec (.Return (some e) pos) env) h Q := by
  rw [exec_Return_some]
  exact W.bind (W.standAt (W.bind (H.mono fun _ _ q => W.pure q)))
theorem W_ret0 {pos : Pos} {Q : Flow → Heap → Prop} (q : Q (.ret .none) h) : W prog w A (exec (.Return none pos) env) h Q := by
  rw [exec_Return_none]
  exact W.bind (W.standAt (W.pure q))
theorem W_pass {pos : Pos} {Q : Flow → Heap → Prop} (q : Q .next h) : W prog w A (exec (.Pass pos) env) h Q := W.any fun _ _ tk _ _ _ k => wpAny_Pass (k _ h tk q)
theorem W_if {test : Expr} {body orelse : List Stmt} {pos : Pos} {Q : Flow → Heap → Prop}
    (H : W prog w A (isTrue test env (eval test env)) h fun c h1 => (c = true → W prog w A (execs body env) h1 Q) ∧ (c = false → W prog w A (execs orelse env) h1 Q)) :
    W prog w A (exec (.If test body orelse pos) env) h Q := by
  rw [exec_If]
  refine W.bind (W.standAt (W.bind (H.mono fun c h1 H1 => ?_)))
  cases c with
  | true => exact H1.1 rfl
  | false => exact H1.2 rfl
theorem W_expr {e : Expr} {pos : Pos} {Q : Flow → Heap → Prop} (H : W prog w A (eval e env) h fun v h1 => (∀ a, v ≠ .ref a) ∧ Q .next h1)
    (hi : interactive env = false := by rfl) (hs : swapsWith e none pos.line env = Pure.pure false := by rfl) : W prog w A (exec (.Expr e pos) env) h Q := by
  rw [exec_Expr env e pos hi hs]
  refine W.bind (W.standAt (W.bind (H.mono fun v h1 H1 => ?_)))
  rw [dropValue_plain H1.1]
  exact W.pure H1.2
theorem W_while {test : Expr} {body orelse : List Stmt} {pos : Pos} {Q : Flow → Heap → Prop} (H : CW prog w A (.whileLoop test body orelse env) h Q) : W prog w A (exec (.While test body orelse pos) env) h Q := by
  rw [exec_While]
  exact W.bind (W.standAt (W.runOwn H))
theorem CW_while {test : Expr} {body orelse : List Stmt} {Q : Flow → Heap → Prop} (I : Nat → Heap → Prop)
    (turn : ∀ n h, I n h → W prog w A (isTrue test env (eval test env)) h fun c h1 =>
      (c = true → W prog w A (execs body env) h1 fun f h2 => match f with | .next | .cont => ∃ m, m < n ∧ I m h2 | .brk => Q .next h2 | .ret v => Q (.ret v) h2) ∧ (c = false → W prog w A (execs orelse env) h1 Q))
    (n : Nat) (hI : I n h) : CW prog w A (.whileLoop test body orelse env) h Q := by
  refine CW.loop rfl rfl I (fun n h hI => ?_) n hI
  show W _ _ A ((whileTurn test body orelse env).onRaise (fun x => do noteFrame x env; theTreesLotGoes x)) _ _
  refine W.onRaise ?_
  unfold whileTurn
  refine W.bind ((turn n h hI).mono fun c h1 H1 => ?_)
  cases c with
  | false => exact W.bind ((H1.2 rfl).mono fun f h2 q => W.pure q)
  | true =>
    refine W.bind ((H1.1 rfl).mono fun f h2 q => ?_)
    cases f with
    | next => exact W.pure ⟨rfl, q⟩
    | cont => exact W.pure ⟨rfl, q⟩
    | brk => exact W.pure q
    | ret v => exact W.pure q
theorem CW_turn0 {test : Expr} {body orelse : List Stmt} {Q : Flow → Heap → Prop}
    (H : W prog w A (isTrue test env (eval test env)) h fun c h1 =>
      (c = true → W prog w A (execs body env) h1 fun f h2 => match f with | .next | .cont => CW prog w A (.whileLoop test body orelse env) h2 Q | .brk => Q .next h2 | .ret v => Q (.ret v) h2) ∧ (c = false → W prog w A (execs orelse env) h1 Q)) :
    CW prog w A (.whileLoop test body orelse env) h Q := by
  refine CW.tree rfl ?_
  show W _ _ A ((whileTurn test body orelse env).onRaise (fun x => do noteFrame x env; theTreesLotGoes x)) _ _
  refine W.onRaise ?_
  unfold whileTurn
  refine W.bind (H.mono fun c h1 H1 => ?_)
  cases c with
  | false => exact W.bind ((H1.2 rfl).mono fun f h2 q => W.pure q)
  | true =>
    refine W.bind ((H1.1 rfl).mono fun f h2 q => ?_)
    cases f with
    | next => exact W.pure ⟨rfl, q⟩
    | cont => exact W.pure ⟨rfl, q⟩
    | brk => exact W.pure q
    | ret v => exact W.pure q
theorem CW_turn {test : Expr} {body orelse : List Stmt} {Q : Flow → Heap → Prop}
    (H : ∀ Q1 : Flow → Heap → Prop, (∀ f h2, (match f with | .next | .cont => CW prog w A (.whileLoop test body orelse env) h2 Q | .brk => Q .next h2 | .ret v => Q (.ret v) h2) → Q1 f h2) → W prog w A (isTrue test env (eval test env)) h fun c h1 =>
      (c = true → W prog w A (execs body env) h1 Q1) ∧ (c = false → W prog w A (execs orelse env) h1 Q)) :
    CW prog w A (.whileLoop test body orelse env) h Q := CW_turn0 (H _ fun _ _ x => x)
theorem W_assign {x : Str} {pos' : Pos} {value : Expr} {pos : Pos} {Q : Flow → Heap → Prop}
    (H : W prog w A (eval value env) h fun v h1 => W prog w A (storeName env x v) h1 fun _ h2 => Q .next h2)
    (hs : swapsWith value (some (.Name x pos')) pos.line env = Pure.pure false := by rfl) : W prog w A (exec (.Assign [.Name x pos'] value pos) env) h Q := by
  rw [exec_Assign_Name env x pos' value pos hs]
  exact W.bind (W.standAt (W.bind (H.mono fun v h1 H1 => W.bind (W.standAt (W.bind (W.bindName (H1.mono fun _ _ q => W.pure q)))))))
theorem W_augname {x : Str} {pos' : Pos} {op : Operator} {value : Expr} {pos : Pos} {Q : Flow → Heap → Prop}
    (H : W prog w A (loadName env x) h fun old h1 => W prog w A (eval value env) h1 fun v h2 => W prog w A (inplaceOp op old v) h2 fun r h3 => W prog w A (storeName env x r) h3 fun _ h4 => Q .next h4) :
    W prog w A (exec (.AugAssign (.Name x pos') op value pos) env) h Q := by
  rw [exec_AugAssign_Name]
  exact W.bind (W.standAt (W.bind (H.mono fun o h1 H1 => W.bind (W.holding (H1.mono fun v h2 H2 => W.bind (W.standAt (W.bind (W.operate (H2.mono fun r h3 H3 => W.bind (W.standAt (W.bind (W.bindName (H3.mono fun _ _ q => W.pure q)))))))))))))
theorem W_setattr {o : Expr} {attr : Str} {pos' : Pos} {value : Expr} {pos : Pos} {Q : Flow → Heap → Prop}
    (H : W prog w A (eval value env) h fun v h1 => W prog w A (eval o env) h1 fun ov h2 => W prog w A (setAttr ov attr v) h2 fun _ h3 => Q .next h3)
    (hs : swapsWith value (some (.Attribute o attr pos')) pos.line env = Pure.pure false := by rfl) : W prog w A (exec (.Assign [.Attribute o attr pos'] value pos) env) h Q := by
  rw [plainObj_exec_Assign_Attribute o attr pos' value pos hs]
  refine W.bind (W.standAt (W.bind (H.mono fun v h1 H1 => W.bind ?_)))
  rw [assign_Attribute]
  exact W.bind (W.holding (H1.mono fun ov h2 H2 => W.bind (W.standAt (W.bind (W.holding (H2.mono fun _ _ q => W.release (W.pure q)))))))
theorem W_augattr {o value : Expr} {attr : Str} {tpos pos : Pos} {op : Operator} {Q : Flow → Heap → Prop}
    (H : W prog w A (eval o env) h fun ov h1 => W prog w A (getAttr ov attr true) h1 fun old h2 => W prog w A (eval value env) h2 fun v h3 => W prog w A (inplaceOp op old v) h3 fun new h4 =>
      W prog w A (setAttr ov attr new) h4 fun _ h5 => Q .next h5) : W prog w A (exec (.AugAssign (.Attribute o attr tpos) op value pos) env) h Q := by
  have e : exec (.AugAssign (.Attribute o attr tpos) op value pos) env = (do
      standAt pos
      let ov ← eval o env
      let new ← holding [ov] do
        standAt tpos.atName
        let old ← getAttr ov attr true
        let v ← holding [old] (eval value env)
        standAt pos
        operate [old, v] (inplaceOp op old v)
      standAt tpos.atName
      holding [new, ov] (setAttr ov attr new)
      release [new, ov] []
      pure .next) := rfl
  rw [e]
  exact W.bind (W.standAt (W.bind (H.mono fun ov h1 H1 => W.bind (W.holding (W.bind (W.standAt (W.bind (H1.mono fun old h2 H2 => W.bind (W.holding (H2.mono fun v h3 H3 => W.bind (W.standAt (W.operate (H3.mono fun new h4 H4 =>
    W.bind (W.standAt (W.bind (W.holding (H4.mono fun _ h5 q => W.bind (W.release (W.pure q)))))))))))))))))))
theorem W_assigntup {elts : List Expr} {n : Nat} {tpos : Pos} {value : Expr} {pos : Pos} {Q : Flow → Heap → Prop}
    (H : W prog w A (eval value env) h fun v h1 => W prog w A (assign (.Tuple elts n tpos) env v) h1 fun _ h2 => Q .next h2)
    (hs : swapsWithSole [.Tuple elts n tpos] value pos.line env = Pure.pure false := by rfl)
    (hsw : swappedStores [.Tuple elts n tpos] value env = Pure.pure none := by rfl) : W prog w A (exec (.Assign [.Tuple elts n tpos] value pos) env) h Q := by
  rw [exec_Assign, hs]
  refine W.bind (W.standAt (W.bind (W.pure (W.bind (H.mono fun v h1 H1 => ?_)))))
  rw [hsw]
  exact W.bind (W.pure (W.bind (H1.mono fun _ _ q => W.pure q)))
theorem W_int {i : Int} {n : Nat} {pos : Pos} {Q : Value → Heap → Prop} (q : ∀ t, Q (.int i t) h) : W prog w A (eval (.Constant (.int i) n pos) env) h Q :=
  W.any fun _ _ tk _ _ _ k => wpAny_Constant_int (k _ h _ (q tk))
theorem W_none {n : Nat} {pos : Pos} {Q : Value → Heap → Prop} (q : Q .none h) : W prog w A (eval (.Constant .none n pos) env) h Q := W.pure q
theorem W_bool {b : Bool} {n : Nat} {pos : Pos} {Q : Value → Heap → Prop} (q : Q (.bool b) h) : W prog w A (eval (.Constant (.bool b) n pos) env) h Q := W.pure q
theorem W_bytes {b : List UInt8} {n : Nat} {pos : Pos} {Q : Value → Heap → Prop} (q : ∀ t, Q (.bytes b.toArray t) h) : W prog w A (eval (.Constant (.bytes b) n pos) env) h Q :=
  W.any fun _ _ tk _ _ _ k => Constant_bytes (k _ h _ (q tk))
theorem W_binop {l r : Expr} {op : Operator} {pos : Pos} {Q : Value → Heap → Prop}
    (H : W prog w A (eval l env) h fun a h1 => W prog w A (eval r env) h1 fun b h2 => W prog w A (binaryOp op a b) h2 Q) : W prog w A (eval (.BinOp l op r pos) env) h Q := by
  rw [eval_BinOp]
  exact W.bind (H.mono fun a h1 H1 => W.bind (W.holding (H1.mono fun b h2 H2 => W.bind (W.standAt (W.operate H2)))))
theorem W_cmp {l r : Expr} {op : CmpOp} {pos : Pos} {Q : Value → Heap → Prop}
    (H : W prog w A (eval l env) h fun a h1 => W prog w A (eval r env) h1 fun b h2 => W prog w A (compareOp op a b) h2 Q)
    (hm : behindInMarks op r = false := by with_unfolding_all rfl) : W prog w A (eval (.Compare l [op] [r] pos) env) h Q := by
  rw [eval_Compare1, markedBehindIn_of_false hm]
  exact W.bind (H.mono fun a h1 H1 => W.bind (W.holding (H1.mono fun b h2 H2 => W.bind (W.standAt (W.operate H2)))))
theorem W.letTemp {base : Expr} {o r : Value} {Q : Unit → Heap → Prop} (q : Q () h) : W prog w A (letTemporaryGo base o r) h Q := W.any fun _ _ tk _ _ _ k => wpAny_letTemporaryGo (k _ h tk q)
theorem W_attrOf {value : Expr} {attr : Str} {pos : Pos} {Q : Value → Heap → Prop}
    (H : W prog w A (eval value env) h fun o h1 => W prog w A (getAttr o attr true) h1 Q)
    (he : eval (.Attribute value attr pos) env = (do
      let o ← eval value env
      standAt pos.atName
      let r ← holding [o] (getAttr o attr true)
      letTemporaryGo value o r
      Pure.pure r) := by with_unfolding_all rfl) : W prog w A (eval (.Attribute value attr pos) env) h Q := by
  rw [he]
  exact W.bind (H.mono fun o h1 H1 => W.bind (W.standAt (W.bind (W.holding (H1.mono fun r h2 q => W.bind (W.letTemp (W.pure q)))))))
theorem W_attr {x attr : Str} {xp pos : Pos} {Q : Value → Heap → Prop}
    (H : W prog w A (eval (.Name x xp) env) h fun o h1 => W prog w A (getAttr o attr true) h1 Q) : W prog w A (eval (.Attribute (.Name x xp) attr pos) env) h Q := W_attrOf H
theorem W_attr2 {v : Expr} {attr attr' : Str} {xp pos : Pos} {Q : Value → Heap → Prop}
    (H : W prog w A (eval (.Attribute v attr' xp) env) h fun o h1 => W prog w A (getAttr o attr true) h1 Q) : W prog w A (eval (.Attribute (.Attribute v attr' xp) attr pos) env) h Q := W_attrOf H
theorem W_sub {value slice : Expr} {pos : Pos} {Q : Value → Heap → Prop}
    (H : W prog w A (eval value env) h fun o h1 => W prog w A (eval slice env) h1 fun i h2 => W prog w A (subscriptTail value slice o i) h2 Q) : W prog w A (eval (.Subscript value slice pos) env) h Q := by
  rw [eval_Subscript]
  exact W.bind (H.mono fun o h1 H1 => W.bind (W.holding (H1.mono fun i h2 H2 => W.bind (W.standAt H2))))
theorem W_unary {op : UnaryOp} {x : Expr} {pos : Pos} {Q : Value → Heap → Prop} (H : W prog w A (eval x env) h fun v h1 => W prog w A (unaryOp op v) h1 Q) : W prog w A (eval (.UnaryOp op x pos) env) h Q := by
  rw [eval_UnaryOp]
  exact W.bind (H.mono fun v h1 H1 => W.bind (W.standAt (W.holding H1)))
theorem W_ifexp {test body orelse : Expr} {pos : Pos} {Q : Value → Heap → Prop}
    (H : W prog w A (isTrue test env (eval test env)) h fun c h1 => (c = true → W prog w A (eval body env) h1 Q) ∧ (c = false → W prog w A (eval orelse env) h1 Q)) : W prog w A (eval (.IfExp test body orelse pos) env) h Q := by
  rw [eval_IfExp]
  refine W.bind (H.mono fun c h1 H1 => ?_)
  cases c with
  | true => exact H1.1 rfl
  | false => exact H1.2 rfl
theorem W_bone {op : BoolOp} {e : Expr} {pos : Pos} {Q : Value → Heap → Prop} (H : W prog w A (eval e env) h Q) : W prog w A (eval (.BoolOp op [e] pos) env) h Q := H
theorem W_band {e₁ e₂ : Expr} {rest : List Expr} {pos : Pos} {Q : Value → Heap → Prop}
    (H : W prog w A (eval e₁ env) h fun v h1 => W prog w A (truthy v) h1 fun c h2 => (c = true → W prog w A (eval (.BoolOp .And (e₂ :: rest) pos) env) h2 Q) ∧ (c = false → Q v h2)) : W prog w A (eval (.BoolOp .And (e₁ :: e₂ :: rest) pos) env) h Q := by
  show W prog w A (do
    let v ← eval e₁ env
    standAt pos
    let c ← holding [v] (truthy v)
    match BoolOp.And, c with
    | .And, false | .Or, true => Pure.pure v
    | _, _ => boolOp pos .And (eval e₂ env :: evalEach rest env)) h Q
  refine W.bind (H.mono fun v h1 H1 => W.bind (W.standAt (W.bind (W.holding (H1.mono fun c h2 H2 => ?_)))))
  cases c with
  | true => exact H2.1 rfl
  | false => exact W.pure (H2.2 rfl)
theorem W_bor {e₁ e₂ : Expr} {rest : List Expr} {pos : Pos} {Q : Value → Heap → Prop}
    (H : W prog w A (eval e₁ env) h fun v h1 => W prog w A (truthy v) h1 fun c h2 => (c = true → Q v h2) ∧ (c = false → W prog w A (eval (.BoolOp .Or (e₂ :: rest) pos) env) h2 Q)) : W prog w A (eval (.BoolOp .Or (e₁ :: e₂ :: rest) pos) env) h Q := by
  show W prog w A (do
    let v ← eval e₁ env
    standAt pos
    let c ← holding [v] (truthy v)
    match BoolOp.Or, c with
    | .And, false | .Or, true => Pure.pure v
    | _, _ => boolOp pos .Or (eval e₂ env :: evalEach rest env)) h Q
  refine W.bind (H.mono fun v h1 H1 => W.bind (W.standAt (W.bind (W.holding (H1.mono fun c h2 H2 => ?_)))))
  cases c with
  | true => exact W.pure (H2.1 rfl)
  | false => exact H2.2 rfl
theorem W_chain {l r₁ r₂ : Expr} {op₁ op₂ : CmpOp} {pos : Pos} {Q : Value → Heap → Prop}
    (H : W prog w A (eval l env) h fun a h1 => W prog w A (compareChain pos a [op₁, op₂] [eval r₁ env, eval r₂ env]) h1 Q)
    (hm : lastMarks [op₁, op₂] [r₁, r₂] = false := by with_unfolding_all rfl) : W prog w A (eval (.Compare l [op₁, op₂] [r₁, r₂] pos) env) h Q := by
  show W prog w A (do compareChain pos (← eval l env) [op₁, op₂] (markedEach [op₁, op₂] [r₁, r₂] (evalEach [r₁, r₂] env))) h Q
  rw [markedEach_of_false _ _ _ hm]
  exact W.bind H
theorem T_plain {e : Expr} {whole : Sem Value} {Q : Bool → Heap → Prop} (H : W prog w A whole h fun v h1 => W prog w A (truthy v) h1 Q)
    (he : isTrue e env whole = (do let v ← whole; standAt e.pos; holding [v] (truthy v)) := by rfl) : W prog w A (isTrue e env whole) h Q := by
  rw [he]
  exact W.bind (H.mono fun v h1 H1 => W.bind (W.standAt (W.holding H1)))
theorem T_not {x : Expr} {pos : Pos} {whole : Sem Value} {Q : Bool → Heap → Prop} (H : W prog w A (isTrue x env (eval x env)) h fun c h1 => Q (!c) h1) : W prog w A (isTrue (.UnaryOp .Not x pos) env whole) h Q := by
  show W prog w A (do return !(← isTrue x env (eval x env))) h Q
  exact W.bind (H.mono fun c _ q => W.pure q)
theorem T_and0 {pos : Pos} {whole : Sem Value} {Q : Bool → Heap → Prop} (q : Q true h) : W prog w A (isTrue (.BoolOp .And [] pos) env whole) h Q := W.pure (a := true) q
theorem T_or0 {pos : Pos} {whole : Sem Value} {Q : Bool → Heap → Prop} (q : Q false h) : W prog w A (isTrue (.BoolOp .Or [] pos) env whole) h Q := W.pure (a := false) q
theorem T_and {x : Expr} {rest : List Expr} {pos : Pos} {whole : Sem Value} {Q : Bool → Heap → Prop}
    (H : W prog w A (isTrue x env (eval x env)) h fun c h1 => (c = true → W prog w A (isTrue (.BoolOp .And rest pos) env whole) h1 Q) ∧ (c = false → Q false h1)) : W prog w A (isTrue (.BoolOp .And (x :: rest) pos) env whole) h Q := by
  show W prog w A (do
    match BoolOp.And, ← isTrue x env (eval x env) with
    | .And, false => Pure.pure false
    | .Or, true => Pure.pure true
    | _, _ => allTrue .And rest env) h Q
  refine W.bind (H.mono fun c h1 H1 => ?_)
  cases c with
  | true => exact H1.1 rfl
  | false => exact W.pure (H1.2 rfl)
theorem T_or {x : Expr} {rest : List Expr} {pos : Pos} {whole : Sem Value} {Q : Bool → Heap → Prop}
    (H : W prog w A (isTrue x env (eval x env)) h fun c h1 => (c = true → Q true h1) ∧ (c = false → W prog w A (isTrue (.BoolOp .Or rest pos) env whole) h1 Q)) : W prog w A (isTrue (.BoolOp .Or (x :: rest) pos) env whole) h Q := by
  show W prog w A (do
    match BoolOp.Or, ← isTrue x env (eval x env) with
    | .And, false => Pure.pure false
    | .Or, true => Pure.pure true
    | _, _ => allTrue .Or rest env) h Q
  refine W.bind (H.mono fun c h1 H1 => ?_)
  cases c with
  | true => exact W.pure (H1.1 rfl)
  | false => exact H1.2 rfl
theorem T_cmp {l r : Expr} {op : CmpOp} {pos : Pos} {whole : Sem Value} {Q : Bool → Heap → Prop}
    (H : W prog w A (eval l env) h fun a h1 => W prog w A (eval r env) h1 fun b h2 => W prog w A (compareOp op a b) h2 fun c h3 => W prog w A (truthy c) h3 Q)
    (hm : behindInMarks op r = false := by with_unfolding_all rfl) : W prog w A (isTrue (.Compare l [op] [r] pos) env whole) h Q := by
  rw [isTrue_Compare1, markedBehindIn_of_false hm]
  exact W.bind (H.mono fun a h1 H1 => W.bind (W.holding (H1.mono fun b h2 H2 => W.bind (W.standAt (W.bind (W.operate (H2.mono fun c h3 H3 => W.holding H3)))))))
theorem T_bool {b : Bool} {Q : Bool → Heap → Prop} (q : Q b h) : W prog w A (truthy (.bool b)) h Q := W.any fun _ _ tk _ _ _ k => wpAny_truthy_bool (k _ h tk q)
theorem T_chain {l r₁ r₂ : Expr} {op₁ op₂ : CmpOp} {pos : Pos} {whole : Sem Value} {Q : Bool → Heap → Prop}
    (H : W prog w A (eval l env) h fun a h1 => W prog w A (testChain pos a [op₁, op₂] [eval r₁ env, eval r₂ env]) h1 Q)
    (hm : lastMarks [op₁, op₂] [r₁, r₂] = false := by with_unfolding_all rfl) : W prog w A (isTrue (.Compare l [op₁, op₂] [r₁, r₂] pos) env whole) h Q := by
  show W prog w A (do testChain pos (← eval l env) [op₁, op₂] (markedEach [op₁, op₂] [r₁, r₂] (evalEach [r₁, r₂] env))) h Q
  rw [markedEach_of_false _ _ _ hm]
  exact W.bind H
theorem CC_two {pos : Pos} {v : Value} {op₁ op₂ : CmpOp} {r₁ r₂ : Sem Value} {Q : Value → Heap → Prop}
    (H : W prog w A r₁ h fun b h1 => W prog w A (compareOp op₁ v b) h1 fun c h2 => W prog w A (truthy c) h2 fun y h3 => (y = true → W prog w A r₂ h3 fun b2 h4 => W prog w A (compareOp op₂ b b2) h4 Q) ∧ (y = false → Q c h3)) :
    W prog w A (compareChain pos v [op₁, op₂] [r₁, r₂]) h Q := by
  show W prog w A (do
    let rv ← holding [v] r₁
    standAt pos
    let c ← holding [v, rv] (compareOp op₁ v rv)
    release [v, rv] [c]
    if ← holding [c, rv] (truthy c) then (do
      let rv2 ← holding [rv] r₂
      standAt pos
      operate [rv, rv2] (compareOp op₂ rv rv2)) else Pure.pure c) h Q
  refine W.bind (W.holding (H.mono fun b h1 H1 => W.bind (W.standAt (W.bind (W.holding (H1.mono fun c h2 H2 => W.bind (W.release (W.bind (W.holding (H2.mono fun y h3 H3 => ?_)))))))))) 
  cases y with
  | true => exact W.bind (W.holding ((H3.1 rfl).mono fun b2 h4 H4 => W.bind (W.standAt (W.operate H4))))
  | false => exact W.pure (H3.2 rfl)
theorem TC_two {pos : Pos} {v : Value} {op₁ op₂ : CmpOp} {r₁ r₂ : Sem Value} {Q : Bool → Heap → Prop}
    (H : W prog w A r₁ h fun b h1 => W prog w A (compareOp op₁ v b) h1 fun c h2 => W prog w A (truthy c) h2 fun y h3 => (y = true → W prog w A r₂ h3 fun b2 h4 => W prog w A (compareOp op₂ b b2) h4 fun c2 h5 => W prog w A (truthy c2) h5 Q) ∧ (y = false → Q false h3)) :
    W prog w A (testChain pos v [op₁, op₂] [r₁, r₂]) h Q := by
  show W prog w A (do
    let rv ← holding [v] r₁
    standAt pos
    let c ← holding [v, rv] (compareOp op₁ v rv)
    release [v, rv] [c]
    if ← holding [c, rv] (truthy c) then (do
      let rv2 ← holding [rv] r₂
      standAt pos
      let c ← operate [rv, rv2] (compareOp op₂ rv rv2)
      holding [c] (truthy c)) else Pure.pure false) h Q
  refine W.bind (W.holding (H.mono fun b h1 H1 => W.bind (W.standAt (W.bind (W.holding (H1.mono fun c h2 H2 => W.bind (W.release (W.bind (W.holding (H2.mono fun y h3 H3 => ?_)))))))))) 
  cases y with
  | true => exact W.bind (W.holding ((H3.1 rfl).mono fun b2 h4 H4 => W.bind (W.standAt (W.bind (W.operate (H4.mono fun c2 h5 H5 => W.holding H5))))))
  | false => exact W.pure (H3.2 rfl)
end
end Mine
end
section
open PySem PySem.W PySem.Calls PyProof.Rows
set_option Elab.async false
set_option maxRecDepth 100000
set_option linter.unusedVariables false
namespace Mine
noncomputable def Keeps (h h' : Heap) (F : List Addr) : Prop := ∀ b o, h.get? b = some o → b ∉ F → h'.get? b = some o
theorem Keeps.refl {h : Heap} {F : List Addr} : Keeps h h F := fun _ _ e _ => e
theorem Keeps.mono {h h' : Heap} {F F' : List Addr} (k : Keeps h h' F) (s : ∀ a ∈ F, a ∈ F') : Keeps h h' F' := fun b o e n => k b o e fun m => n (s b m)
theorem Keeps.nil {h h' : Heap} {F : List Addr} (k : Keeps h h' []) : Keeps h h' F := k.mono fun _ m => nomatch m
theorem Keeps.trans {h₁ h₂ h₃ : Heap} {F : List Addr} (a : Keeps h₁ h₂ F) (b : Keeps h₂ h₃ F) : Keeps h₁ h₃ F := fun c o e n => b c o (a c o e n) n
theorem Keeps.trans' {h₁ h₂ h₃ : Heap} {F D : List Addr} (a : Keeps h₁ h₂ F) (b : Keeps h₂ h₃ D) (d : ∀ x ∈ D, x ∈ F ∨ h₁.get? x = none) : Keeps h₁ h₃ F := fun c o e n =>
  b c o (a c o e n) fun m => by
    rcases d c m with q | q
    · exact n q
    · rw [e] at q; cases q
theorem Keeps.push {h : Heap} {o : Obj} : Keeps h (h.push o) [] := fun _ _ e _ => Heap.get?_push_of_some _ e
theorem Keeps.grown {h h' : Heap} (k : Keeps h h' []) : Grown h h' := fun b o e => k b o e (fun m => nomatch m)
inductive Put {β : Type} (x : Str) (v : β) : List (Str × β) → List (Str × β) → Prop
  | head {u : β} {r : List (Str × β)} : Put x v ((x, u) :: r) ((x, v) :: r)
  | tail {p : Str × β} {r r' : List (Str × β)} (q : Put x v r r') : Put x v (p :: r) (p :: r')
theorem Put.keys {β : Type} {x : Str} {v : β} {l l' : List (Str × β)} (q : Put x v l l') : l'.map (·.1) = l.map (·.1) := by
  induction q with
  | head => rfl
  | tail _ ih => simp only [List.map_cons, ih]
theorem Put.len {β : Type} {x : Str} {v : β} {l l' : List (Str × β)} (q : Put x v l l') : l'.length = l.length := by
  induction q with
  | head => rfl
  | tail _ ih => simp only [List.length_cons, ih]
theorem lookup_ne {β : Type} {x : Str} {l : List (Str × β)} (n : x ∉ l.map (·.1)) : l.lookup x = none := by
  induction l with
  | nil => rfl
  | cons p r ih =>
    simp only [List.map_cons, List.mem_cons, not_or] at n
    rw [List.lookup_cons]
    have : (x == p.1) = false := by simpa using n.1
    rw [this]; exact ih n.2
theorem lookup_mem {β : Type} {x : Str} {v : β} {l : List (Str × β)} (d : (l.map (·.1)).Nodup) (m : (x, v) ∈ l) : l.lookup x = some v := by
  induction l with
  | nil => cases m
  | cons p r ih =>
    rw [List.map_cons, List.nodup_cons] at d
    rw [List.lookup_cons]
    rcases List.mem_cons.mp m with e | m
    · subst e; simp
    · have : (x == p.1) = false := by
        simp only [beq_eq_false_iff_ne, ne_eq]
        rintro rfl
        exact d.1 (List.mem_map_of_mem (f := (·.1)) m)
      rw [this]; exact ih d.2 m
theorem Put.lookup {β : Type} {x : Str} {v : β} {l l' : List (Str × β)} (q : Put x v l l') (d : (l.map (·.1)).Nodup) (y : Str) : l'.lookup y = if y = x then some v else l.lookup y := by
  induction q with
  | @head u r =>
    rw [List.lookup_cons, List.lookup_cons]
    by_cases h : y = x
    · subst h; simp
    · have : (y == x) = false := by simpa using h
      simp only [this, if_neg h]
  | @tail p r r' q ih =>
    rw [List.map_cons, List.nodup_cons] at d
    rw [List.lookup_cons, List.lookup_cons, ih d.2]
    by_cases hp : y = p.1
    · have hx : ¬ y = x := by
        rintro rfl
        have : y ∈ r.map (·.1) := by
          clear ih d
          induction q with
          | head => simp
          | tail _ ih2 => exact List.mem_cons_of_mem _ (ih2)
        exact d.1 (hp ▸ this)
      simp [hp, hx] at *
      intro e; exact absurd (e ▸ rfl) hx
    · have : (y == p.1) = false := by simpa using hp
      simp only [this]
noncomputable def dictO (es : Array DictEntry) (ep : Nat) : Obj := { cls := .type "dict", data := .dict es ep }
noncomputable def ADict (h : Heap) (a : Addr) (al : List (Str × Value)) : Prop :=
  ∃ es ep, h.get? a = some (dictO es ep) ∧ StrKeys es ∧ (∀ x, nsFind es x = al.lookup x) ∧ es.size ≤ al.length
theorem ADict.keeps {h h' : Heap} {F : List Addr} {a : Addr} {al : List (Str × Value)} (D : ADict h a al) (k : Keeps h h' F) (n : a ∉ F) : ADict h' a al :=
  let ⟨es, ep, e, r⟩ := D; ⟨es, ep, k _ _ e n, r⟩
theorem ADict.some {h : Heap} {a : Addr} {al : List (Str × Value)} (D : ADict h a al) : ∃ o, h.get? a = some o := let ⟨_, _, e, _⟩ := D; ⟨_, e⟩
theorem ADict.empty {h : Heap} {a : Addr} (e : h.get? a = Option.some emptyDict) : ADict h a [] := ⟨#[], 0, e, fun _ he => by simp at he, fun _ => rfl, Nat.le_refl _⟩
theorem put_obj {es : Array DictEntry} {ep : Nat} (name : Str) (hs : Int) (t : Tok) (v : Value) (sk : StrKeys es) :
    ∃ es' ep', Obj.putName name hs (.str name t) v (dictO es ep) = dictO es' ep' ∧ StrKeys es' ∧ (∀ x, nsFind es' x = if x = name then some v else nsFind es x) ∧
      es'.size ≤ es.size + 1 ∧ (nsFind es name ≠ none → es'.size = es.size) := by
  rw [Obj.putName_eq]
  unfold Obj.putNameByArray dictO
  dsimp only
  cases hi : es.findIdx? (·.key.isStr name) with
  | some i =>
    refine ⟨_, ep, rfl, sk.modify _ _, fun x => ?_, ?_, fun _ => ?_⟩
    · exact findBy_modify (fun n v => v.isStr n) Value.isStr_inj es name x v i hi
    · simp
    · simp
  | none =>
    refine ⟨_, ep + 1, rfl, sk.push _ _ _ _, fun x => ?_, ?_, fun hn => ?_⟩
    · exact findBy_push (fun n v => v.isStr n) es name x _ _ v (fun y => by
        show (name == y) = decide (y = name)
        by_cases h : y = name
        · subst h; simp
        · have : ¬ name = y := fun e => h e.symm
          simp [h, this]) hi
    · simp
    · exfalso
      apply hn
      unfold nsFind
      rw [findBy_of_findIdx?, hi]
section
variable {A : Around} {h : Heap} {K : Frag}
theorem look_adict {es : Array DictEntry} {ep : Nat} {name : Str} (sk : StrKeys es) : lookIn name (dictO es ep) = some (nsFind es name) := by
  unfold lookIn dictO
  dsimp only
  have hany : es.toList.any (·.refKey) = false := by
    rw [List.any_eq_false]; intro e he; obtain ⟨n, t, h⟩ := sk e (Array.mem_toList_iff.mp he); simp [DictEntry.refKey, h]
  unfold nsFind findBy
  rw [← Array.find?_toList]
  cases es.toList.find? (fun e => e.key.isStr name) with
  | some e => rfl
  | none => simp [hany]
noncomputable def isOk (C : Addr) (K : Frag) : Bool := plainOver K C && hasDictIn K C && plainGet K C Str.empty && findIn K (.ref C) "__setattr__" == some (some (.builtin "object.__setattr__"))
structure Inst (h : Heap) (x dx C : Addr) (al : List (Str × Value)) : Prop where
  ob : h.get? x = some (instObj C dx)
  ad : ADict h dx al
theorem Inst.keeps {h h' : Heap} {F : List Addr} {x dx C : Addr} {al : List (Str × Value)} (I : Inst h x dx C al) (k : Keeps h h' F) (n : x ∉ F) (n' : dx ∉ F) : Inst h' x dx C al :=
  ⟨k _ _ I.ob n, I.ad.keeps k n'⟩
theorem Inst.ne {x dx C : Addr} {al : List (Str × Value)} (I : Inst h x dx C al) : x ≠ dx := by
  rintro rfl
  obtain ⟨es, ep, e, _⟩ := I.ad
  have := I.ob.symm.trans e
  simp [dictO] at this
theorem Inst.at {x dx C : Addr} {al : List (Str × Value)} (I : Inst h x dx C al) : ∃ es ep, h.get? dx = some (dictO es ep) ∧ StrKeys es ∧ (∀ y, nsFind es y = al.lookup y) ∧ es.size ≤ al.length ∧ InstAt h x (instObj C dx) C (some (dictO es ep)) := by
  obtain ⟨es, ep, e, sk, f, z⟩ := I.ad
  exact ⟨es, ep, e, sk, f, z, I.ob, rfl, rfl, e⟩
theorem W_get {x dx C : Addr} {al : List (Str × Value)} {name : Str} {v : Value} {expr : Bool} {Q : Value → Heap → Prop} (X : K.In h) (I : Inst h x dx C al) (hc : isOk C K = true)
    (ha : findIn K (.ref C) name = some none) (hl : al.lookup name = some v) (hv : handedIn v = true) (q : Q v h) : W prog w A (getAttr (.ref x) name expr) h Q := by
  obtain ⟨es, ep, e, sk, f, z, I'⟩ := I.at
  simp only [isOk, Bool.and_eq_true, beq_iff_eq] at hc
  obtain ⟨⟨⟨c1, c2⟩, c3⟩, c4⟩ := hc
  have hg : plainGet K C name = true := c3
  obtain ⟨cd, hcd, hd⟩ := any_some (x := clsIn K C) c2
  have ho : W.ownOf cd (some (dictO es ep)) name = some (some v) := by
    unfold W.ownOf
    rw [hd, if_pos rfl]
    dsimp only
    rw [look_adict sk, f, hl]
  have hf : findObj K C (some (dictO es ep)) name = some (.value v) := by
    unfold findObj
    rw [hcd, Option.bind_some, ha, Option.bind_some, Option.bind_some, Option.bind_some]
    dsimp only
    rw [ho, Option.bind_some]
  exact W.any fun g d tk os QQ EE k => get_value (s := ⟨h, g, d, tk, os⟩) X I' (plainGet_of hg).1 hf hv (k _ _ _ q)
theorem W_set {x dx C : Addr} {al al' : List (Str × Value)} {name : Str} {v : Value} {Q : Unit → Heap → Prop} (X : K.In h) (I : Inst h x dx C al) (hc : isOk C K = true)
    (ht : takerIn K C name = some none) (hz : al.length ≤ 1000) (hp : ∀ y, al'.lookup y = if y = name then some v else al.lookup y) (hl : al.length ≤ al'.length) (hl' : al.lookup name = none → al.length + 1 ≤ al'.length)
    (q : ∀ h', Keeps h h' [dx] → Inst h' x dx C al' → Q () h') :
    W prog w A (setAttr (.ref x) name v) h Q := by
  obtain ⟨es, ep, e, sk, f, z, I'⟩ := I.at
  have hne := I.ne
  simp only [isOk, Bool.and_eq_true, beq_iff_eq] at hc
  obtain ⟨⟨⟨c1, c2⟩, c3⟩, c4⟩ := hc
  refine W.any fun g d tk os QQ EE k => ?_
  refine set_plain (s := ⟨h, g, d, tk, os⟩) X I' c4 (osa_open (s := ⟨h, g, d, tk + 1, os⟩) X I' c1 ht fun b => ?_)
  obtain ⟨cd, hcd, hd⟩ := any_some (x := clsIn K C) c2
  obtain ⟨es', ep', ep1, sk', f', z', zz⟩ := put_obj (es := es) (ep := ep) name (PyData.keyHash w.params name) (tk + 1) v sk
  have hx := I.ob
  refine wpAny_bind (wpAny_pure (wpAny_bind (wpAny_bind (wpAny_loadPart hx (wpAny_bind ((looks_clsIn X hcd).here ?_))))))
  rw [hd]
  refine wpAny_pure (a := some dx) (wpAny_bind (wpAny_pure (wpAny_bind ?_)))
  unfold nsSet
  refine wpAny_bind (wpAny_bind (wpAny_askSetting (wpAny_pure (wpAny_bind (wpAny_mkText (wpAny_bind (wpAny_loadPart e ?_)))))))
  have hany : es.any (·.refKey) = false := by
    rw [Array.any_eq_false']; intro e he; obtain ⟨n, t, h⟩ := sk e he; simp [DictEntry.refKey, h]
  show wpAny _ _ (if aRefKeyMayBeTheName name es = true then _ else _) _ _ _
  rw [aRefKeyMayBeTheName_eq, aRefKeyMayBeTheNameByArray, hany, Bool.and_false]
  refine wpAny_updatePart e ?_
  have D' : (h.update dx (Obj.putName name (PyData.keyHash w.params name) (.str name (tk + 1)) v)).get? dx = some (dictO es' ep') := by
    rw [Heap.get?_update_self _ e (by rw [ep1]; rfl), ep1]
  refine wpAny_bind (wpAny_lookBehind D' (pastItsLine_dict (by rw [sizeLine_eq]; omega)) ?_)
  refine wpAny_pure (k _ _ _ ?_)
  have hk : Keeps h (h.update dx (Obj.putName name (PyData.keyHash w.params name) (.str name (tk + 1)) v)) [dx] := fun b o eb nb =>
    (Heap.get?_update_ne _ _ _ _ fun q => nb (by rw [q]; exact List.mem_singleton_self _)).trans eb
  refine q _ hk ⟨hk _ _ hx (by simpa using hne), es', ep', D', sk', fun y => by rw [f', f, hp], ?_⟩
  by_cases hn : al.lookup name = none
  · have := hl' hn; omega
  · rw [zz (by rw [f]; exact hn)]; omega
theorem W_setPut {x dx C : Addr} {al al' : List (Str × Value)} {name : Str} {v : Value} {Q : Unit → Heap → Prop} (X : K.In h) (I : Inst h x dx C al) (hc : isOk C K = true)
    (ht : takerIn K C name = some none) (hz : al.length ≤ 1000) (hd : (al.map (·.1)).Nodup) (hp : Put name v al al')
    (q : ∀ h', Keeps h h' [dx] → Inst h' x dx C al' → Q () h') : W prog w A (setAttr (.ref x) name v) h Q := by
  refine W_set X I hc ht hz (hp.lookup hd) (Nat.le_of_eq hp.len.symm) (fun e => ?_) q
  exfalso
  have h1 := hp.lookup hd name
  have : name ∈ al.map (·.1) := by
    rw [← hp.keys]
    clear h1 e hd I q
    induction hp with
    | head => simp
    | tail _ ih => exact List.mem_cons_of_mem _ (ih (by simp only [List.length_cons] at hz; omega))
  obtain ⟨p, hp1, hp2⟩ := List.mem_map.mp this
  have := lookup_mem hd (x := name) (v := p.2) (by rw [← hp2]; exact hp1)
  rw [e] at this; cases this
theorem W_setCons {x dx C : Addr} {al : List (Str × Value)} {name : Str} {v : Value} {Q : Unit → Heap → Prop} (X : K.In h) (I : Inst h x dx C al) (hc : isOk C K = true)
    (ht : takerIn K C name = some none) (hz : al.length ≤ 1000)
    (q : ∀ h', Keeps h h' [dx] → Inst h' x dx C ((name, v) :: al) → Q () h') : W prog w A (setAttr (.ref x) name v) h Q := by
  refine W_set X I hc ht hz (fun y => ?_) (Nat.le_succ _) (fun _ => Nat.le_refl _) q
  rw [List.lookup_cons]
  by_cases hy : y = name
  · subst hy; simp
  · have : (y == name) = false := by simpa using hy
    simp [this, hy]
end
end Mine
end
section
open PySem PySem.W PySem.Calls PyProof.Rows
set_option Elab.async false
set_option maxRecDepth 100000
set_option linter.unusedVariables false
namespace Mine
noncomputable abbrev Fra := List (Str × Option Value)
structure FrOK (env : Env) (fr : Fra) : Prop where
  kind : env.scope.kind = .function
  glob : env.globals = mainGlobals
  blt : env.builtins = builtinsNs
  loc : ∀ p ∈ fr, env.scope.names.lookup p.1 = some .local
  nd : (fr.map (·.1)).Nodup
  dbg : ∀ p ∈ fr, (p.1 == ("__debug__" : Str)) = false
theorem keys_all {fr fr' : Fra} {q : Str → Prop} (e : fr'.map (·.1) = fr.map (·.1)) (k : ∀ p ∈ fr, q p.1) : ∀ p ∈ fr', q p.1 := fun p hp => by
  have : p.1 ∈ fr.map (·.1) := e ▸ List.mem_map_of_mem (f := (·.1)) hp
  obtain ⟨p', h1, h2⟩ := List.mem_map.mp this
  rw [← h2]; exact k p' h1
theorem FrOK.put {env : Env} {fr fr' : Fra} {x : Str} {v : Option Value} (o : FrOK env fr) (q : Put x v fr fr') : FrOK env fr' :=
  ⟨o.kind, o.glob, o.blt, keys_all (q := fun x => env.scope.names.lookup x = some .local) q.keys o.loc, q.keys ▸ o.nd, keys_all (q := fun x => (x == ("__debug__" : Str)) = false) q.keys o.dbg⟩
structure St (hT hE : Heap) (F : List Addr) (env : Env) (fr : Fra) (P : Heap → Prop) (h : Heap) : Prop where
  ns : h.Ns env.locals (fun x => (fr.lookup x).join)
  ok : FrOK env fr
  kp : Keeps hE h F
  fL : hE.get? env.locals = none
  up : Grown hT h
  tE : Grown hT hE
  tF : ∀ a ∈ F, hT.get? a = none
  p : P h
  ps : ∀ h h', Keeps h h' [env.locals] → P h → P h'
section
variable {A : Around} {K : Frag} {hE h h' : Heap} {F D : List Addr} {env : Env} {fr fr' : Fra} {P P' : Heap → Prop}
theorem St.locs (S : St hT hE F env fr P h) : ∃ o, h.get? env.locals = some o := let ⟨o, _, _, e, _⟩ := S.ns; ⟨o, e⟩
theorem St.X (S : St hT hE F env fr P h) (G : Gr K hT) : K.In h := G.X.keeps S.up
theorem St.step (S : St hT hE F env fr P h) (k : Keeps h h' D) (hD : ∀ a ∈ D, a ∈ F ∨ hE.get? a = none) (hL : env.locals ∉ D)
    (p : P' h') (ps : ∀ h h', Keeps h h' [env.locals] → P' h → P' h') : St hT hE F env fr P' h' where
  ns := let ⟨o, es, ep, e, r⟩ := S.ns; ⟨o, es, ep, k _ _ e hL, r⟩
  ok := S.ok
  kp := S.kp.trans' k hD
  fL := S.fL
  up := fun b o e => k b o (S.up b o e) fun m => by
    rcases hD b m with q | q
    · rw [S.tF b q] at e; cases e
    · rw [S.tE b o e] at q; cases q
  tE := S.tE
  tF := S.tF
  p := p
  ps := ps
theorem St.same (S : St hT hE F env fr P h) (k : Keeps h h' []) : St hT hE F env fr P h' :=
  S.step k (fun _ m => nomatch m) (fun m => nomatch m) (S.ps _ _ k.nil S.p) S.ps
theorem St.turn (S : St hT hE F env fr P h) (p : P' h) (ps : ∀ h h', Keeps h h' [env.locals] → P' h → P' h') : St hT hE F env fr P' h := { S with p := p, ps := ps }
theorem L_load {x : Str} {v : Value} {Q : Value → Heap → Prop} (S : St hT hE F env fr P h) (hm : (x, some v) ∈ fr) (q : Q v h) : W prog w A (loadName env x) h Q :=
  W.any fun g d tk os QQ EE k => wpAny_loadName_local (s := ⟨h, g, d, tk, os⟩) S.ok.kind (S.ok.loc _ hm) S.ns (by
    show (fr.lookup x).join = some v
    rw [lookup_mem S.ok.nd hm]; rfl) (k _ _ _ q)
theorem W_loc {x : Str} {pos : Pos} {v : Value} {Q : Value → Heap → Prop} (S : St hT hE F env fr P h) (hm : (x, some v) ∈ fr) (q : Q v h) : W prog w A (eval (.Name x pos) env) h Q := by
  rw [eval_Name env x pos (S.ok.dbg _ hm)]
  exact W.bind (W.standAt (L_load S hm q))
theorem Put.mem {β : Type} {x : Str} {v : β} {l l' : List (Str × β)} (q : Put x v l l') : ∃ u, (x, u) ∈ l := by
  induction q with
  | @head u r => exact ⟨u, .head _⟩
  | tail _ ih => obtain ⟨u, m⟩ := ih; exact ⟨u, .tail _ m⟩
theorem W_store {x : Str} {v : Value} {Q : Unit → Heap → Prop} (S : St hT hE F env fr P h) (hp : Put x (some v) fr fr') (q : ∀ h', St hT hE F env fr' P h' → Q () h') : W prog w A (storeName env x v) h Q :=
  W.any fun g d tk os QQ EE k => by
    obtain ⟨u, m⟩ := hp.mem
    refine wpAny_storeName_local (s := ⟨h, g, d, tk, os⟩) (S.ok.loc _ m) S.ns (fun h' hn hs => k _ _ _ (q h' ?_)) (by
      show (env.scope.kind == .class || (env.scope.kind == .module && env.locals != env.globals)) = false
      rw [S.ok.kind]; rfl)
    have hk : Keeps h h' [env.locals] := fun b o e nb => (hs.2 b fun e' => nb (by rw [e']; exact List.mem_singleton_self _)).trans e
    refine ⟨?_, S.ok.put hp, ?_, S.fL, ?_, S.tE, S.tF, S.ps _ _ hk S.p, S.ps⟩
    · have e : (fun y => (fr'.lookup y).join) = fun y => if y = x then some v else (fr.lookup y).join := by
        funext y
        rw [hp.lookup S.ok.nd y]
        by_cases hy : y = x <;> simp [hy]
      rw [e]; exact hn
    · exact fun b o e nb => hk b o (S.kp b o e nb) fun mb => by
        rw [List.mem_singleton] at mb; subst mb; rw [S.fL] at e; cases e
    · exact fun b o e => hk b o (S.up b o e) fun mb => by
        rw [List.mem_singleton] at mb; subst mb; cases S.fL.symm.trans (S.tE _ _ e)
noncomputable def GV (K : Frag) (x : Str) (v : Value) : Prop :=
  (x == ("__debug__" : Str)) = false ∧ (nsIn K mainGlobals x = some (some v) ∨ (nsIn K mainGlobals x = some none ∧ bootBuiltins x = some v ∧ x ≠ ("__name__" : Str)))
theorem W_glob {x : Str} {pos : Pos} {v : Value} {Q : Value → Heap → Prop} (S : St hT hE F env fr P h) (G : Gr K hT) (hv : GV K x v) (hx : env.kindOf x = some .globalImplicit) (q : Q v h) : W prog w A (eval (.Name x pos) env) h Q :=
  W.any fun g d tk os QQ EE k => by
    obtain ⟨mg, hg⟩ := G.g
    obtain ⟨mb, hb, bb⟩ := G.b
    refine Name_function_global S.ok.kind hx ?_ hv.1
    rcases hv.2 with e | ⟨e1, e2, e3⟩
    · exact loadGlobal_global (mg := mg) (by rw [S.ok.glob]; exact hg.keeps S.up) (mg_of G.X hg e) (k _ _ _ q)
    · exact loadGlobal_builtin (mg := mg) (mb := mb) (by rw [S.ok.glob]; exact hg.keeps S.up) (mg_none_of G.X hg e1) (by rw [S.ok.blt]; exact hb.keeps S.up) ((bb x e3).trans e2) (k _ _ _ q)
noncomputable def Room (A : Around) (n : Nat) : Prop := A.depth + n < recursionLimit ∧ A.units + 10 * n < cLine ∧ A.handled = none
theorem Room.le {m n : Nat} (r : Room A n) (l : m ≤ n) : Room A m := ⟨by have := r.1; omega, by have := r.2.1; omega, r.2.2⟩
theorem Room.deeper {n : Nat} (r : Room A (n + 1)) : Room (A.deeper env) n := ⟨by have := r.1; show A.depth + 1 + n < _; omega, by have := r.2.1; show A.units + 3 + 10 * n < _; omega, r.2.2⟩
noncomputable def retv : Flow → Value
  | .ret v => v
  | _ => .none
theorem W_enter {f : Addr} {fd : FuncData} {oc : Value} {od : Option Addr} {osl : Array (Option Value)} {body : List Stmt} {args : List Value} {kw : List (Str × Value)} {binds : List (Str × Value)} {n : Nat} {P : Addr → Heap → Prop} {Q : Value → Heap → Prop}
    (G : Gr K hT) (up : Grown hT h) (room : Room A (n + 1)) (hK : K.lookup f = some ⟨oc, od, .func fd, osl⟩) (hcd : codeIn K fd.code fd.qualname = true) (hbody : fd.body = .stmts body)
    (hbind : ∀ s : Shared, s.heap = h → BindsTo s fd ⟨args, kw⟩ binds) (hfr : ∀ x, binds.reverse.lookup x = (fr.lookup x).join) (hok : ∀ L, FrOK (callEnv fd L f) fr)
    (hF : ∀ a ∈ F, hT.get? a = none) (p : ∀ L h1, h.get? L = none → Keeps h h1 [] → P L h1) (ps : ∀ L h1 h2, Keeps h1 h2 [L] → P L h1 → P L h2)
    (hl : ∀ y ∈ binds, fd.scope.names.lookup y.1 = some .local)
    (H : ∀ L h1, St hT h F (callEnv fd L f) fr (P L) h1 → Room (A.deeper (callEnv fd L f)) n → W prog w (A.deeper (callEnv fd L f)) (execs body (callEnv fd L f)) h1 fun fl h2 => Q (retv fl) h2)
    (hcell : ∀ x ∈ fd.scope.names, x.2 ≠ .cell) (hco : fd.scope.isCoroutine = false) (hgen : fd.scope.isGenerator = false) (hk : fd.scope.kind = .function) :
    W prog w A (call (.ref f) args kw) h Q := by
  refine W.call (CW.tree rfl ?_)
  show W _ _ A.in1 (callAny (.ref f) ⟨args, kw⟩) _ _
  have hfo : h.get? f = some ⟨oc, od, .func fd, osl⟩ := up _ _ (G.X _ _ hK)
  have e0 : h.get? h.objs.size = none := by
    cases q : h.get? h.objs.size with
    | none => rfl
    | some o => exact absurd (Heap.lt_size q) (Nat.lt_irrefl _)
  obtain ⟨c, oc', vs, tq, hc, hoc, hdc, hq⟩ := codeRec_of (G.X.keeps up) hcd
  unfold callAny
  refine W.bind (W.load hfo ?_)
  simp only [callFunction, hco, hgen, hbody, hc]
  refine W.bind (m := field (.ref c) 1) (W.any fun _ _ tk _ _ _ k => wpAny_field hoc hdc hq (k _ h tk ?_))
  refine W.bind (W.pure (W.bind (W.any fun g d tk os QQ EE k => hbind ⟨h, g, d, tk, os⟩ rfl _ _ _ _ (k _ h tk ?_))))
  refine W.bind (W.any fun g d tk os QQ EE k => wpAny_newFunctionEnv hcell hl (fun h1 hns hs => k _ _ _ ?_) hk)
  have hk1 : ∀ b o, h.get? b = some o → h1.get? b = some o := fun b o e => hs.extBut b o (Nat.ne_of_lt (Heap.lt_size e)) (Heap.get?_push_of_some _ e)
  have hlim := (G.lim.keeps up).fresh _ hs
  refine W.bind (W.any fun g d tk os QQ EE k => wpAny_enterFrame hlim (by have := room.1; show A.depth < _; omega) (k _ _ _ (W.pure ⟨rfl, ?_⟩)))
  have S : St hT h F (callEnv fd h.objs.size f) fr (P h.objs.size) h1 := ⟨by
      have e : (fun x => binds.reverse.lookup x) = fun x => (fr.lookup x).join := funext hfr
      rw [e] at hns; exact hns, hok _, fun b o e _ => hk1 b o e, e0, fun b o e => hk1 b o (up b o e), up, hF, p _ _ e0 fun b o e _ => hk1 b o e, ps _⟩
  have fin := H _ h1 S room.deeper
  have ee : newEnv fd.scope h.objs.size fd.globals fd.closure (fd.qualname ++ ".<locals>.") (some f) (.ref c) none fd.builtins = callEnv fd h.objs.size f := by unfold callEnv; rw [hc]
  rw [ee]
  refine CW.tree rfl ?_
  show W _ _ (A.deeper (callEnv fd h.objs.size f)) (do point; match ← (execs body (callEnv fd h.objs.size f)).onRaise (leaving (callEnv fd h.objs.size f)) with | .ret v => ret v | _ => ret .none) _ _
  refine W.bind (W.point (W.bind (W.onRaise (fin.mono fun fl h2 q => ?_))))
  cases fl <;> exact W.pure ⟨_, rfl, q⟩
end
noncomputable def nodupB : List Str → Bool
  | [] => true
  | x :: r => !r.contains x && nodupB r
theorem nodupB_iff : ∀ {l : List Str}, nodupB l = true → l.Nodup
  | [], _ => List.nodup_nil
  | x :: r, e => by
    simp only [nodupB, Bool.and_eq_true, Bool.not_eq_true'] at e
    refine List.nodup_cons.mpr ⟨fun m => ?_, nodupB_iff e.2⟩
    have := List.contains_iff_mem.mpr m
    rw [e.1] at this; cases this
noncomputable def fnCheck (fd : FuncData) (ks : List Str) : Bool :=
  fd.scope.kind == .function && fd.globals == mainGlobals && fd.builtins == builtinsNs && ks.all (fun k => fd.scope.names.lookup k == some .local && !(k == ("__debug__" : Str))) && nodupB ks &&
  fd.scope.names.all (fun x => x.2 != .cell) && !fd.scope.isCoroutine && !fd.scope.isGenerator && fd.closure.isEmpty
theorem fnCheck_ok {fd : FuncData} {ks : List Str} (e : fnCheck fd ks = true) {fr : Fra} (hk : fr.map (·.1) = ks) (f : Addr) : ∀ L, FrOK (callEnv fd L f) fr := fun L => by
  simp only [fnCheck, Bool.and_eq_true, beq_iff_eq, List.all_eq_true, Bool.not_eq_true'] at e
  obtain ⟨⟨⟨⟨⟨⟨⟨⟨e1, e2⟩, e3⟩, e4⟩, e5⟩, e6⟩, e7⟩, e8⟩, e9⟩ := e
  refine ⟨e1, e2, e3, fun p hp => ?_, hk ▸ nodupB_iff e5, fun p hp => ?_⟩
  · exact (e4 p.1 (hk ▸ List.mem_map_of_mem (f := (·.1)) hp)).1
  · exact (e4 p.1 (hk ▸ List.mem_map_of_mem (f := (·.1)) hp)).2
theorem fnCheck_more {fd : FuncData} {ks : List Str} (e : fnCheck fd ks = true) : fd.scope.kind = .function ∧ (∀ x ∈ fd.scope.names, x.2 ≠ .cell) ∧ fd.scope.isCoroutine = false ∧ fd.scope.isGenerator = false := by
  simp only [fnCheck, Bool.and_eq_true, beq_iff_eq, List.all_eq_true, Bool.not_eq_true', bne_iff_ne] at e
  obtain ⟨⟨⟨⟨⟨⟨⟨⟨e1, e2⟩, e3⟩, e4⟩, e5⟩, e6⟩, e7⟩, e8⟩, e9⟩ := e
  exact ⟨e1, e6, e7, e8⟩
noncomputable def frOf (binds : List (Str × Value)) (rest : List Str) : Fra := binds.map (fun b => (b.1, some b.2)) ++ rest.map fun x => (x, none)
theorem frOf_keys (binds : List (Str × Value)) (rest : List Str) : (frOf binds rest).map (·.1) = binds.map (·.1) ++ rest := by
  unfold frOf
  rw [List.map_append, List.map_map, List.map_map]
  congr 1
  exact (List.map_congr_left (fun _ _ => rfl)).trans (List.map_id rest)
theorem frOf_look {binds : List (Str × Value)} {rest : List Str} (d : (binds.map (·.1)).Nodup) (x : Str) : binds.reverse.lookup x = ((frOf binds rest).lookup x).join := by
  by_cases hx : x ∈ binds.map (·.1)
  · obtain ⟨p, h1, h2⟩ := List.mem_map.mp hx
    have e1 : binds.reverse.lookup x = some p.2 := by
      refine lookup_mem (by rw [List.map_reverse]; exact (List.reverse_perm _).nodup_iff.mpr d) (List.mem_reverse.mpr ?_)
      rw [← h2]; exact h1
    have e2 : (frOf binds rest).lookup x = some (some p.2) := by
      unfold frOf
      have : (binds.map fun b => (b.1, some b.2)).lookup x = some (some p.2) := by
        refine lookup_mem (by rw [List.map_map]; exact d) ?_
        rw [← h2]; exact List.mem_map_of_mem (f := fun b : Str × Value => (b.1, some b.2)) h1
      rw [List.lookup_append, this]; rfl
    rw [e1, e2]; rfl
  · have e1 : binds.reverse.lookup x = none := lookup_ne (by rw [List.map_reverse, List.mem_reverse]; exact hx)
    have e2 : (binds.map fun b => (b.1, some b.2)).lookup x = none := lookup_ne (by rw [List.map_map]; exact hx)
    rw [e1]
    unfold frOf
    rw [List.lookup_append, e2]
    have : ∀ l : List Str, ((l.map fun x => ((x, none) : Str × Option Value)).lookup x).join = none := by
      intro l
      induction l with
      | nil => rfl
      | cons y l ih =>
        rw [List.map_cons, List.lookup_cons]
        cases x == y <;> simp_all
    simpa using (this rest).symm
section
variable {A : Around} {K : Frag} {h : Heap} {F : List Addr} {fr : Fra}
theorem W_fn {f : Addr} {fd : FuncData} {oc : Value} {od : Option Addr} {osl : Array (Option Value)} {body : List Stmt} {args : List Value} {binds : List (Str × Value)} {rest : List Str} {n : Nat} {P : Addr → Heap → Prop} {Q : Value → Heap → Prop} {ks : List Str}
    (G : Gr K hT) (up : Grown hT h) (room : Room A (n + 1)) (hK : K.lookup f = some ⟨oc, od, .func fd, osl⟩) (hcd : codeIn K fd.code fd.qualname = true) (hbody : fd.body = .stmts body)
    (hbind : bindArgs fd ⟨args, []⟩ = pure binds) (hchk : fnCheck fd ks = true) (hks : binds.map (·.1) ++ rest = ks) (hfr : frOf binds rest = fr)
    (hF : ∀ a ∈ F, hT.get? a = none) (p : ∀ L h1, h.get? L = none → Keeps h h1 [] → P L h1) (ps : ∀ L h1 h2, Keeps h1 h2 [L] → P L h1 → P L h2)
    (H : ∀ L h1, St hT h F (callEnv fd L f) fr (P L) h1 → Room (A.deeper (callEnv fd L f)) n → ∀ Q1 : Flow → Heap → Prop, (∀ fl h2, Q (retv fl) h2 → Q1 fl h2) → W prog w (A.deeper (callEnv fd L f)) (execs body (callEnv fd L f)) h1 Q1) :
    W prog w A (call (.ref f) args []) h Q := by
  have hk : fr.map (·.1) = ks := by rw [← hfr, frOf_keys, hks]
  have ok := fnCheck_ok hchk hk f
  obtain ⟨m1, m2, m3, m4⟩ := fnCheck_more hchk
  have nd : (binds.map (·.1)).Nodup := by
    have := (ok 0).nd
    rw [hk, ← hks] at this
    exact (List.nodup_append.mp this).1
  refine W_enter G up room hK hcd hbody (fun s _ => BindsTo.of_eq hbind) (fun x => hfr ▸ frOf_look nd x) ok hF p ps (fun y hy => ?_) (fun L h1 S R => H L h1 S R _ fun _ _ x => x) m2 m3 m4 m1
  have := (ok 0).loc (y.1, some y.2) (by rw [← hfr]; unfold frOf; exact List.mem_append_left _ (List.mem_map_of_mem (f := fun b : Str × Value => (b.1, some b.2)) hy))
  exact this
end
end Mine
end
section
open PySem PySem.W PySem.Calls PyProof.Rows
set_option Elab.async false
set_option maxRecDepth 100000
set_option linter.unusedVariables false
namespace Mine
theorem beq_dec (a b : Int) : decide (a = b) = (a == b) := rfl
theorem bne_dec (a b : Int) : decide (a ≠ b) = (a != b) := by by_cases h : a = b <;> simp [h]
section
variable {A : Around} {K : Frag} {hE h h' : Heap} {F D : List Addr} {env : Env} {fr fr' : Fra} {P P' : Heap → Prop}
noncomputable def KeepOK (K : Frag) (f : Value) : Prop := keepIn K f = true ∨ ∀ a, f ≠ .ref a
theorem W_call {func : Expr} {args : List Expr} {pos : Pos} {Q : Value → Heap → Prop}
    (H : W prog w A (eval func env) h fun f h1 => W prog w A (callWith pos f [] (backTo pos (starEach args env)) []) h1 Q)
    (he : eval (.Call func args [] pos) env = (do callWith pos (← eval func env) [] (backTo pos (starEach args env)) (backToKw pos (keywordEach [] env))) := by rfl) : W prog w A (eval (.Call func args [] pos) env) h Q := by
  rw [he]; exact W.bind H
theorem keepOK_looks {M : Model} {f : Value} (hk : KeepOK K f) (h : Heap) (X : K.In h) : ∃ k, (k = Keeper.frame ∨ k = Keeper.machine ∨ k = Keeper.boundFrame) ∧ Looks M h (keeperOf f) k := by
  rcases hk with hk | hk
  · exact keeps_K hk h X
  · refine ⟨.machine, .inr (.inl rfl), Looks.of_pure ?_⟩
    cases f <;> first | rfl | exact absurd rfl (hk _)
theorem W_callWith {f : Value} {first : List Value} {args : List (Bool × Sem Value)} {pos : Pos} {Q : Value → Heap → Prop} (hplain : (args.any (·.1)) = false) (hk : KeepOK K f)
    (H : W prog w A (evalArgs f true args []) h fun a h1 => K.In h1 ∧ W prog w A (call f (first ++ a.pos) a.kw) h1 Q) : W prog w A (callWith pos f first args []) h Q := by
  unfold callWith
  refine W.bind (W.holding (H.mono fun a h1 H1 => W.bind (W.standAt ?_)))
  obtain ⟨k, hk', L⟩ := keepOK_looks (M := model prog w) hk _ H1.1
  simp only [hplain, List.any_nil, Bool.or_false]
  refine W.bind (W.looks L ?_)
  have tail : ∀ {t : Sem Value}, W prog w A t h1 Q → W prog w A (t >>= fun r => holding [r] point >>= fun _ => Pure.pure r) h1 Q :=
    fun ht => W.bind (ht.mono fun r h2 q => W.bind (W.holding (W.point (W.pure q))))
  have marked (mk : Value) : W prog w A (callMarked mk f (first ++ a.pos) a.kw) h1 Q := by unfold callMarked; exact W.keep H1.2
  rcases hk' with rfl | rfl | rfl <;> dsimp only <;> first | exact tail H1.2 | (split <;> first | exact tail H1.2 | exact tail (marked _))
theorem W_with0 {f : Value} {first : List Value} {pos pos' : Pos} {Q : Value → Heap → Prop} (G : Gr K hT) (up : Grown hT h) (hk : KeepOK K f)
    (H : W prog w A (call f (first ++ []) []) h Q) : W prog w A (callWith pos f first (backTo pos' (starEach [] env)) []) h Q :=
  W_callWith rfl hk (W.any fun g d tk os QQ EE k => evalArgs_nil3 (k _ _ _ ⟨G.X.keeps up, H⟩))
theorem W_spliced {x : Sem Value} {rest : List (Bool × Sem Value)} {Q : List Value → Heap → Prop}
    (H : W prog w A x h fun v h1 => W prog w A (spliced rest) h1 fun vs h2 => Q (v :: vs) h2) : W prog w A (spliced ((false, x) :: rest)) h Q := by
  rw [spliced]
  refine W.bind (H.mono fun v h1 H1 => ?_)
  simp only [Bool.false_eq_true, if_false]
  exact W.bind (W.pure (W.bind (W.holding (H1.mono fun vs h2 q => W.pure q))))
theorem W_with {f : Value} {first : List Value} {e : Expr} {rest : List Expr} {pos pos' : Pos} {Q : Value → Heap → Prop} (G : Gr K hT) (hk : KeepOK K f)
    (H : W prog w A (spliced (backTo pos' (starEach (e :: rest) env))) h fun vs h1 => Grown hT h1 ∧ W prog w A (call f (first ++ vs) []) h1 Q)
    (he : starEach (e :: rest) env = (false, eval e env) :: starEach rest env := by rfl) (hp : (backTo pos' (starEach rest env)).any (·.1) = false := by rfl) :
    W prog w A (callWith pos f first (backTo pos' (starEach (e :: rest) env)) []) h Q := by
  rw [he] at H ⊢
  refine W_callWith (by show (false || (backTo pos' (starEach rest env)).any (·.1)) = false; rw [hp]; rfl) hk ?_
  unfold evalArgs
  show W _ _ _ (spliced (backTo pos' ((false, eval e env) :: starEach rest env)) >>= _) _ _
  refine W.bind (H.mono fun vs h1 H1 => ?_)
  refine W.holding ?_
  exact W.bind (W.pure (W.bind (W.pure (W.pure ⟨G.X.keeps H1.1, H1.2⟩))))
theorem A_nil {pos : Pos} {Q : List Value → Heap → Prop} (q : Q [] h) : W prog w A (spliced (backTo pos (starEach [] env))) h Q :=
  W.any fun g d tk os QQ EE k => spliced_nil (k _ _ _ q)
theorem A_cons {e : Expr} {rest : List Expr} {pos : Pos} {Q : List Value → Heap → Prop}
    (H : W prog w A (eval e env) h fun v h1 => W prog w A (spliced (backTo pos (starEach rest env))) h1 fun vs h2 => Q (v :: vs) h2)
    (he : starEach (e :: rest) env = (false, eval e env) :: starEach rest env := by rfl) : W prog w A (spliced (backTo pos (starEach (e :: rest) env))) h Q := by
  rw [he]
  exact W_spliced H
theorem W_meth {o : Expr} {name : Str} {apos pos : Pos} {args : List Expr} {pl : Sem Bool} {Q : Value → Heap → Prop}
    (H : W prog w A (eval o env) h fun ov h1 => W prog w A (getMethod ov name pl) h1 fun fx h2 => W prog w A (callWith pos fx.1 fx.2 (backTo pos (starEach args env)) []) h2 Q)
    (he : eval (.Call (.Attribute o name apos) args [] pos) env = (do
      let ov ← eval o env
      standAt apos.atName
      let (f, first) ← holding [ov] (getMethod ov name pl)
      callWith pos f first (backTo pos (starEach args env)) []) := by rfl) : W prog w A (eval (.Call (.Attribute o name apos) args [] pos) env) h Q := by
  rw [he]
  exact W.bind (H.mono fun ov h1 H1 => W.bind (W.standAt (W.bind (W.holding (H1.mono fun fx h2 H2 => H2)))))
theorem W_getm {x dx C f : Addr} {al : List (Str × Value)} {name : Str} {pl : Sem Bool} {Q : Value × List Value → Heap → Prop} (X : K.In h) (I : Inst h x dx C al) (hc : isOk C K = true)
    (hf : findIn K (.ref C) name = some (some (.ref f))) (ht : isFn K (.ref f) = true) (hl : al.lookup name = none) (q : Q (.ref f, [.ref x]) h) : W prog w A (getMethod (.ref x) name pl) h Q := by
  obtain ⟨es, ep, e, sk, ff, z, I'⟩ := I.at
  simp only [isOk, Bool.and_eq_true, beq_iff_eq] at hc
  obtain ⟨⟨⟨c1, c2⟩, c3⟩, c4⟩ := hc
  have hg : plainGet K C name = true := c3
  have hs : shadowIn (some (dictO es ep)) name = some false := by
    show (lookIn name (dictO es ep)).map _ = _
    rw [look_adict sk, ff, hl]; rfl
  exact W.any fun g d tk os QQ EE k => method_fn (s := ⟨h, g, d, tk, os⟩) X I' (plainGet_of hg).1 (plainGet_of hg).2 hf (beq_iff_eq.mp ht) hs (k _ _ _ q)
section
variable {a b : Int} {t u : Tok} {Q : Value → Heap → Prop}
theorem I_add (q : ∀ t, Q (.int (a + b) t) h) : W prog w A (binaryOp .Add (.int a t) (.int b u)) h Q := W.any fun _ _ _ _ _ _ k => P.add_int (k _ _ _ (q _))
theorem I_sub (q : ∀ t, Q (.int (a - b) t) h) : W prog w A (binaryOp .Sub (.int a t) (.int b u)) h Q := W.any fun _ _ _ _ _ _ k => P.sub_int (k _ _ _ (q _))
theorem I_mul (hm : IntMulOk a b) (q : ∀ t, Q (.int (a * b) t) h) : W prog w A (binaryOp .Mult (.int a t) (.int b u)) h Q := W.any fun _ _ _ _ _ _ k => P.mul_int (k _ _ _ (q _)) hm
theorem I_and (q : ∀ t, Q (.int (Builtin.bitAnd a b) t) h) : W prog w A (binaryOp .BitAnd (.int a t) (.int b u)) h Q := W.any fun _ _ _ _ _ _ k => and_int (k _ _ _ (q _))
theorem I_mod (hb : b ≠ 0) (q : ∀ t, Q (.int (a.fmod b) t) h) : W prog w A (binaryOp .Mod (.int a t) (.int b u)) h Q := W.any fun _ _ _ _ _ _ k => mod_int' hb (k _ _ _ (q _))
theorem I_div (hb : b ≠ 0) (hp : Builtin.divisionGoesByPylong a b = false) (q : ∀ t, Q (.int (a.fdiv b) t) h) : W prog w A (binaryOp .FloorDiv (.int a t) (.int b u)) h Q := W.any fun _ _ _ _ _ _ k => floordiv_int hb (k _ _ _ (q _)) (.inl hp)
theorem I_shl (hn : 0 ≤ b) (hn2 : b ≤ 1000000) (ha : a.natAbs < 2 ^ 64) (q : ∀ t, Q (.int (a * 2 ^ b.toNat) t) h) : W prog w A (binaryOp .LShift (.int a t) (.int b u)) h Q := W.any fun _ _ _ _ _ _ k => lshift_int_small hn hn2 ha (k _ _ _ (q _))
theorem I_iadd (q : ∀ t, Q (.int (a + b) t) h) : W prog w A (inplaceOp .Add (.int a t) (.int b u)) h Q := W.any fun _ _ _ _ _ _ k => P.iadd_int (k _ _ _ (q _))
theorem I_neg (q : ∀ t, Q (.int (-a) t) h) : W prog w A (unaryOp .USub (.int a t)) h Q := W.any fun _ _ _ _ _ _ k => P.neg_int (k _ _ _ (q _))
theorem C_eq (q : Q (.bool (decide (a = b))) h) : W prog w A (compareOp .Eq (.int a t) (.int b u)) h Q := W.any fun _ _ _ _ _ _ k => P.eq_int (k _ _ _ (beq_dec a b ▸ q))
theorem C_ne (q : Q (.bool (decide (a ≠ b))) h) : W prog w A (compareOp .NotEq (.int a t) (.int b u)) h Q := W.any fun _ _ _ _ _ _ k => P.ne_int (k _ _ _ (bne_dec a b ▸ q))
theorem C_lt (q : Q (.bool (decide (a < b))) h) : W prog w A (compareOp .Lt (.int a t) (.int b u)) h Q := W.any fun _ _ _ _ _ _ k => P.lt_int (k _ _ _ q)
theorem C_le (q : Q (.bool (decide (a ≤ b))) h) : W prog w A (compareOp .LtE (.int a t) (.int b u)) h Q := W.any fun _ _ _ _ _ _ k => P.le_int (k _ _ _ q)
theorem C_gt (q : Q (.bool (decide (a > b))) h) : W prog w A (compareOp .Gt (.int a t) (.int b u)) h Q := W.any fun _ _ _ _ _ _ k => P.gt_int (k _ _ _ q)
theorem C_ge (q : Q (.bool (decide (a ≥ b))) h) : W prog w A (compareOp .GtE (.int a t) (.int b u)) h Q := W.any fun _ _ _ _ _ _ k => P.ge_int (k _ _ _ q)
theorem C_is {v v' : Value} (hp : PySem.plainIs v v' = true) (q : Q (.bool (v == v')) h) : W prog w A (compareOp .Is v v') h Q := W.any fun _ _ _ _ _ _ k => wpAny_is_plain hp (k _ _ _ q)
theorem C_isnot {v v' : Value} (hp : PySem.plainIs v v' = true) (q : Q (.bool !(v == v')) h) : W prog w A (compareOp .IsNot v v') h Q := W.any fun _ _ _ _ _ _ k => wpAny_isNot_plain hp (k _ _ _ q)
end
theorem split_dec {p X Y : Prop} [Decidable p] (hx : p → X) (hy : ¬ p → Y) : (decide p = true → X) ∧ (decide p = false → Y) := ⟨fun e => hx (of_decide_eq_true e), fun e => hy (of_decide_eq_false e)⟩
theorem split_ndec {p X Y : Prop} [Decidable p] (hx : ¬ p → X) (hy : p → Y) : ((!decide p) = true → X) ∧ ((!decide p) = false → Y) :=
  ⟨fun e => hx (by rw [Bool.not_eq_true'] at e; exact of_decide_eq_false e), fun e => hy (by rw [Bool.not_eq_false'] at e; exact of_decide_eq_true e)⟩
theorem split_tt {X Y : Prop} (hx : X) : ((true : Bool) = true → X) ∧ ((true : Bool) = false → Y) := ⟨fun _ => hx, fun e => nomatch e⟩
theorem split_ff {X Y : Prop} (hy : Y) : ((false : Bool) = true → X) ∧ ((false : Bool) = false → Y) := ⟨fun e => (nomatch e), fun _ => hy⟩
end
end Mine
end
section
open PySem PySem.W PySem.Calls PyProof.Rows
set_option maxRecDepth 100000
set_option linter.unusedVariables false
set_option maxHeartbeats 4000000
namespace Mine
theorem k_lim_init (P : Params) : List.lookup 36 (KK P) = some ⟨.type "function", none, .func fd_lim_init, #[]⟩ := by kernel_rfl
theorem c_lim_init (P : Params) : codeIn (KK P) fd_lim_init.code fd_lim_init.qualname = true := by kernel_rfl
theorem f_lim_init : fnCheck fd_lim_init [Str.ofString "self", Str.ofString "width", Str.ofString "registers", Str.ofString "upvalues", Str.ofString "local_names", Str.ofString "ccalls", Str.ofString "frames", Str.ofString "stack", Str.ofString "flush", Str.ofString "steps", Str.ofString "text"] = true := by kernel_rfl
theorem k_err_init (P : Params) : List.lookup 71 (KK P) = some ⟨.type "function", none, .func fd_err_init, #[]⟩ := by kernel_rfl
theorem c_err_init (P : Params) : codeIn (KK P) fd_err_init.code fd_err_init.qualname = true := by kernel_rfl
theorem f_err_init : fnCheck fd_err_init [Str.ofString "self", Str.ofString "value"] = true := by kernel_rfl
theorem b_err_init (v0 v1 : Value) : bindArgs fd_err_init ⟨[v0, v1], []⟩ = pure ([(Str.ofString "self", v0), (Str.ofString "value", v1)] : List (Str × Value)) := by kernel_rfl
theorem k_is_number (P : Params) : List.lookup 96 (KK P) = some ⟨.type "function", none, .func fd_is_number, #[]⟩ := by kernel_rfl
theorem c_is_number (P : Params) : codeIn (KK P) fd_is_number.code fd_is_number.qualname = true := by kernel_rfl
theorem f_is_number : fnCheck fd_is_number [Str.ofString "value"] = true := by kernel_rfl
theorem kk_is_number (P : Params) : KeepOK (KK P) (.ref 96) := .inl (by kernel_rfl)
theorem b_is_number (v0 : Value) : bindArgs fd_is_number ⟨[v0], []⟩ = pure ([(Str.ofString "value", v0)] : List (Str × Value)) := by kernel_rfl
theorem k_wrap (P : Params) : List.lookup 103 (KK P) = some ⟨.type "function", none, .func fd_wrap, #[]⟩ := by kernel_rfl
theorem c_wrap (P : Params) : codeIn (KK P) fd_wrap.code fd_wrap.qualname = true := by kernel_rfl
theorem f_wrap : fnCheck fd_wrap [Str.ofString "n", Str.ofString "width", Str.ofString "low"] = true := by kernel_rfl
theorem kk_wrap (P : Params) : KeepOK (KK P) (.ref 103) := .inl (by kernel_rfl)
theorem b_wrap (v0 v1 : Value) : bindArgs fd_wrap ⟨[v0, v1], []⟩ = pure ([(Str.ofString "n", v0), (Str.ofString "width", v1)] : List (Str × Value)) := by kernel_rfl
theorem k_is_blank_values (P : Params) : List.lookup 110 (KK P) = some ⟨.type "function", none, .func fd_is_blank_values, #[]⟩ := by kernel_rfl
theorem c_is_blank_values (P : Params) : codeIn (KK P) fd_is_blank_values.code fd_is_blank_values.qualname = true := by kernel_rfl
theorem f_is_blank_values : fnCheck fd_is_blank_values [Str.ofString "octet"] = true := by kernel_rfl
theorem kk_is_blank_values (P : Params) : KeepOK (KK P) (.ref 110) := .inl (by kernel_rfl)
theorem b_is_blank_values (v0 : Value) : bindArgs fd_is_blank_values ⟨[v0], []⟩ = pure ([(Str.ofString "octet", v0)] : List (Str × Value)) := by kernel_rfl
theorem k_digit_of (P : Params) : List.lookup 117 (KK P) = some ⟨.type "function", none, .func fd_digit_of, #[]⟩ := by kernel_rfl
theorem c_digit_of (P : Params) : codeIn (KK P) fd_digit_of.code fd_digit_of.qualname = true := by kernel_rfl
theorem f_digit_of : fnCheck fd_digit_of [Str.ofString "octet"] = true := by kernel_rfl
theorem kk_digit_of (P : Params) : KeepOK (KK P) (.ref 117) := .inl (by kernel_rfl)
theorem b_digit_of (v0 : Value) : bindArgs fd_digit_of ⟨[v0], []⟩ = pure ([(Str.ofString "octet", v0)] : List (Str × Value)) := by kernel_rfl
theorem k_read_digits (P : Params) : List.lookup 124 (KK P) = some ⟨.type "function", none, .func fd_read_digits, #[]⟩ := by kernel_rfl
theorem c_read_digits (P : Params) : codeIn (KK P) fd_read_digits.code fd_read_digits.qualname = true := by kernel_rfl
theorem f_read_digits : fnCheck fd_read_digits [Str.ofString "text", Str.ofString "at", Str.ofString "base", Str.ofString "width", Str.ofString "found", Str.ofString "most", Str.ofString "digit"] = true := by kernel_rfl
theorem kk_read_digits (P : Params) : KeepOK (KK P) (.ref 124) := .inl (by kernel_rfl)
theorem b_read_digits (v0 v1 v2 v3 : Value) : bindArgs fd_read_digits ⟨[v0, v1, v2, v3], []⟩ = pure ([(Str.ofString "text", v0), (Str.ofString "at", v1), (Str.ofString "base", v2), (Str.ofString "width", v3)] : List (Str × Value)) := by kernel_rfl
theorem k_skip_blanks (P : Params) : List.lookup 131 (KK P) = some ⟨.type "function", none, .func fd_skip_blanks, #[]⟩ := by kernel_rfl
theorem c_skip_blanks (P : Params) : codeIn (KK P) fd_skip_blanks.code fd_skip_blanks.qualname = true := by kernel_rfl
theorem f_skip_blanks : fnCheck fd_skip_blanks [Str.ofString "text", Str.ofString "at"] = true := by kernel_rfl
theorem kk_skip_blanks (P : Params) : KeepOK (KK P) (.ref 131) := .inl (by kernel_rfl)
theorem b_skip_blanks (v0 v1 : Value) : bindArgs fd_skip_blanks ⟨[v0, v1], []⟩ = pure ([(Str.ofString "text", v0), (Str.ofString "at", v1)] : List (Str × Value)) := by kernel_rfl
theorem k_str_to_number (P : Params) : List.lookup 138 (KK P) = some ⟨.type "function", none, .func fd_str_to_number, #[]⟩ := by kernel_rfl
theorem c_str_to_number (P : Params) : codeIn (KK P) fd_str_to_number.code fd_str_to_number.qualname = true := by kernel_rfl
theorem f_str_to_number : fnCheck fd_str_to_number [Str.ofString "text", Str.ofString "limits"] = true := by kernel_rfl
theorem kk_str_to_number (P : Params) : KeepOK (KK P) (.ref 138) := .inl (by kernel_rfl)
theorem b_str_to_number (v0 v1 : Value) : bindArgs fd_str_to_number ⟨[v0, v1], []⟩ = pure ([(Str.ofString "text", v0), (Str.ofString "limits", v1)] : List (Str × Value)) := by kernel_rfl
theorem k_text_in_base (P : Params) : List.lookup 145 (KK P) = some ⟨.type "function", none, .func fd_text_in_base, #[]⟩ := by kernel_rfl
theorem c_text_in_base (P : Params) : codeIn (KK P) fd_text_in_base.code fd_text_in_base.qualname = true := by kernel_rfl
theorem f_text_in_base : fnCheck fd_text_in_base [Str.ofString "text", Str.ofString "base", Str.ofString "limits", Str.ofString "at", Str.ofString "is_below", Str.ofString "is_marked", Str.ofString "found", Str.ofString "end"] = true := by kernel_rfl
theorem kk_text_in_base (P : Params) : KeepOK (KK P) (.ref 145) := .inl (by kernel_rfl)
theorem b_text_in_base (v0 v1 v2 : Value) : bindArgs fd_text_in_base ⟨[v0, v1, v2], []⟩ = pure ([(Str.ofString "text", v0), (Str.ofString "base", v1), (Str.ofString "limits", v2)] : List (Str × Value)) := by kernel_rfl
theorem k_number_text (P : Params) : List.lookup 152 (KK P) = some ⟨.type "function", none, .func fd_number_text, #[]⟩ := by kernel_rfl
theorem c_number_text (P : Params) : codeIn (KK P) fd_number_text.code fd_number_text.qualname = true := by kernel_rfl
theorem f_number_text : fnCheck fd_number_text [Str.ofString "n", Str.ofString "left", Str.ofString "found"] = true := by kernel_rfl
theorem kk_number_text (P : Params) : KeepOK (KK P) (.ref 152) := .inl (by kernel_rfl)
theorem b_number_text (v0 : Value) : bindArgs fd_number_text ⟨[v0], []⟩ = pure ([(Str.ofString "n", v0)] : List (Str × Value)) := by kernel_rfl
theorem k_to_text (P : Params) : List.lookup 159 (KK P) = some ⟨.type "function", none, .func fd_to_text, #[]⟩ := by kernel_rfl
theorem c_to_text (P : Params) : codeIn (KK P) fd_to_text.code fd_to_text.qualname = true := by kernel_rfl
theorem f_to_text : fnCheck fd_to_text [Str.ofString "value"] = true := by kernel_rfl
theorem kk_to_text (P : Params) : KeepOK (KK P) (.ref 159) := .inl (by kernel_rfl)
theorem b_to_text (v0 : Value) : bindArgs fd_to_text ⟨[v0], []⟩ = pure ([(Str.ofString "value", v0)] : List (Str × Value)) := by kernel_rfl
theorem k_c_text (P : Params) : List.lookup 166 (KK P) = some ⟨.type "function", none, .func fd_c_text, #[]⟩ := by kernel_rfl
theorem c_c_text (P : Params) : codeIn (KK P) fd_c_text.code fd_c_text.qualname = true := by kernel_rfl
theorem f_c_text : fnCheck fd_c_text [Str.ofString "text", Str.ofString "at"] = true := by kernel_rfl
theorem kk_c_text (P : Params) : KeepOK (KK P) (.ref 166) := .inl (by kernel_rfl)
theorem b_c_text (v0 : Value) : bindArgs fd_c_text ⟨[v0], []⟩ = pure ([(Str.ofString "text", v0)] : List (Str × Value)) := by kernel_rfl
theorem kk_first_line (P : Params) : KeepOK (KK P) (.ref 173) := .inl (by kernel_rfl)
theorem k_chunk_id (P : Params) : List.lookup 180 (KK P) = some ⟨.type "function", none, .func fd_chunk_id, #[]⟩ := by kernel_rfl
theorem c_chunk_id (P : Params) : codeIn (KK P) fd_chunk_id.code fd_chunk_id.qualname = true := by kernel_rfl
theorem f_chunk_id : fnCheck fd_chunk_id [Str.ofString "source", Str.ofString "size", Str.ofString "room", Str.ofString "name", Str.ofString "line"] = true := by kernel_rfl
theorem kk_chunk_id (P : Params) : KeepOK (KK P) (.ref 180) := .inl (by kernel_rfl)
theorem b_chunk_id (v0 v1 : Value) : bindArgs fd_chunk_id ⟨[v0, v1], []⟩ = pure ([(Str.ofString "source", v0), (Str.ofString "size", v1)] : List (Str × Value)) := by kernel_rfl
theorem k_is_digit (P : Params) : List.lookup 189 (KK P) = some ⟨.type "function", none, .func fd_is_digit, #[]⟩ := by kernel_rfl
theorem c_is_digit (P : Params) : codeIn (KK P) fd_is_digit.code fd_is_digit.qualname = true := by kernel_rfl
theorem f_is_digit : fnCheck fd_is_digit [Str.ofString "sign"] = true := by kernel_rfl
theorem kk_is_digit (P : Params) : KeepOK (KK P) (.ref 189) := .inl (by kernel_rfl)
theorem b_is_digit (v0 : Value) : bindArgs fd_is_digit ⟨[v0], []⟩ = pure ([(Str.ofString "sign", v0)] : List (Str × Value)) := by kernel_rfl
theorem k_is_letter (P : Params) : List.lookup 196 (KK P) = some ⟨.type "function", none, .func fd_is_letter, #[]⟩ := by kernel_rfl
theorem c_is_letter (P : Params) : codeIn (KK P) fd_is_letter.code fd_is_letter.qualname = true := by kernel_rfl
theorem f_is_letter : fnCheck fd_is_letter [Str.ofString "sign"] = true := by kernel_rfl
theorem kk_is_letter (P : Params) : KeepOK (KK P) (.ref 196) := .inl (by kernel_rfl)
theorem b_is_letter (v0 : Value) : bindArgs fd_is_letter ⟨[v0], []⟩ = pure ([(Str.ofString "sign", v0)] : List (Str × Value)) := by kernel_rfl
theorem k_is_name_sign (P : Params) : List.lookup 203 (KK P) = some ⟨.type "function", none, .func fd_is_name_sign, #[]⟩ := by kernel_rfl
theorem c_is_name_sign (P : Params) : codeIn (KK P) fd_is_name_sign.code fd_is_name_sign.qualname = true := by kernel_rfl
theorem f_is_name_sign : fnCheck fd_is_name_sign [Str.ofString "sign"] = true := by kernel_rfl
theorem kk_is_name_sign (P : Params) : KeepOK (KK P) (.ref 203) := .inl (by kernel_rfl)
theorem b_is_name_sign (v0 : Value) : bindArgs fd_is_name_sign ⟨[v0], []⟩ = pure ([(Str.ofString "sign", v0)] : List (Str × Value)) := by kernel_rfl
theorem k_is_blank_lexer (P : Params) : List.lookup 210 (KK P) = some ⟨.type "function", none, .func fd_is_blank_lexer, #[]⟩ := by kernel_rfl
theorem c_is_blank_lexer (P : Params) : codeIn (KK P) fd_is_blank_lexer.code fd_is_blank_lexer.qualname = true := by kernel_rfl
theorem f_is_blank_lexer : fnCheck fd_is_blank_lexer [Str.ofString "sign"] = true := by kernel_rfl
theorem kk_is_blank_lexer (P : Params) : KeepOK (KK P) (.ref 210) := .inl (by kernel_rfl)
theorem b_is_blank_lexer (v0 : Value) : bindArgs fd_is_blank_lexer ⟨[v0], []⟩ = pure ([(Str.ofString "sign", v0)] : List (Str × Value)) := by kernel_rfl
theorem k_is_control (P : Params) : List.lookup 217 (KK P) = some ⟨.type "function", none, .func fd_is_control, #[]⟩ := by kernel_rfl
theorem c_is_control (P : Params) : codeIn (KK P) fd_is_control.code fd_is_control.qualname = true := by kernel_rfl
theorem f_is_control : fnCheck fd_is_control [Str.ofString "sign"] = true := by kernel_rfl
theorem kk_is_control (P : Params) : KeepOK (KK P) (.ref 217) := .inl (by kernel_rfl)
theorem b_is_control (v0 : Value) : bindArgs fd_is_control ⟨[v0], []⟩ = pure ([(Str.ofString "sign", v0)] : List (Str × Value)) := by kernel_rfl
theorem k_is_newline (P : Params) : List.lookup 224 (KK P) = some ⟨.type "function", none, .func fd_is_newline, #[]⟩ := by kernel_rfl
theorem c_is_newline (P : Params) : codeIn (KK P) fd_is_newline.code fd_is_newline.qualname = true := by kernel_rfl
theorem f_is_newline : fnCheck fd_is_newline [Str.ofString "sign"] = true := by kernel_rfl
theorem kk_is_newline (P : Params) : KeepOK (KK P) (.ref 224) := .inl (by kernel_rfl)
theorem b_is_newline (v0 : Value) : bindArgs fd_is_newline ⟨[v0], []⟩ = pure ([(Str.ofString "sign", v0)] : List (Str × Value)) := by kernel_rfl
theorem k_escaped_sign (P : Params) : List.lookup 231 (KK P) = some ⟨.type "function", none, .func fd_escaped_sign, #[]⟩ := by kernel_rfl
theorem c_escaped_sign (P : Params) : codeIn (KK P) fd_escaped_sign.code fd_escaped_sign.qualname = true := by kernel_rfl
theorem f_escaped_sign : fnCheck fd_escaped_sign [Str.ofString "sign", Str.ofString "at"] = true := by kernel_rfl
theorem kk_escaped_sign (P : Params) : KeepOK (KK P) (.ref 231) := .inl (by kernel_rfl)
theorem b_escaped_sign (v0 : Value) : bindArgs fd_escaped_sign ⟨[v0], []⟩ = pure ([(Str.ofString "sign", v0)] : List (Str × Value)) := by kernel_rfl
theorem k_reserved_kinds (P : Params) : List.lookup 238 (KK P) = some ⟨.type "function", none, .func fd_reserved_kinds, #[]⟩ := by kernel_rfl
theorem c_reserved_kinds (P : Params) : codeIn (KK P) fd_reserved_kinds.code fd_reserved_kinds.qualname = true := by kernel_rfl
theorem f_reserved_kinds : fnCheck fd_reserved_kinds [Str.ofString "kinds", Str.ofString "at", Str.ofString "word"] = true := by kernel_rfl
theorem kk_reserved_kinds (P : Params) : KeepOK (KK P) (.ref 238) := .inl (by kernel_rfl)
theorem b_reserved_kinds : bindArgs fd_reserved_kinds ⟨[], []⟩ = pure ([] : List (Str × Value)) := by kernel_rfl
theorem k_token_text (P : Params) : List.lookup 245 (KK P) = some ⟨.type "function", none, .func fd_token_text, #[]⟩ := by kernel_rfl
theorem c_token_text (P : Params) : codeIn (KK P) fd_token_text.code fd_token_text.qualname = true := by kernel_rfl
theorem f_token_text : fnCheck fd_token_text [Str.ofString "kind", Str.ofString "at"] = true := by kernel_rfl
theorem kk_token_text (P : Params) : KeepOK (KK P) (.ref 245) := .inl (by kernel_rfl)
theorem b_token_text (v0 : Value) : bindArgs fd_token_text ⟨[v0], []⟩ = pure ([(Str.ofString "kind", v0)] : List (Str × Value)) := by kernel_rfl
theorem k_tok_init (P : Params) : List.lookup 259 (KK P) = some ⟨.type "function", none, .func fd_tok_init, #[]⟩ := by kernel_rfl
theorem c_tok_init (P : Params) : codeIn (KK P) fd_tok_init.code fd_tok_init.qualname = true := by kernel_rfl
theorem f_tok_init : fnCheck fd_tok_init [Str.ofString "self", Str.ofString "kind", Str.ofString "value"] = true := by kernel_rfl
theorem b_tok_init (v0 v1 v2 : Value) : bindArgs fd_tok_init ⟨[v0, v1, v2], []⟩ = pure ([(Str.ofString "self", v0), (Str.ofString "kind", v1), (Str.ofString "value", v2)] : List (Str × Value)) := by kernel_rfl
theorem k_lex_init (P : Params) : List.lookup 280 (KK P) = some ⟨.type "function", none, .func fd_lex_init, #[]⟩ := by kernel_rfl
theorem c_lex_init (P : Params) : codeIn (KK P) fd_lex_init.code fd_lex_init.qualname = true := by kernel_rfl
theorem f_lex_init : fnCheck fd_lex_init [Str.ofString "self", Str.ofString "text", Str.ofString "chunk", Str.ofString "limits"] = true := by kernel_rfl
theorem b_lex_init (v0 v1 v2 v3 : Value) : bindArgs fd_lex_init ⟨[v0, v1, v2, v3], []⟩ = pure ([(Str.ofString "self", v0), (Str.ofString "text", v1), (Str.ofString "chunk", v2), (Str.ofString "limits", v3)] : List (Str × Value)) := by kernel_rfl
theorem k_next (P : Params) : List.lookup 287 (KK P) = some ⟨.type "function", none, .func fd_next, #[]⟩ := by kernel_rfl
theorem c_next (P : Params) : codeIn (KK P) fd_next.code fd_next.qualname = true := by kernel_rfl
theorem f_next : fnCheck fd_next [Str.ofString "self"] = true := by kernel_rfl
theorem kk_next (P : Params) : KeepOK (KK P) (.ref 287) := .inl (by kernel_rfl)
theorem b_next (v0 : Value) : bindArgs fd_next ⟨[v0], []⟩ = pure ([(Str.ofString "self", v0)] : List (Str × Value)) := by kernel_rfl
theorem k_lookahead (P : Params) : List.lookup 294 (KK P) = some ⟨.type "function", none, .func fd_lookahead, #[]⟩ := by kernel_rfl
theorem c_lookahead (P : Params) : codeIn (KK P) fd_lookahead.code fd_lookahead.qualname = true := by kernel_rfl
theorem f_lookahead : fnCheck fd_lookahead [Str.ofString "self"] = true := by kernel_rfl
theorem kk_lookahead (P : Params) : KeepOK (KK P) (.ref 294) := .inl (by kernel_rfl)
theorem b_lookahead (v0 : Value) : bindArgs fd_lookahead ⟨[v0], []⟩ = pure ([(Str.ofString "self", v0)] : List (Str × Value)) := by kernel_rfl
theorem k_error (P : Params) : List.lookup 301 (KK P) = some ⟨.type "function", none, .func fd_error, #[]⟩ := by kernel_rfl
theorem c_error (P : Params) : codeIn (KK P) fd_error.code fd_error.qualname = true := by kernel_rfl
theorem f_error : fnCheck fd_error [Str.ofString "self", Str.ofString "text", Str.ofString "kind", Str.ofString "message"] = true := by kernel_rfl
theorem kk_error (P : Params) : KeepOK (KK P) (.ref 301) := .inl (by kernel_rfl)
theorem b_error (v0 v1 v2 : Value) : bindArgs fd_error ⟨[v0, v1, v2], []⟩ = pure ([(Str.ofString "self", v0), (Str.ofString "text", v1), (Str.ofString "kind", v2)] : List (Str × Value)) := by kernel_rfl
theorem k_syntax_error (P : Params) : List.lookup 308 (KK P) = some ⟨.type "function", none, .func fd_syntax_error, #[]⟩ := by kernel_rfl
theorem c_syntax_error (P : Params) : codeIn (KK P) fd_syntax_error.code fd_syntax_error.qualname = true := by kernel_rfl
theorem f_syntax_error : fnCheck fd_syntax_error [Str.ofString "self", Str.ofString "text"] = true := by kernel_rfl
theorem kk_syntax_error (P : Params) : KeepOK (KK P) (.ref 308) := .inl (by kernel_rfl)
theorem b_syntax_error (v0 v1 : Value) : bindArgs fd_syntax_error ⟨[v0, v1], []⟩ = pure ([(Str.ofString "self", v0), (Str.ofString "text", v1)] : List (Str × Value)) := by kernel_rfl
theorem k_near_text (P : Params) : List.lookup 315 (KK P) = some ⟨.type "function", none, .func fd_near_text, #[]⟩ := by kernel_rfl
theorem c_near_text (P : Params) : codeIn (KK P) fd_near_text.code fd_near_text.qualname = true := by kernel_rfl
theorem f_near_text : fnCheck fd_near_text [Str.ofString "self", Str.ofString "kind"] = true := by kernel_rfl
theorem kk_near_text (P : Params) : KeepOK (KK P) (.ref 315) := .inl (by kernel_rfl)
theorem b_near_text (v0 v1 : Value) : bindArgs fd_near_text ⟨[v0, v1], []⟩ = pure ([(Str.ofString "self", v0), (Str.ofString "kind", v1)] : List (Str × Value)) := by kernel_rfl
theorem k_move (P : Params) : List.lookup 322 (KK P) = some ⟨.type "function", none, .func fd_move, #[]⟩ := by kernel_rfl
theorem c_move (P : Params) : codeIn (KK P) fd_move.code fd_move.qualname = true := by kernel_rfl
theorem f_move : fnCheck fd_move [Str.ofString "self"] = true := by kernel_rfl
theorem kk_move (P : Params) : KeepOK (KK P) (.ref 322) := .inl (by kernel_rfl)
theorem b_move (v0 : Value) : bindArgs fd_move ⟨[v0], []⟩ = pure ([(Str.ofString "self", v0)] : List (Str × Value)) := by kernel_rfl
theorem k_keep (P : Params) : List.lookup 329 (KK P) = some ⟨.type "function", none, .func fd_keep, #[]⟩ := by kernel_rfl
theorem c_keep (P : Params) : codeIn (KK P) fd_keep.code fd_keep.qualname = true := by kernel_rfl
theorem f_keep : fnCheck fd_keep [Str.ofString "self", Str.ofString "sign"] = true := by kernel_rfl
theorem kk_keep (P : Params) : KeepOK (KK P) (.ref 329) := .inl (by kernel_rfl)
theorem b_keep (v0 v1 : Value) : bindArgs fd_keep ⟨[v0, v1], []⟩ = pure ([(Str.ofString "self", v0), (Str.ofString "sign", v1)] : List (Str × Value)) := by kernel_rfl
theorem k_keep_and_move (P : Params) : List.lookup 336 (KK P) = some ⟨.type "function", none, .func fd_keep_and_move, #[]⟩ := by kernel_rfl
theorem c_keep_and_move (P : Params) : codeIn (KK P) fd_keep_and_move.code fd_keep_and_move.qualname = true := by kernel_rfl
theorem f_keep_and_move : fnCheck fd_keep_and_move [Str.ofString "self"] = true := by kernel_rfl
theorem kk_keep_and_move (P : Params) : KeepOK (KK P) (.ref 336) := .inl (by kernel_rfl)
theorem b_keep_and_move (v0 : Value) : bindArgs fd_keep_and_move ⟨[v0], []⟩ = pure ([(Str.ofString "self", v0)] : List (Str × Value)) := by kernel_rfl
theorem k_keep_if (P : Params) : List.lookup 343 (KK P) = some ⟨.type "function", none, .func fd_keep_if, #[]⟩ := by kernel_rfl
theorem c_keep_if (P : Params) : codeIn (KK P) fd_keep_if.code fd_keep_if.qualname = true := by kernel_rfl
theorem f_keep_if : fnCheck fd_keep_if [Str.ofString "self", Str.ofString "signs"] = true := by kernel_rfl
theorem kk_keep_if (P : Params) : KeepOK (KK P) (.ref 343) := .inl (by kernel_rfl)
theorem b_keep_if (v0 v1 : Value) : bindArgs fd_keep_if ⟨[v0, v1], []⟩ = pure ([(Str.ofString "self", v0), (Str.ofString "signs", v1)] : List (Str × Value)) := by kernel_rfl
theorem k_clear (P : Params) : List.lookup 350 (KK P) = some ⟨.type "function", none, .func fd_clear, #[]⟩ := by kernel_rfl
theorem c_clear (P : Params) : codeIn (KK P) fd_clear.code fd_clear.qualname = true := by kernel_rfl
theorem f_clear : fnCheck fd_clear [Str.ofString "self"] = true := by kernel_rfl
theorem kk_clear (P : Params) : KeepOK (KK P) (.ref 350) := .inl (by kernel_rfl)
theorem b_clear (v0 : Value) : bindArgs fd_clear ⟨[v0], []⟩ = pure ([(Str.ofString "self", v0)] : List (Str × Value)) := by kernel_rfl
theorem k_end_line (P : Params) : List.lookup 357 (KK P) = some ⟨.type "function", none, .func fd_end_line, #[]⟩ := by kernel_rfl
theorem c_end_line (P : Params) : codeIn (KK P) fd_end_line.code fd_end_line.qualname = true := by kernel_rfl
theorem f_end_line : fnCheck fd_end_line [Str.ofString "self", Str.ofString "first"] = true := by kernel_rfl
theorem kk_end_line (P : Params) : KeepOK (KK P) (.ref 357) := .inl (by kernel_rfl)
theorem b_end_line (v0 : Value) : bindArgs fd_end_line ⟨[v0], []⟩ = pure ([(Str.ofString "self", v0)] : List (Str × Value)) := by kernel_rfl
theorem k_read (P : Params) : List.lookup 364 (KK P) = some ⟨.type "function", none, .func fd_read, #[]⟩ := by kernel_rfl
theorem c_read (P : Params) : codeIn (KK P) fd_read.code fd_read.qualname = true := by kernel_rfl
theorem f_read : fnCheck fd_read [Str.ofString "self", Str.ofString "sign"] = true := by kernel_rfl
theorem kk_read (P : Params) : KeepOK (KK P) (.ref 364) := .inl (by kernel_rfl)
theorem b_read (v0 : Value) : bindArgs fd_read ⟨[v0], []⟩ = pure ([(Str.ofString "self", v0)] : List (Str × Value)) := by kernel_rfl
theorem k_skip_blank (P : Params) : List.lookup 371 (KK P) = some ⟨.type "function", none, .func fd_skip_blank, #[]⟩ := by kernel_rfl
theorem c_skip_blank (P : Params) : codeIn (KK P) fd_skip_blank.code fd_skip_blank.qualname = true := by kernel_rfl
theorem f_skip_blank : fnCheck fd_skip_blank [Str.ofString "self"] = true := by kernel_rfl
theorem kk_skip_blank (P : Params) : KeepOK (KK P) (.ref 371) := .inl (by kernel_rfl)
theorem b_skip_blank (v0 : Value) : bindArgs fd_skip_blank ⟨[v0], []⟩ = pure ([(Str.ofString "self", v0)] : List (Str × Value)) := by kernel_rfl
theorem k_sign_behind (P : Params) : List.lookup 378 (KK P) = some ⟨.type "function", none, .func fd_sign_behind, #[]⟩ := by kernel_rfl
theorem c_sign_behind (P : Params) : codeIn (KK P) fd_sign_behind.code fd_sign_behind.qualname = true := by kernel_rfl
theorem f_sign_behind : fnCheck fd_sign_behind [Str.ofString "self"] = true := by kernel_rfl
theorem kk_sign_behind (P : Params) : KeepOK (KK P) (.ref 378) := .inl (by kernel_rfl)
theorem b_sign_behind (v0 : Value) : bindArgs fd_sign_behind ⟨[v0], []⟩ = pure ([(Str.ofString "self", v0)] : List (Str × Value)) := by kernel_rfl
theorem k_skip_comment (P : Params) : List.lookup 385 (KK P) = some ⟨.type "function", none, .func fd_skip_comment, #[]⟩ := by kernel_rfl
theorem c_skip_comment (P : Params) : codeIn (KK P) fd_skip_comment.code fd_skip_comment.qualname = true := by kernel_rfl
theorem f_skip_comment : fnCheck fd_skip_comment [Str.ofString "self", Str.ofString "level"] = true := by kernel_rfl
theorem kk_skip_comment (P : Params) : KeepOK (KK P) (.ref 385) := .inl (by kernel_rfl)
theorem b_skip_comment (v0 : Value) : bindArgs fd_skip_comment ⟨[v0], []⟩ = pure ([(Str.ofString "self", v0)] : List (Str × Value)) := by kernel_rfl
theorem k_read_compared (P : Params) : List.lookup 392 (KK P) = some ⟨.type "function", none, .func fd_read_compared, #[]⟩ := by kernel_rfl
theorem c_read_compared (P : Params) : codeIn (KK P) fd_read_compared.code fd_read_compared.qualname = true := by kernel_rfl
theorem f_read_compared : fnCheck fd_read_compared [Str.ofString "self", Str.ofString "sign"] = true := by kernel_rfl
theorem kk_read_compared (P : Params) : KeepOK (KK P) (.ref 392) := .inl (by kernel_rfl)
theorem b_read_compared (v0 v1 : Value) : bindArgs fd_read_compared ⟨[v0, v1], []⟩ = pure ([(Str.ofString "self", v0), (Str.ofString "sign", v1)] : List (Str × Value)) := by kernel_rfl
theorem k_read_dots (P : Params) : List.lookup 399 (KK P) = some ⟨.type "function", none, .func fd_read_dots, #[]⟩ := by kernel_rfl
theorem c_read_dots (P : Params) : codeIn (KK P) fd_read_dots.code fd_read_dots.qualname = true := by kernel_rfl
theorem f_read_dots : fnCheck fd_read_dots [Str.ofString "self"] = true := by kernel_rfl
theorem kk_read_dots (P : Params) : KeepOK (KK P) (.ref 399) := .inl (by kernel_rfl)
theorem b_read_dots (v0 : Value) : bindArgs fd_read_dots ⟨[v0], []⟩ = pure ([(Str.ofString "self", v0)] : List (Str × Value)) := by kernel_rfl
theorem k_read_word (P : Params) : List.lookup 406 (KK P) = some ⟨.type "function", none, .func fd_read_word, #[]⟩ := by kernel_rfl
theorem c_read_word (P : Params) : codeIn (KK P) fd_read_word.code fd_read_word.qualname = true := by kernel_rfl
theorem f_read_word : fnCheck fd_read_word [Str.ofString "self", Str.ofString "word", Str.ofString "kind"] = true := by kernel_rfl
theorem kk_read_word (P : Params) : KeepOK (KK P) (.ref 406) := .inl (by kernel_rfl)
theorem b_read_word (v0 : Value) : bindArgs fd_read_word ⟨[v0], []⟩ = pure ([(Str.ofString "self", v0)] : List (Str × Value)) := by kernel_rfl
theorem k_read_numeral (P : Params) : List.lookup 413 (KK P) = some ⟨.type "function", none, .func fd_read_numeral, #[]⟩ := by kernel_rfl
theorem c_read_numeral (P : Params) : codeIn (KK P) fd_read_numeral.code fd_read_numeral.qualname = true := by kernel_rfl
theorem f_read_numeral : fnCheck fd_read_numeral [Str.ofString "self", Str.ofString "value"] = true := by kernel_rfl
theorem kk_read_numeral (P : Params) : KeepOK (KK P) (.ref 413) := .inl (by kernel_rfl)
theorem b_read_numeral (v0 : Value) : bindArgs fd_read_numeral ⟨[v0], []⟩ = pure ([(Str.ofString "self", v0)] : List (Str × Value)) := by kernel_rfl
theorem k_read_bracket (P : Params) : List.lookup 420 (KK P) = some ⟨.type "function", none, .func fd_read_bracket, #[]⟩ := by kernel_rfl
theorem c_read_bracket (P : Params) : codeIn (KK P) fd_read_bracket.code fd_read_bracket.qualname = true := by kernel_rfl
theorem f_read_bracket : fnCheck fd_read_bracket [Str.ofString "self", Str.ofString "level"] = true := by kernel_rfl
theorem kk_read_bracket (P : Params) : KeepOK (KK P) (.ref 420) := .inl (by kernel_rfl)
theorem b_read_bracket (v0 : Value) : bindArgs fd_read_bracket ⟨[v0], []⟩ = pure ([(Str.ofString "self", v0)] : List (Str × Value)) := by kernel_rfl
theorem k_read_level (P : Params) : List.lookup 427 (KK P) = some ⟨.type "function", none, .func fd_read_level, #[]⟩ := by kernel_rfl
theorem c_read_level (P : Params) : codeIn (KK P) fd_read_level.code fd_read_level.qualname = true := by kernel_rfl
theorem f_read_level : fnCheck fd_read_level [Str.ofString "self", Str.ofString "bracket", Str.ofString "many"] = true := by kernel_rfl
theorem kk_read_level (P : Params) : KeepOK (KK P) (.ref 427) := .inl (by kernel_rfl)
theorem b_read_level (v0 : Value) : bindArgs fd_read_level ⟨[v0], []⟩ = pure ([(Str.ofString "self", v0)] : List (Str × Value)) := by kernel_rfl
theorem k_read_long (P : Params) : List.lookup 434 (KK P) = some ⟨.type "function", none, .func fd_read_long, #[]⟩ := by kernel_rfl
theorem c_read_long (P : Params) : codeIn (KK P) fd_read_long.code fd_read_long.qualname = true := by kernel_rfl
theorem f_read_long : fnCheck fd_read_long [Str.ofString "self", Str.ofString "level", Str.ofString "is_text", Str.ofString "begin"] = true := by kernel_rfl
theorem kk_read_long (P : Params) : KeepOK (KK P) (.ref 434) := .inl (by kernel_rfl)
theorem b_read_long (v0 v1 v2 : Value) : bindArgs fd_read_long ⟨[v0, v1, v2], []⟩ = pure ([(Str.ofString "self", v0), (Str.ofString "level", v1), (Str.ofString "is_text", v2)] : List (Str × Value)) := by kernel_rfl
theorem k_read_string (P : Params) : List.lookup 448 (KK P) = some ⟨.type "function", none, .func fd_read_string, #[]⟩ := by kernel_rfl
theorem c_read_string (P : Params) : codeIn (KK P) fd_read_string.code fd_read_string.qualname = true := by kernel_rfl
theorem f_read_string : fnCheck fd_read_string [Str.ofString "self", Str.ofString "quote"] = true := by kernel_rfl
theorem kk_read_string (P : Params) : KeepOK (KK P) (.ref 448) := .inl (by kernel_rfl)
theorem b_read_string (v0 v1 : Value) : bindArgs fd_read_string ⟨[v0, v1], []⟩ = pure ([(Str.ofString "self", v0), (Str.ofString "quote", v1)] : List (Str × Value)) := by kernel_rfl
theorem k_read_escape (P : Params) : List.lookup 455 (KK P) = some ⟨.type "function", none, .func fd_read_escape, #[]⟩ := by kernel_rfl
theorem c_read_escape (P : Params) : codeIn (KK P) fd_read_escape.code fd_read_escape.qualname = true := by kernel_rfl
theorem f_read_escape : fnCheck fd_read_escape [Str.ofString "self", Str.ofString "told"] = true := by kernel_rfl
theorem kk_read_escape (P : Params) : KeepOK (KK P) (.ref 455) := .inl (by kernel_rfl)
theorem b_read_escape (v0 : Value) : bindArgs fd_read_escape ⟨[v0], []⟩ = pure ([(Str.ofString "self", v0)] : List (Str × Value)) := by kernel_rfl
theorem k_row_init (P : Params) : List.lookup 483 (KK P) = some ⟨.type "function", none, .func fd_row_init, #[]⟩ := by kernel_rfl
theorem c_row_init (P : Params) : codeIn (KK P) fd_row_init.code fd_row_init.qualname = true := by kernel_rfl
theorem f_row_init : fnCheck fd_row_init [Str.ofString "self", Str.ofString "pairs"] = true := by kernel_rfl
theorem b_row_init (v0 v1 : Value) : bindArgs fd_row_init ⟨[v0, v1], []⟩ = pure ([(Str.ofString "self", v0), (Str.ofString "pairs", v1)] : List (Str × Value)) := by kernel_rfl
theorem k_row_token_at (P : Params) : List.lookup 490 (KK P) = some ⟨.type "function", none, .func fd_row_token_at, #[]⟩ := by kernel_rfl
theorem c_row_token_at (P : Params) : codeIn (KK P) fd_row_token_at.code fd_row_token_at.qualname = true := by kernel_rfl
theorem f_row_token_at : fnCheck fd_row_token_at [Str.ofString "self", Str.ofString "at"] = true := by kernel_rfl
theorem kk_row_token_at (P : Params) : KeepOK (KK P) (.ref 490) := .inl (by kernel_rfl)
theorem b_row_token_at (v0 v1 : Value) : bindArgs fd_row_token_at ⟨[v0, v1], []⟩ = pure ([(Str.ofString "self", v0), (Str.ofString "at", v1)] : List (Str × Value)) := by kernel_rfl
theorem k_row_next (P : Params) : List.lookup 497 (KK P) = some ⟨.type "function", none, .func fd_row_next, #[]⟩ := by kernel_rfl
theorem c_row_next (P : Params) : codeIn (KK P) fd_row_next.code fd_row_next.qualname = true := by kernel_rfl
theorem f_row_next : fnCheck fd_row_next [Str.ofString "self"] = true := by kernel_rfl
theorem kk_row_next (P : Params) : KeepOK (KK P) (.ref 497) := .inl (by kernel_rfl)
theorem b_row_next (v0 : Value) : bindArgs fd_row_next ⟨[v0], []⟩ = pure ([(Str.ofString "self", v0)] : List (Str × Value)) := by kernel_rfl
theorem k_row_lookahead (P : Params) : List.lookup 504 (KK P) = some ⟨.type "function", none, .func fd_row_lookahead, #[]⟩ := by kernel_rfl
theorem c_row_lookahead (P : Params) : codeIn (KK P) fd_row_lookahead.code fd_row_lookahead.qualname = true := by kernel_rfl
theorem f_row_lookahead : fnCheck fd_row_lookahead [Str.ofString "self"] = true := by kernel_rfl
theorem kk_row_lookahead (P : Params) : KeepOK (KK P) (.ref 504) := .inl (by kernel_rfl)
theorem b_row_lookahead (v0 : Value) : bindArgs fd_row_lookahead ⟨[v0], []⟩ = pure ([(Str.ofString "self", v0)] : List (Str × Value)) := by kernel_rfl
theorem k_row_error (P : Params) : List.lookup 511 (KK P) = some ⟨.type "function", none, .func fd_row_error, #[]⟩ := by kernel_rfl
theorem c_row_error (P : Params) : codeIn (KK P) fd_row_error.code fd_row_error.qualname = true := by kernel_rfl
theorem f_row_error : fnCheck fd_row_error [Str.ofString "self", Str.ofString "text", Str.ofString "kind", Str.ofString "told"] = true := by kernel_rfl
theorem kk_row_error (P : Params) : KeepOK (KK P) (.ref 511) := .inl (by kernel_rfl)
theorem b_row_error (v0 v1 v2 : Value) : bindArgs fd_row_error ⟨[v0, v1, v2], []⟩ = pure ([(Str.ofString "self", v0), (Str.ofString "text", v1), (Str.ofString "kind", v2)] : List (Str × Value)) := by kernel_rfl
theorem k_row_syntax_error (P : Params) : List.lookup 518 (KK P) = some ⟨.type "function", none, .func fd_row_syntax_error, #[]⟩ := by kernel_rfl
theorem c_row_syntax_error (P : Params) : codeIn (KK P) fd_row_syntax_error.code fd_row_syntax_error.qualname = true := by kernel_rfl
theorem f_row_syntax_error : fnCheck fd_row_syntax_error [Str.ofString "self", Str.ofString "text"] = true := by kernel_rfl
theorem kk_row_syntax_error (P : Params) : KeepOK (KK P) (.ref 518) := .inl (by kernel_rfl)
theorem b_row_syntax_error (v0 v1 : Value) : bindArgs fd_row_syntax_error ⟨[v0, v1], []⟩ = pure ([(Str.ofString "self", v0), (Str.ofString "text", v1)] : List (Str × Value)) := by kernel_rfl
theorem k_law_sip (P : Params) : List.lookup 532 (KK P) = some ⟨.type "function", none, .func fd_law_sip, #[]⟩ := by kernel_rfl
theorem c_law_sip (P : Params) : codeIn (KK P) fd_law_sip.code fd_law_sip.qualname = true := by kernel_rfl
theorem f_law_sip : fnCheck fd_law_sip [Str.ofString "cup", Str.ofString "bound", Str.ofString "turn"] = true := by kernel_rfl
theorem kk_law_sip (P : Params) : KeepOK (KK P) (.ref 532) := .inl (by kernel_rfl)
theorem b_law_sip (v0 v1 : Value) : bindArgs fd_law_sip ⟨[v0, v1], []⟩ = pure ([(Str.ofString "cup", v0), (Str.ofString "bound", v1)] : List (Str × Value)) := by kernel_rfl
theorem k_law_told (P : Params) : List.lookup 539 (KK P) = some ⟨.type "function", none, .func fd_law_told, #[]⟩ := by kernel_rfl
theorem c_law_told (P : Params) : codeIn (KK P) fd_law_told.code fd_law_told.qualname = true := by kernel_rfl
theorem f_law_told : fnCheck fd_law_told [Str.ofString "token"] = true := by kernel_rfl
theorem kk_law_told (P : Params) : KeepOK (KK P) (.ref 539) := .inl (by kernel_rfl)
theorem b_law_told (v0 : Value) : bindArgs fd_law_told ⟨[v0], []⟩ = pure ([(Str.ofString "token", v0)] : List (Str × Value)) := by kernel_rfl
theorem k_law_tokens (P : Params) : List.lookup 546 (KK P) = some ⟨.type "function", none, .func fd_law_tokens, #[]⟩ := by kernel_rfl
theorem c_law_tokens (P : Params) : codeIn (KK P) fd_law_tokens.code fd_law_tokens.qualname = true := by kernel_rfl
theorem f_law_tokens : fnCheck fd_law_tokens [Str.ofString "text", Str.ofString "lexer", Str.ofString "found", Str.ofString "places", Str.ofString "token"] = true := by kernel_rfl
theorem kk_law_tokens (P : Params) : KeepOK (KK P) (.ref 546) := .inl (by kernel_rfl)
theorem b_law_tokens (v0 : Value) : bindArgs fd_law_tokens ⟨[v0], []⟩ = pure ([(Str.ofString "text", v0)] : List (Str × Value)) := by kernel_rfl
theorem k_law_refused (P : Params) : List.lookup 553 (KK P) = some ⟨.type "function", none, .func fd_law_refused, #[]⟩ := by kernel_rfl
theorem c_law_refused (P : Params) : codeIn (KK P) fd_law_refused.code fd_law_refused.qualname = true := by kernel_rfl
theorem f_law_refused : fnCheck fd_law_refused [Str.ofString "reader"] = true := by kernel_rfl
theorem kk_law_refused (P : Params) : KeepOK (KK P) (.ref 553) := .inl (by kernel_rfl)
theorem b_law_refused (v0 : Value) : bindArgs fd_law_refused ⟨[v0], []⟩ = pure ([(Str.ofString "reader", v0)] : List (Str × Value)) := by kernel_rfl
theorem g_BLANKS (P : Params) : GV (KK P) (Str.ofString "BLANKS") (.bytes #[32, 9, 10, 11, 12, 13] 196) := ⟨by kernel_rfl, .inl (by kernel_rfl)⟩
theorem g_Limits (P : Params) : GV (KK P) (Str.ofString "Limits") (.ref 53) := ⟨by kernel_rfl, .inl (by kernel_rfl)⟩
theorem g_LuaSyntaxError (P : Params) : GV (KK P) (Str.ofString "LuaSyntaxError") (.ref 87) := ⟨by kernel_rfl, .inl (by kernel_rfl)⟩
theorem g_is_number (P : Params) : GV (KK P) (Str.ofString "is_number") (.ref 96) := ⟨by kernel_rfl, .inl (by kernel_rfl)⟩
theorem g_wrap (P : Params) : GV (KK P) (Str.ofString "wrap") (.ref 103) := ⟨by kernel_rfl, .inl (by kernel_rfl)⟩
theorem g_is_blank_values (P : Params) : GV (KK P) (Str.ofString "is_blank_values") (.ref 110) := ⟨by kernel_rfl, .inl (by kernel_rfl)⟩
theorem g_digit_of (P : Params) : GV (KK P) (Str.ofString "digit_of") (.ref 117) := ⟨by kernel_rfl, .inl (by kernel_rfl)⟩
theorem g_read_digits (P : Params) : GV (KK P) (Str.ofString "read_digits") (.ref 124) := ⟨by kernel_rfl, .inl (by kernel_rfl)⟩
theorem g_skip_blanks (P : Params) : GV (KK P) (Str.ofString "skip_blanks") (.ref 131) := ⟨by kernel_rfl, .inl (by kernel_rfl)⟩
theorem g_str_to_number (P : Params) : GV (KK P) (Str.ofString "str_to_number") (.ref 138) := ⟨by kernel_rfl, .inl (by kernel_rfl)⟩
theorem g_text_in_base (P : Params) : GV (KK P) (Str.ofString "text_in_base") (.ref 145) := ⟨by kernel_rfl, .inl (by kernel_rfl)⟩
theorem g_number_text (P : Params) : GV (KK P) (Str.ofString "number_text") (.ref 152) := ⟨by kernel_rfl, .inl (by kernel_rfl)⟩
theorem g_to_text (P : Params) : GV (KK P) (Str.ofString "to_text") (.ref 159) := ⟨by kernel_rfl, .inl (by kernel_rfl)⟩
theorem g_c_text (P : Params) : GV (KK P) (Str.ofString "c_text") (.ref 166) := ⟨by kernel_rfl, .inl (by kernel_rfl)⟩
theorem g_first_line (P : Params) : GV (KK P) (Str.ofString "first_line") (.ref 173) := ⟨by kernel_rfl, .inl (by kernel_rfl)⟩
theorem g_chunk_id (P : Params) : GV (KK P) (Str.ofString "chunk_id") (.ref 180) := ⟨by kernel_rfl, .inl (by kernel_rfl)⟩
theorem g_END_OF_TEXT (P : Params) : GV (KK P) (Str.ofString "END_OF_TEXT") (.int (-1) 436) := ⟨by kernel_rfl, .inl (by kernel_rfl)⟩
theorem g_FIRST_RESERVED (P : Params) : GV (KK P) (Str.ofString "FIRST_RESERVED") (.int (257) 438) := ⟨by kernel_rfl, .inl (by kernel_rfl)⟩
theorem g_RESERVED (P : Params) : GV (KK P) (Str.ofString "RESERVED") (.ref 181) := ⟨by kernel_rfl, .inl (by kernel_rfl)⟩
theorem g_TK_CONCAT (P : Params) : GV (KK P) (Str.ofString "TK_CONCAT") (.int (278) 462) := ⟨by kernel_rfl, .inl (by kernel_rfl)⟩
theorem g_TK_DOTS (P : Params) : GV (KK P) (Str.ofString "TK_DOTS") (.int (279) 464) := ⟨by kernel_rfl, .inl (by kernel_rfl)⟩
theorem g_TK_LE (P : Params) : GV (KK P) (Str.ofString "TK_LE") (.int (282) 470) := ⟨by kernel_rfl, .inl (by kernel_rfl)⟩
theorem g_TK_NE (P : Params) : GV (KK P) (Str.ofString "TK_NE") (.int (283) 472) := ⟨by kernel_rfl, .inl (by kernel_rfl)⟩
theorem g_TK_NUMBER (P : Params) : GV (KK P) (Str.ofString "TK_NUMBER") (.int (284) 474) := ⟨by kernel_rfl, .inl (by kernel_rfl)⟩
theorem g_TK_NAME (P : Params) : GV (KK P) (Str.ofString "TK_NAME") (.int (285) 476) := ⟨by kernel_rfl, .inl (by kernel_rfl)⟩
theorem g_TK_STRING (P : Params) : GV (KK P) (Str.ofString "TK_STRING") (.int (286) 478) := ⟨by kernel_rfl, .inl (by kernel_rfl)⟩
theorem g_TK_EOS (P : Params) : GV (KK P) (Str.ofString "TK_EOS") (.int (287) 480) := ⟨by kernel_rfl, .inl (by kernel_rfl)⟩
theorem g_OTHER_TEXTS (P : Params) : GV (KK P) (Str.ofString "OTHER_TEXTS") (.ref 182) := ⟨by kernel_rfl, .inl (by kernel_rfl)⟩
theorem g_SOURCE_SIZE (P : Params) : GV (KK P) (Str.ofString "SOURCE_SIZE") (.int (80) 493) := ⟨by kernel_rfl, .inl (by kernel_rfl)⟩
theorem g_MOST_LINES (P : Params) : GV (KK P) (Str.ofString "MOST_LINES") (.int (2147483645) 495) := ⟨by kernel_rfl, .inl (by kernel_rfl)⟩
theorem g_NEWLINE (P : Params) : GV (KK P) (Str.ofString "NEWLINE") (.int (10) 497) := ⟨by kernel_rfl, .inl (by kernel_rfl)⟩
theorem g_RETURN (P : Params) : GV (KK P) (Str.ofString "RETURN") (.int (13) 499) := ⟨by kernel_rfl, .inl (by kernel_rfl)⟩
theorem g_QUOTE_DOUBLE (P : Params) : GV (KK P) (Str.ofString "QUOTE_DOUBLE") (.int (34) 501) := ⟨by kernel_rfl, .inl (by kernel_rfl)⟩
theorem g_QUOTE_SINGLE (P : Params) : GV (KK P) (Str.ofString "QUOTE_SINGLE") (.int (39) 503) := ⟨by kernel_rfl, .inl (by kernel_rfl)⟩
theorem g_MINUS (P : Params) : GV (KK P) (Str.ofString "MINUS") (.int (45) 507) := ⟨by kernel_rfl, .inl (by kernel_rfl)⟩
theorem g_DOT (P : Params) : GV (KK P) (Str.ofString "DOT") (.int (46) 509) := ⟨by kernel_rfl, .inl (by kernel_rfl)⟩
theorem g_LESS (P : Params) : GV (KK P) (Str.ofString "LESS") (.int (60) 511) := ⟨by kernel_rfl, .inl (by kernel_rfl)⟩
theorem g_EQUALS (P : Params) : GV (KK P) (Str.ofString "EQUALS") (.int (61) 513) := ⟨by kernel_rfl, .inl (by kernel_rfl)⟩
theorem g_GREATER (P : Params) : GV (KK P) (Str.ofString "GREATER") (.int (62) 515) := ⟨by kernel_rfl, .inl (by kernel_rfl)⟩
theorem g_BRACKET_OPEN (P : Params) : GV (KK P) (Str.ofString "BRACKET_OPEN") (.int (91) 517) := ⟨by kernel_rfl, .inl (by kernel_rfl)⟩
theorem g_BACKSLASH (P : Params) : GV (KK P) (Str.ofString "BACKSLASH") (.int (92) 519) := ⟨by kernel_rfl, .inl (by kernel_rfl)⟩
theorem g_BRACKET_CLOSE (P : Params) : GV (KK P) (Str.ofString "BRACKET_CLOSE") (.int (93) 521) := ⟨by kernel_rfl, .inl (by kernel_rfl)⟩
theorem g_UNDERSCORE (P : Params) : GV (KK P) (Str.ofString "UNDERSCORE") (.int (95) 523) := ⟨by kernel_rfl, .inl (by kernel_rfl)⟩
theorem g_TILDE (P : Params) : GV (KK P) (Str.ofString "TILDE") (.int (126) 525) := ⟨by kernel_rfl, .inl (by kernel_rfl)⟩
theorem g_is_digit (P : Params) : GV (KK P) (Str.ofString "is_digit") (.ref 189) := ⟨by kernel_rfl, .inl (by kernel_rfl)⟩
theorem g_is_letter (P : Params) : GV (KK P) (Str.ofString "is_letter") (.ref 196) := ⟨by kernel_rfl, .inl (by kernel_rfl)⟩
theorem g_is_name_sign (P : Params) : GV (KK P) (Str.ofString "is_name_sign") (.ref 203) := ⟨by kernel_rfl, .inl (by kernel_rfl)⟩
theorem g_is_control (P : Params) : GV (KK P) (Str.ofString "is_control") (.ref 217) := ⟨by kernel_rfl, .inl (by kernel_rfl)⟩
theorem g_is_newline (P : Params) : GV (KK P) (Str.ofString "is_newline") (.ref 224) := ⟨by kernel_rfl, .inl (by kernel_rfl)⟩
theorem g_escaped_sign (P : Params) : GV (KK P) (Str.ofString "escaped_sign") (.ref 231) := ⟨by kernel_rfl, .inl (by kernel_rfl)⟩
theorem g_reserved_kinds (P : Params) : GV (KK P) (Str.ofString "reserved_kinds") (.ref 238) := ⟨by kernel_rfl, .inl (by kernel_rfl)⟩
theorem g_token_text (P : Params) : GV (KK P) (Str.ofString "token_text") (.ref 245) := ⟨by kernel_rfl, .inl (by kernel_rfl)⟩
theorem g_law_sip (P : Params) : GV (KK P) (Str.ofString "_law_sip") (.ref 532) := ⟨by kernel_rfl, .inl (by kernel_rfl)⟩
theorem g_law_told (P : Params) : GV (KK P) (Str.ofString "_law_told") (.ref 539) := ⟨by kernel_rfl, .inl (by kernel_rfl)⟩
theorem g_law_tokens (P : Params) : GV (KK P) (Str.ofString "_law_tokens") (.ref 546) := ⟨by kernel_rfl, .inl (by kernel_rfl)⟩
theorem g_law_refused (P : Params) : GV (KK P) (Str.ofString "_law_refused") (.ref 553) := ⟨by kernel_rfl, .inl (by kernel_rfl)⟩
theorem g_is_blank_lexer (P : Params) : GV (KK P) (Str.ofString "is_blank_lexer") (.ref 210) := ⟨by kernel_rfl, .inl (by kernel_rfl)⟩
theorem g_Token (P : Params) : GV (KK P) (Str.ofString "Token") (.ref 262) := ⟨by kernel_rfl, .inl (by kernel_rfl)⟩
theorem g_Lexer (P : Params) : GV (KK P) (Str.ofString "Lexer") (.ref 465) := ⟨by kernel_rfl, .inl (by kernel_rfl)⟩
theorem g_TokenRow (P : Params) : GV (KK P) (Str.ofString "TokenRow") (.ref 521) := ⟨by kernel_rfl, .inl (by kernel_rfl)⟩
theorem g_len (P : Params) : GV (KK P) (Str.ofString "len") (.builtin "len") := ⟨by kernel_rfl, .inr ⟨by kernel_rfl, by first | boot_fast | decide +kernel, by decide +kernel⟩⟩
theorem g_bytes (P : Params) : GV (KK P) (Str.ofString "bytes") (.type "bytes") := ⟨by kernel_rfl, .inr ⟨by kernel_rfl, by first | boot_fast | decide +kernel, by decide +kernel⟩⟩
theorem g_bytearray (P : Params) : GV (KK P) (Str.ofString "bytearray") (.type "bytearray") := ⟨by kernel_rfl, .inr ⟨by kernel_rfl, by first | boot_fast | decide +kernel, by decide +kernel⟩⟩
theorem g_range (P : Params) : GV (KK P) (Str.ofString "range") (.type "range") := ⟨by kernel_rfl, .inr ⟨by kernel_rfl, by first | boot_fast | decide +kernel, by decide +kernel⟩⟩
theorem g_enumerate (P : Params) : GV (KK P) (Str.ofString "enumerate") (.type "enumerate") := ⟨by kernel_rfl, .inr ⟨by kernel_rfl, by first | boot_fast | decide +kernel, by decide +kernel⟩⟩
theorem g_isinstance (P : Params) : GV (KK P) (Str.ofString "isinstance") (.builtin "isinstance") := ⟨by kernel_rfl, .inr ⟨by kernel_rfl, by first | boot_fast | decide +kernel, by decide +kernel⟩⟩
theorem g_abs (P : Params) : GV (KK P) (Str.ofString "abs") (.builtin "abs") := ⟨by kernel_rfl, .inr ⟨by kernel_rfl, by first | boot_fast | decide +kernel, by decide +kernel⟩⟩
theorem g_max (P : Params) : GV (KK P) (Str.ofString "max") (.builtin "max") := ⟨by kernel_rfl, .inr ⟨by kernel_rfl, by first | boot_fast | decide +kernel, by decide +kernel⟩⟩
theorem g_str (P : Params) : GV (KK P) (Str.ofString "str") (.type "str") := ⟨by kernel_rfl, .inr ⟨by kernel_rfl, by first | boot_fast | decide +kernel, by decide +kernel⟩⟩
theorem g_int (P : Params) : GV (KK P) (Str.ofString "int") (.type "int") := ⟨by kernel_rfl, .inr ⟨by kernel_rfl, by first | boot_fast | decide +kernel, by decide +kernel⟩⟩
theorem g_bool (P : Params) : GV (KK P) (Str.ofString "bool") (.type "bool") := ⟨by kernel_rfl, .inr ⟨by kernel_rfl, by first | boot_fast | decide +kernel, by decide +kernel⟩⟩
theorem ok_Limits (P : Params) : isOk 53 (KK P) = true := by kernel_rfl
theorem t_Limits_width (P : Params) : takerIn (KK P) 53 (Str.ofString "width") = some none := by kernel_rfl
theorem a_Limits_width (P : Params) : findIn (KK P) (.ref 53) (Str.ofString "width") = some none := by kernel_rfl
theorem t_Limits_registers (P : Params) : takerIn (KK P) 53 (Str.ofString "registers") = some none := by kernel_rfl
theorem t_Limits_upvalues (P : Params) : takerIn (KK P) 53 (Str.ofString "upvalues") = some none := by kernel_rfl
theorem t_Limits_local_names (P : Params) : takerIn (KK P) 53 (Str.ofString "local_names") = some none := by kernel_rfl
theorem t_Limits_ccalls (P : Params) : takerIn (KK P) 53 (Str.ofString "ccalls") = some none := by kernel_rfl
theorem t_Limits_frames (P : Params) : takerIn (KK P) 53 (Str.ofString "frames") = some none := by kernel_rfl
theorem t_Limits_stack (P : Params) : takerIn (KK P) 53 (Str.ofString "stack") = some none := by kernel_rfl
theorem t_Limits_flush (P : Params) : takerIn (KK P) 53 (Str.ofString "flush") = some none := by kernel_rfl
theorem t_Limits_steps (P : Params) : takerIn (KK P) 53 (Str.ofString "steps") = some none := by kernel_rfl
theorem t_Limits_text (P : Params) : takerIn (KK P) 53 (Str.ofString "text") = some none := by kernel_rfl
theorem a_Limits_text (P : Params) : findIn (KK P) (.ref 53) (Str.ofString "text") = some none := by kernel_rfl
theorem m_lim_init (P : Params) : findIn (KK P) (.ref 53) (Str.ofString "__init__") = some (some (.ref 36)) ∧ isFn (KK P) (.ref 36) = true := ⟨by kernel_rfl, by kernel_rfl⟩
theorem kk_Limits (P : Params) : KeepOK (KK P) (.ref 53) := .inl (by kernel_rfl)
theorem mk_Limits (P : Params) : makesIn (KK P) 53 = true := by kernel_rfl
theorem ok_Token (P : Params) : isOk 262 (KK P) = true := by kernel_rfl
theorem t_Token_kind (P : Params) : takerIn (KK P) 262 (Str.ofString "kind") = some none := by kernel_rfl
theorem a_Token_kind (P : Params) : findIn (KK P) (.ref 262) (Str.ofString "kind") = some none := by kernel_rfl
theorem t_Token_value (P : Params) : takerIn (KK P) 262 (Str.ofString "value") = some none := by kernel_rfl
theorem a_Token_value (P : Params) : findIn (KK P) (.ref 262) (Str.ofString "value") = some none := by kernel_rfl
theorem m_tok_init (P : Params) : findIn (KK P) (.ref 262) (Str.ofString "__init__") = some (some (.ref 259)) ∧ isFn (KK P) (.ref 259) = true := ⟨by kernel_rfl, by kernel_rfl⟩
theorem kk_Token (P : Params) : KeepOK (KK P) (.ref 262) := .inl (by kernel_rfl)
theorem mk_Token (P : Params) : makesIn (KK P) 262 = true := by kernel_rfl
theorem ok_Lexer (P : Params) : isOk 465 (KK P) = true := by kernel_rfl
theorem t_Lexer_text (P : Params) : takerIn (KK P) 465 (Str.ofString "text") = some none := by kernel_rfl
theorem a_Lexer_text (P : Params) : findIn (KK P) (.ref 465) (Str.ofString "text") = some none := by kernel_rfl
theorem t_Lexer_source (P : Params) : takerIn (KK P) 465 (Str.ofString "source") = some none := by kernel_rfl
theorem t_Lexer_chunk (P : Params) : takerIn (KK P) 465 (Str.ofString "chunk") = some none := by kernel_rfl
theorem a_Lexer_chunk (P : Params) : findIn (KK P) (.ref 465) (Str.ofString "chunk") = some none := by kernel_rfl
theorem t_Lexer_limits (P : Params) : takerIn (KK P) 465 (Str.ofString "limits") = some none := by kernel_rfl
theorem a_Lexer_limits (P : Params) : findIn (KK P) (.ref 465) (Str.ofString "limits") = some none := by kernel_rfl
theorem t_Lexer_kinds (P : Params) : takerIn (KK P) 465 (Str.ofString "kinds") = some none := by kernel_rfl
theorem a_Lexer_kinds (P : Params) : findIn (KK P) (.ref 465) (Str.ofString "kinds") = some none := by kernel_rfl
theorem t_Lexer_at (P : Params) : takerIn (KK P) 465 (Str.ofString "at") = some none := by kernel_rfl
theorem a_Lexer_at (P : Params) : findIn (KK P) (.ref 465) (Str.ofString "at") = some none := by kernel_rfl
theorem t_Lexer_sign (P : Params) : takerIn (KK P) 465 (Str.ofString "sign") = some none := by kernel_rfl
theorem a_Lexer_sign (P : Params) : findIn (KK P) (.ref 465) (Str.ofString "sign") = some none := by kernel_rfl
theorem t_Lexer_line (P : Params) : takerIn (KK P) 465 (Str.ofString "line") = some none := by kernel_rfl
theorem a_Lexer_line (P : Params) : findIn (KK P) (.ref 465) (Str.ofString "line") = some none := by kernel_rfl
theorem t_Lexer_last_line (P : Params) : takerIn (KK P) 465 (Str.ofString "last_line") = some none := by kernel_rfl
theorem t_Lexer_buffer (P : Params) : takerIn (KK P) 465 (Str.ofString "buffer") = some none := by kernel_rfl
theorem a_Lexer_buffer (P : Params) : findIn (KK P) (.ref 465) (Str.ofString "buffer") = some none := by kernel_rfl
theorem t_Lexer_current (P : Params) : takerIn (KK P) 465 (Str.ofString "current") = some none := by kernel_rfl
theorem a_Lexer_current (P : Params) : findIn (KK P) (.ref 465) (Str.ofString "current") = some none := by kernel_rfl
theorem t_Lexer_ahead (P : Params) : takerIn (KK P) 465 (Str.ofString "ahead") = some none := by kernel_rfl
theorem a_Lexer_ahead (P : Params) : findIn (KK P) (.ref 465) (Str.ofString "ahead") = some none := by kernel_rfl
theorem m_lex_init (P : Params) : findIn (KK P) (.ref 465) (Str.ofString "__init__") = some (some (.ref 280)) ∧ isFn (KK P) (.ref 280) = true := ⟨by kernel_rfl, by kernel_rfl⟩
theorem m_next (P : Params) : findIn (KK P) (.ref 465) (Str.ofString "next") = some (some (.ref 287)) ∧ isFn (KK P) (.ref 287) = true := ⟨by kernel_rfl, by kernel_rfl⟩
theorem m_lookahead (P : Params) : findIn (KK P) (.ref 465) (Str.ofString "lookahead") = some (some (.ref 294)) ∧ isFn (KK P) (.ref 294) = true := ⟨by kernel_rfl, by kernel_rfl⟩
theorem m_error (P : Params) : findIn (KK P) (.ref 465) (Str.ofString "error") = some (some (.ref 301)) ∧ isFn (KK P) (.ref 301) = true := ⟨by kernel_rfl, by kernel_rfl⟩
theorem m_syntax_error (P : Params) : findIn (KK P) (.ref 465) (Str.ofString "syntax_error") = some (some (.ref 308)) ∧ isFn (KK P) (.ref 308) = true := ⟨by kernel_rfl, by kernel_rfl⟩
theorem m_near_text (P : Params) : findIn (KK P) (.ref 465) (Str.ofString "near_text") = some (some (.ref 315)) ∧ isFn (KK P) (.ref 315) = true := ⟨by kernel_rfl, by kernel_rfl⟩
theorem m_move (P : Params) : findIn (KK P) (.ref 465) (Str.ofString "move") = some (some (.ref 322)) ∧ isFn (KK P) (.ref 322) = true := ⟨by kernel_rfl, by kernel_rfl⟩
theorem m_keep (P : Params) : findIn (KK P) (.ref 465) (Str.ofString "keep") = some (some (.ref 329)) ∧ isFn (KK P) (.ref 329) = true := ⟨by kernel_rfl, by kernel_rfl⟩
theorem m_keep_and_move (P : Params) : findIn (KK P) (.ref 465) (Str.ofString "keep_and_move") = some (some (.ref 336)) ∧ isFn (KK P) (.ref 336) = true := ⟨by kernel_rfl, by kernel_rfl⟩
theorem m_keep_if (P : Params) : findIn (KK P) (.ref 465) (Str.ofString "keep_if") = some (some (.ref 343)) ∧ isFn (KK P) (.ref 343) = true := ⟨by kernel_rfl, by kernel_rfl⟩
theorem m_clear (P : Params) : findIn (KK P) (.ref 465) (Str.ofString "clear") = some (some (.ref 350)) ∧ isFn (KK P) (.ref 350) = true := ⟨by kernel_rfl, by kernel_rfl⟩
theorem m_end_line (P : Params) : findIn (KK P) (.ref 465) (Str.ofString "end_line") = some (some (.ref 357)) ∧ isFn (KK P) (.ref 357) = true := ⟨by kernel_rfl, by kernel_rfl⟩
theorem m_read (P : Params) : findIn (KK P) (.ref 465) (Str.ofString "read") = some (some (.ref 364)) ∧ isFn (KK P) (.ref 364) = true := ⟨by kernel_rfl, by kernel_rfl⟩
theorem m_skip_blank (P : Params) : findIn (KK P) (.ref 465) (Str.ofString "skip_blank") = some (some (.ref 371)) ∧ isFn (KK P) (.ref 371) = true := ⟨by kernel_rfl, by kernel_rfl⟩
theorem m_sign_behind (P : Params) : findIn (KK P) (.ref 465) (Str.ofString "sign_behind") = some (some (.ref 378)) ∧ isFn (KK P) (.ref 378) = true := ⟨by kernel_rfl, by kernel_rfl⟩
theorem m_skip_comment (P : Params) : findIn (KK P) (.ref 465) (Str.ofString "skip_comment") = some (some (.ref 385)) ∧ isFn (KK P) (.ref 385) = true := ⟨by kernel_rfl, by kernel_rfl⟩
theorem m_read_compared (P : Params) : findIn (KK P) (.ref 465) (Str.ofString "read_compared") = some (some (.ref 392)) ∧ isFn (KK P) (.ref 392) = true := ⟨by kernel_rfl, by kernel_rfl⟩
theorem m_read_dots (P : Params) : findIn (KK P) (.ref 465) (Str.ofString "read_dots") = some (some (.ref 399)) ∧ isFn (KK P) (.ref 399) = true := ⟨by kernel_rfl, by kernel_rfl⟩
theorem m_read_word (P : Params) : findIn (KK P) (.ref 465) (Str.ofString "read_word") = some (some (.ref 406)) ∧ isFn (KK P) (.ref 406) = true := ⟨by kernel_rfl, by kernel_rfl⟩
theorem m_read_numeral (P : Params) : findIn (KK P) (.ref 465) (Str.ofString "read_numeral") = some (some (.ref 413)) ∧ isFn (KK P) (.ref 413) = true := ⟨by kernel_rfl, by kernel_rfl⟩
theorem m_read_bracket (P : Params) : findIn (KK P) (.ref 465) (Str.ofString "read_bracket") = some (some (.ref 420)) ∧ isFn (KK P) (.ref 420) = true := ⟨by kernel_rfl, by kernel_rfl⟩
theorem m_read_level (P : Params) : findIn (KK P) (.ref 465) (Str.ofString "read_level") = some (some (.ref 427)) ∧ isFn (KK P) (.ref 427) = true := ⟨by kernel_rfl, by kernel_rfl⟩
theorem m_read_long (P : Params) : findIn (KK P) (.ref 465) (Str.ofString "read_long") = some (some (.ref 434)) ∧ isFn (KK P) (.ref 434) = true := ⟨by kernel_rfl, by kernel_rfl⟩
theorem m_read_string (P : Params) : findIn (KK P) (.ref 465) (Str.ofString "read_string") = some (some (.ref 448)) ∧ isFn (KK P) (.ref 448) = true := ⟨by kernel_rfl, by kernel_rfl⟩
theorem m_read_escape (P : Params) : findIn (KK P) (.ref 465) (Str.ofString "read_escape") = some (some (.ref 455)) ∧ isFn (KK P) (.ref 455) = true := ⟨by kernel_rfl, by kernel_rfl⟩
theorem kk_Lexer (P : Params) : KeepOK (KK P) (.ref 465) := .inl (by kernel_rfl)
theorem mk_Lexer (P : Params) : makesIn (KK P) 465 = true := by kernel_rfl
theorem ok_TokenRow (P : Params) : isOk 521 (KK P) = true := by kernel_rfl
theorem t_TokenRow_pairs (P : Params) : takerIn (KK P) 521 (Str.ofString "pairs") = some none := by kernel_rfl
theorem a_TokenRow_pairs (P : Params) : findIn (KK P) (.ref 521) (Str.ofString "pairs") = some none := by kernel_rfl
theorem t_TokenRow_at (P : Params) : takerIn (KK P) 521 (Str.ofString "at") = some none := by kernel_rfl
theorem a_TokenRow_at (P : Params) : findIn (KK P) (.ref 521) (Str.ofString "at") = some none := by kernel_rfl
theorem t_TokenRow_line (P : Params) : takerIn (KK P) 521 (Str.ofString "line") = some none := by kernel_rfl
theorem a_TokenRow_line (P : Params) : findIn (KK P) (.ref 521) (Str.ofString "line") = some none := by kernel_rfl
theorem t_TokenRow_last_line (P : Params) : takerIn (KK P) 521 (Str.ofString "last_line") = some none := by kernel_rfl
theorem t_TokenRow_current (P : Params) : takerIn (KK P) 521 (Str.ofString "current") = some none := by kernel_rfl
theorem a_TokenRow_current (P : Params) : findIn (KK P) (.ref 521) (Str.ofString "current") = some none := by kernel_rfl
theorem m_row_init (P : Params) : findIn (KK P) (.ref 521) (Str.ofString "__init__") = some (some (.ref 483)) ∧ isFn (KK P) (.ref 483) = true := ⟨by kernel_rfl, by kernel_rfl⟩
theorem m_row_token_at (P : Params) : findIn (KK P) (.ref 521) (Str.ofString "token_at") = some (some (.ref 490)) ∧ isFn (KK P) (.ref 490) = true := ⟨by kernel_rfl, by kernel_rfl⟩
theorem m_row_next (P : Params) : findIn (KK P) (.ref 521) (Str.ofString "next") = some (some (.ref 497)) ∧ isFn (KK P) (.ref 497) = true := ⟨by kernel_rfl, by kernel_rfl⟩
theorem m_row_lookahead (P : Params) : findIn (KK P) (.ref 521) (Str.ofString "lookahead") = some (some (.ref 504)) ∧ isFn (KK P) (.ref 504) = true := ⟨by kernel_rfl, by kernel_rfl⟩
theorem m_row_error (P : Params) : findIn (KK P) (.ref 521) (Str.ofString "error") = some (some (.ref 511)) ∧ isFn (KK P) (.ref 511) = true := ⟨by kernel_rfl, by kernel_rfl⟩
theorem m_row_syntax_error (P : Params) : findIn (KK P) (.ref 521) (Str.ofString "syntax_error") = some (some (.ref 518)) ∧ isFn (KK P) (.ref 518) = true := ⟨by kernel_rfl, by kernel_rfl⟩
theorem kk_TokenRow (P : Params) : KeepOK (KK P) (.ref 521) := .inl (by kernel_rfl)
theorem mk_TokenRow (P : Params) : makesIn (KK P) 521 = true := by kernel_rfl
noncomputable def resL : List (List UInt8 × Nat) := [([97, 110, 100], 440), ([98, 114, 101, 97, 107], 441), ([100, 111], 442), ([101, 108, 115, 101], 443), ([101, 108, 115, 101, 105, 102], 444), ([101, 110, 100], 445), ([102, 97, 108, 115, 101], 446), ([102, 111, 114], 447), ([102, 117, 110, 99, 116, 105, 111, 110], 448), ([105, 102], 449), ([105, 110], 450), ([108, 111, 99, 97, 108], 451), ([110, 105, 108], 452), ([110, 111, 116], 453), ([111, 114], 454), ([114, 101, 112, 101, 97, 116], 455), ([114, 101, 116, 117, 114, 110], 456), ([116, 104, 101, 110], 457), ([116, 114, 117, 101], 458), ([117, 110, 116, 105, 108], 459), ([119, 104, 105, 108, 101], 460)]
noncomputable def resV : List Value := resL.map fun p => .bytes p.1.toArray p.2
theorem k_RESERVED (P : Params) : List.lookup 181 (KK P) = some ⟨.type "list", none, .seq resV.toArray 0, #[]⟩ := by kernel_rfl
noncomputable def othL : List (List UInt8 × Nat) := [([46, 46], 482), ([46, 46, 46], 483), ([61, 61], 484), ([62, 61], 485), ([60, 61], 486), ([126, 61], 487), ([60, 110, 117, 109, 98, 101, 114, 62], 488), ([60, 110, 97, 109, 101, 62], 489), ([60, 115, 116, 114, 105, 110, 103, 62], 490), ([60, 101, 111, 102, 62], 491)]
noncomputable def othV : List Value := othL.map fun p => .bytes p.1.toArray p.2
theorem k_OTHER_TEXTS (P : Params) : List.lookup 182 (KK P) = some ⟨.type "list", none, .seq othV.toArray 0, #[]⟩ := by kernel_rfl
end Mine
end
section
open PySem PySem.W PySem.Calls PyProof.Rows Builtin
set_option Elab.async false
set_option maxRecDepth 100000
set_option maxHeartbeats 1000000
set_option linter.unusedVariables false
namespace Mine
noncomputable abbrev TI (h : Heap) (v : Value) (T : String) : Prop := ∀ s : Shared, s.heap = h → s.TypeIs v T
section
variable {A : Around} {K : Frag} {h : Heap} {env : Env}
theorem TI.bytes {b : Array UInt8} {t : Tok} : TI h (.bytes b t) "bytes" := fun s _ => typeIs_bytes s b t
theorem TI.int {i : Int} {t : Tok} : TI h (.int i t) "int" := fun s _ => typeIs_int s i t
theorem TI.ref {a : Addr} {o : Obj} {T : String} (e : h.get? a = some o) (hc : o.cls = .type T) : TI h (.ref a) T := fun s hs => ⟨o, by rw [hs]; exact e, hc⟩
theorem W_bi {T : String} {name : Str} {id : String} {B : Builtin} {self : Value} {rest : List Value} {Q : Value → Heap → Prop} (slot : Slot T name id) (hT : TI h self T) (hd : dirtyIds.contains id = false)
    (entry : entryFor table id = some B) (args : argsOk id ⟨self :: rest, []⟩) (H : W prog w A.in1 (B ⟨self :: rest, []⟩) h fun fin h' => ∃ v, fin = .done (.ret v) ∧ Q v h') :
    W prog w A (call (.builtin id) (self :: rest) []) h Q := by
  refine W.call (CW.call_builtin hd slot.plain entry (W.any fun g d tk os QQ EE k => slot.check _ _ _ _ _ _ _ _ (hT _ rfl) args (k _ _ _ ?_)))
  exact H.mono fun fin h' ⟨v, e, q⟩ => by subst e; exact ⟨v, rfl, q⟩
theorem W.callSpecial {T : String} {name : Str} {id : String} {v : Value} {rest : List Value} {Q : Option Value → Heap → Prop} (hT : TI h v T) (slot : Slot T name id)
    (H : W prog w A (PySem.call (.builtin id) (v :: rest) []) h fun r h' => Q (some r) h') : W prog w A (callSpecial? v name rest) h Q := by
  unfold callSpecial?
  refine W.bind (W.any fun g d tk os QQ EE k => wpAny_specialOf (hT _ rfl) slot.lookup (k _ _ _ ?_))
  refine W.holding ?_
  rw [slot.bind]
  exact W.bind (W.pure (W.bind (H.mono fun r h' q => W.pure q)))
theorem W.getItem {o i : Value} {T id : String} {Q : Value → Heap → Prop} (hT : TI h o T) (hn : seqItemTypes.contains T = false) (slot : Slot T "__getitem__" id)
    (H : W prog w A (PySem.call (.builtin id) [o, i] []) h Q) : W prog w A (PySem.getItem o i) h Q := by
  unfold PySem.getItem
  refine W.holding (W.bind (W.any fun g d tk os QQ EE k => wpAny_sequenceKey (hT _ rfl) hn (k _ _ _ ?_)))
  exact W.bind (W.callSpecial hT slot (H.mono fun v h' q => W.pure q))
theorem S_tail {value slice : Expr} {o i : Value} {T id : String} {vs : List Value} {Q : Value → Heap → Prop} (hT : TI h o T) (slot : Slot T "__getitem__" id) (H : W prog w A (getItem o i) h Q)
    (hs : subscripted slice false o i = operate vs (getItem o i) := by with_unfolding_all rfl) : W prog w A (subscriptTail value slice o i) h Q := by
  unfold subscriptTail
  refine W.bind ?_
  unfold getitemInPython
  refine W.bind (W.any fun g d tk os QQ EE k => wpAny_specialOf (hT _ rfl) slot.lookup (k _ _ _ ?_))
  refine W.pure (W.bind ?_)
  rw [hs]
  exact W.operate (H.mono fun r h' q => W.bind (W.letTemp (W.pure q)))
namespace FA
theorem look_bb : typeLookup (.type "bytes") "__buffer__" = pure (some (.builtin "bytes.__buffer__")) := by rw [typeLookup_type, builtinLookup_eq_fast]; kernel_rfl
theorem look_br : typeLookup (.type "bytes") "__release_buffer__" = pure none := by rw [typeLookup_type, builtinLookup_eq_fast]; kernel_rfl
theorem look_ab : typeLookup (.type "bytearray") "__buffer__" = pure (some (.builtin "bytearray.__buffer__")) := by rw [typeLookup_type, builtinLookup_eq_fast]; kernel_rfl
theorem look_ar : typeLookup (.type "bytearray") "__release_buffer__" = pure (some (.builtin "bytearray.__release_buffer__")) := by rw [typeLookup_type, builtinLookup_eq_fast]; kernel_rfl
theorem slot_add : Slot "bytes" "__add__" "bytes.__add__" := FB.slot_bytes_add
theorem seq_add : seqSlot? (.type "bytes") "__add__" = pure (some (.builtin "bytes.__add__")) := PyProof.Rows.seqSlot_of slot_add.lookup (by decide +kernel)
theorem look_radd : typeLookup (.type "bytes") "__radd__" = pure none := by rw [typeLookup_type, builtinLookup_eq_fast]; kernel_rfl
theorem noFill_add : fillsNumberSlot (.type "bytes") "add" = pure false := by
  show (do
    let f ← typeLookup (.type "bytes") (dunder "add")
    let r ← typeLookup (.type "bytes") (dunderR "add")
    return (f.isSome && !isSeqSlot f) || (r.isSome && !isSeqSlot r)) = _
  have e1 : typeLookup (.type "bytes") (dunder "add") = _ := FB.slot_bytes_add.lookup
  have e2 : typeLookup (.type "bytes") (dunderR "add") = _ := look_radd
  rw [e1, e2]
  kernel_rfl
theorem sub_aa : isSubtype (.type "bytearray") (.type "bytearray") = pure true := by rw [isSubtype_type]; kernel_rfl
end FA
theorem Lk_special {M : Model} {v : Value} {T : String} {name : Str} {r : Option Value} (hT : TI h v T) (hl : typeLookup (.type T) name = pure r) : Looks M h (specialOf v name) r :=
  fun A Q E s k q => wpAny_specialOf (by
    have := hT ⟨h, s.gens, s.drawn, s.toks, s.os⟩ rfl
    cases v with
    | ref a => obtain ⟨o, e, c⟩ := this; exact ⟨o, k _ _ e, c⟩
    | _ => exact this) hl q
theorem Lk_isInst {M : Model} {v : Value} {T B : String} {r : Bool} (hT : TI h v T) (hl : isSubtype (.type T) (.type B) = pure r) : Looks M h (isInstance v (.type B)) r :=
  fun A Q E s k q => wpAny_isInstance (by
    have := hT ⟨h, s.gens, s.drawn, s.toks, s.os⟩ rfl
    cases v with
    | ref a => obtain ⟨o, e, c⟩ := this; exact ⟨o, k _ _ e, c⟩
    | _ => exact this) hl q
theorem Lk_typeOf {M : Model} {v : Value} {T : String} (hT : TI h v T) : Looks M h (typeOf v) (.type T) :=
  fun A Q E s k q => wpAny_typeOf (by
    have := hT ⟨h, s.gens, s.drawn, s.toks, s.os⟩ rfl
    cases v with
    | ref a => obtain ⟨o, e, c⟩ := this; exact ⟨o, k _ _ e, c⟩
    | _ => exact this) q
theorem Lk_ownBuf {M : Model} {v : Value} {T id : String} {name : String} (hT : TI h v T) (hl : typeLookup (.type T) name = pure (some (.builtin id))) (hs : isSubtype (.type T) (.type T) = pure true)
    (he : id.endsWith ("." ++ name) = true := by decide +kernel) (hd : id.dropRight (name.length + 1) = T := by decide +kernel) : Looks M h (Bytes.slotIsOwn v name) true := by
  unfold Bytes.slotIsOwn
  refine (Lk_special hT hl).andThen ?_
  show Looks M h (if (!id.endsWith ("." ++ name)) = true then _ else _) true
  rw [he, hd]
  exact Lk_isInst hT hs
theorem Lk_noBuf {M : Model} {v : Value} {T : String} {name : String} (hT : TI h v T) (hl : typeLookup (.type T) name = pure none) : Looks M h (Bytes.slotIsOwn v name) true := by
  unfold Bytes.slotIsOwn
  exact (Lk_special hT hl).andThen .now
theorem Lk_relB {M : Model} {b : Array UInt8} {t : Tok} : Looks M h (Bytes.ownRelease (.bytes b t)) false := by
  unfold Bytes.ownRelease
  exact (Lk_noBuf TI.bytes FA.look_br).andThen .now
theorem Lk_buffer {M : Model} {b : Array UInt8} {t : Tok} {id : String} {full : Bool} : Looks M h (Bytes.buffer? id (.bytes b t) full) (some b) := by
  intro A Q E s k q
  obtain ⟨hh, g, d, tk, os⟩ := s
  have L1 := (Lk_special (h := hh) (M := M) (v := .bytes b t) TI.bytes FA.look_bb)
  have L2 := Lk_ownBuf (h := hh) (M := M) (v := .bytes b t) (name := "__buffer__") TI.bytes FA.look_bb F.sub_bytes_bytes
  have L3 := Lk_relB (h := hh) (M := M) (b := b) (t := t)
  unfold Bytes.buffer?
  repeat lk
  exact q
section
variable {l m : List UInt8} {t u : Tok} {Q : Value → Heap → Prop}
theorem B_len (hl : l.length ≤ 1000000) (q : ∀ t, Q (.int l.length t) h) : W prog w A (call (.builtin "len") [.bytes l.toArray t] []) h Q :=
  W.any fun g d tk os QQ EE k => len_bytes (by simp only [List.size_toArray]; omega) (by simp only [List.size_toArray]; exact k _ _ _ (q _))
theorem B_item {value slice : Expr} {i : Int} (hl : l.length ≤ 1000000) (h0 : 0 ≤ i) (h1 : i < l.length) (q : ∀ t, Q (.int (l.getD i.toNat 0).toNat t) h)
    (hs : subscripted slice false (.bytes l.toArray t) (.int i u) = operate [.bytes l.toArray t, .int i u] (getItem (.bytes l.toArray t) (.int i u)) := by with_unfolding_all rfl) : W prog w A (subscriptTail value slice (.bytes l.toArray t) (.int i u)) h Q :=
  S_tail TI.bytes FB.slot_bytes_getitem (W.any fun g d tk os QQ EE k => getItem_bytes (by omega) h0 h1 (k _ _ _ (q _))) hs
theorem B_eq (q : Q (.bool (l == m)) h) : W prog w A (compareOp .Eq (.bytes l.toArray t) (.bytes m.toArray u)) h Q :=
  W.any fun g d tk os QQ EE k => eq_bytes (k _ _ _ q)
theorem B_add (hl : l.length ≤ 1000000) (hm : m.length ≤ 1000000) (q : ∀ t, Q (.bytes (l ++ m).toArray t) h) : W prog w A (binaryOp .Add (.bytes l.toArray t) (.bytes m.toArray u)) h Q := by
  refine W.any fun g d tk os QQ EE k => ?_
  refine concat_meets (typeIs_bytes _ _ _) (typeIs_bytes _ _ _) FA.noFill_add FA.seq_add FA.slot_add FB.entry_bytes_add (FB.args_bytes_add_2 _ _) (S := fun A R s => ∀ t tk, R (.ok (.ret (.bytes (l ++ m).toArray t))) { s with toks := tk }) (.of_wp fun prog w A R s hq => ?_) (fun t tk => k _ _ _ (q t))
  unfold Builtin.«bytes.__add__»
  obtain ⟨hh, g, d, tk, os⟩ := s
  have L1 := Lk_buffer (h := hh) (M := model prog w) (b := l.toArray) (t := t) (id := "bytes.__add__") (full := false)
  have L2 := Lk_buffer (h := hh) (M := model prog w) (b := m.toArray) (t := u) (id := "bytes.__add__") (full := false)
  have L3 := Lk_typeOf (h := hh) (M := model prog w) (v := .bytes l.toArray t) (T := "bytes") TI.bytes
  have L4 := Lk_typeOf (h := hh) (M := model prog w) (v := .bytes m.toArray u) (T := "bytes") TI.bytes
  unfold Bytes.bufferQuiet?
  have hlong : Bytes.tooLong (l.toArray.size + m.toArray.size) = false := by
    simp only [Bytes.tooLong, List.size_toArray, decide_eq_false_iff_not]; rw [sizeLine_eq]; omega
  have fin : ∀ tk', wpAny (model prog w) A.in1 (do let r ← mkBytes (l.toArray ++ m.toArray); ret r) (fun fin s' => ∃ v, fin = .done (.ret v) ∧ R (.ok (.ret v)) s') (fun e s' => R (.error e) s') ⟨hh, g, d, tk', os⟩ := fun tk' =>
    wpAny_bind (wpAny_mkBytes (wpAny_pure ⟨_, rfl, by rw [List.append_toArray]; exact hq _ _⟩) (by simp only [Array.size_append, List.size_toArray]; rw [sizeLine_eq]; omega))
  repeat (first | with_reducible refine wpAny_attempt ?_ | lk)
  rcases l with _ | ⟨x, l⟩
  · repeat (first | with_reducible refine wpAny_attempt ?_ | lk)
    exact ⟨_, rfl, hq _ _⟩
  · have e1 : (x :: l).toArray.isEmpty = false := rfl
    rw [e1]
    rcases m with _ | ⟨y, m⟩
    · repeat (first | with_reducible refine wpAny_attempt ?_ | lk)
      refine ⟨_, rfl, ?_⟩
      have := hq t tk
      rw [List.append_nil] at this
      exact this
    · have e2 : (y :: m).toArray.isEmpty = false := rfl
      simp only [Bool.false_eq_true, if_false, e2, hlong]
      exact fin _
theorem B_in {n : Int} (h0 : 0 ≤ n) (h1 : n < 256) (q : Q (.bool (l.contains n.toNat.toUInt8)) h) : W prog w A (compareOp .In (.int n u) (.bytes l.toArray t)) h Q := by
  refine W.any fun g d tk os QQ EE k => ?_
  refine in_gives (typeIs_bytes _ _ _) FB.slot_bytes_contains FB.entry_bytes_contains (FB.args_bytes_contains_2 _ _) (r := l.contains n.toNat.toUInt8) (.of_wp fun M A E s Q hq => ?_) (k _ _ _ q)
  unfold Builtin.«bytes.__contains__»
  have L1 : ∀ id, Looks M s.heap (Bytes.buffer? id (.bytes l.toArray t) false) (some l.toArray) := fun id => Lk_buffer
  obtain ⟨hh, g, d, tk, os⟩ := s
  have L1 := L1 "bytes.__contains__"
  unfold Bytes.containsIn
  repeat (first | with_reducible refine wpAny_attempt ?_ | lk)
  rw [if_neg (by simp only [Bool.or_eq_true, decide_eq_true_eq]; omega)]
  refine wpAny_pure (wpAny_pure ⟨_, rfl, ?_⟩)
  have e : l.toArray.contains n.toNat.toUInt8 = l.contains n.toNat.toUInt8 := by simp
  rw [e]; exact hq
end
noncomputable def IsT (h : Heap) (a : Addr) (vs : List Value) : Prop := ∃ n, h.get? a = some { cls := .type "tuple", data := .seq vs.toArray n }
theorem IsL.isList {a : Addr} {vs : List Value} (x : IsL h a vs) : h.IsList a vs.toArray := let ⟨n, e⟩ := x; ⟨_, e, rfl, n, rfl⟩
theorem IsT.isTuple {a : Addr} {vs : List Value} (x : IsT h a vs) : h.IsTuple a vs.toArray := let ⟨n, e⟩ := x; ⟨_, e, rfl, n, rfl⟩
theorem IsL.keeps {h' : Heap} {F : List Addr} {a : Addr} {vs : List Value} (x : IsL h a vs) (k : Keeps h h' F) (n : a ∉ F) : IsL h' a vs := let ⟨m, e⟩ := x; ⟨m, k _ _ e n⟩
theorem IsT.keeps {h' : Heap} {F : List Addr} {a : Addr} {vs : List Value} (x : IsT h a vs) (k : Keeps h h' F) (n : a ∉ F) : IsT h' a vs := let ⟨m, e⟩ := x; ⟨m, k _ _ e n⟩
theorem push_new {o : Obj} (hf : o.isFreed = false) : (h.push o).get? h.objs.size = some o := Heap.get?_push_size _ hf
theorem size_new : h.get? h.objs.size = none := by
  cases q : h.get? h.objs.size with
  | none => rfl
  | some o => exact absurd (Heap.lt_size q) (Nat.lt_irrefl _)
section
variable {Q : Value → Heap → Prop}
theorem L_newT {vs : List Value} (hl : vs.length ≤ 1000000) (q : ∀ a h', h.get? a = none → Keeps h h' [] → IsT h' a vs → Q (.ref a) h') : W prog w A (newTuple vs) h Q :=
  W.any fun g d tk os QQ EE k => wpAny_newTuple (k _ _ _ (q _ _ size_new Keeps.push ⟨0, push_new rfl⟩)) (by rw [sizeLine_eq]; omega)
theorem L_newL {vs : List Value} (hl : vs.length ≤ 1000000) (q : ∀ a h', h.get? a = none → Keeps h h' [] → IsL h' a vs → Q (.ref a) h') : W prog w A (newList vs) h Q :=
  W.any fun g d tk os QQ EE k => wpAny_newList (k _ _ _ (q _ _ size_new Keeps.push ⟨0, push_new rfl⟩)) (by rw [sizeLine_eq]; omega)
theorem W_tuple {elts : List Expr} {x1 : Nat} {pos : Pos} (H : W prog w A (spliced (backTo pos (starEach elts env))) h fun vs h1 => vs.length ≤ 1000000 ∧ ∀ a h', h1.get? a = none → Keeps h1 h' [] → IsT h' a vs → Q (.ref a) h') :
    W prog w A (eval (.Tuple elts x1 pos) env) h Q := by
  rw [arm_eval_Tuple]
  exact W.bind (W.standAt (W.bind (H.mono fun vs h1 q => L_newT q.1 q.2)))
theorem W_list {elts : List Expr} {pos : Pos} (H : W prog w A (spliced (backTo pos (starEach elts env))) h fun vs h1 => vs.length ≤ 1000000 ∧ ∀ a h', h1.get? a = none → Keeps h1 h' [] → IsL h' a vs → Q (.ref a) h') :
    W prog w A (eval (.List elts pos) env) h Q := by
  rw [arm_eval_List]
  exact W.bind (W.standAt (W.bind (H.mono fun vs h1 q => L_newL q.1 q.2)))
theorem Ints.any {vs : List Value} {ns : List Int} (x : Ints vs ns) (k : Int) : vs.any (isInt k) = ns.any (· == k) := by
  induction x with
  | nil => rfl
  | cons n t r ih => simp only [List.any_cons, isInt, ih]
theorem Ints.eqs {vs : List Value} {ns : List Int} (x : Ints vs ns) (k : Int) (t : Tok) : ∀ y ∈ vs, MeetsSeq.EqGives y (.int k t) (isInt k y) := by
  induction x with
  | nil => exact fun _ m => nomatch m
  | cons n u r ih =>
    intro y m
    rcases List.mem_cons.mp m with rfl | m
    · exact MeetsSeq.EqGives.int n k u t
    · exact ih y m
theorem any_dec (ns : List Int) (k : Int) : ns.any (· == k) = decide (k ∈ ns) := by
  rw [Bool.eq_iff_iff, List.any_eq_true, decide_eq_true_eq]
  exact ⟨fun ⟨x, m, e⟩ => (beq_iff_eq.mp e) ▸ m, fun m => ⟨k, m, beq_self_eq_true k⟩⟩
theorem C_inT {a : Addr} {vs : List Value} {ns : List Int} {k : Int} {t : Tok} (x : IsT h a vs) (i : Ints vs ns) (q : Q (.bool (decide (k ∈ ns))) h) : W prog w A (compareOp .In (.int k t) (.ref a)) h Q :=
  W.any fun g d tk os QQ EE kk => SeqAt.in_tupleAt (isInt k) x.isTuple (fun y m => (i.eqs k t y (by simpa using m)).at _ _) (by rw [← Array.any_toList, show vs.toArray.toList = vs from rfl, i.any, any_dec]; exact kk _ _ _ q)
theorem C_ninT {a : Addr} {vs : List Value} {ns : List Int} {k : Int} {t : Tok} (x : IsT h a vs) (i : Ints vs ns) (q : Q (.bool (!decide (k ∈ ns))) h) : W prog w A (compareOp .NotIn (.int k t) (.ref a)) h Q :=
  W.any fun g d tk os QQ EE kk => SeqAt.notIn_tupleAt (isInt k) x.isTuple (fun y m => (i.eqs k t y (by simpa using m)).at _ _) (by rw [← Array.any_toList, show vs.toArray.toList = vs from rfl, i.any, any_dec]; exact kk _ _ _ q)
end
noncomputable def baO (bs : List UInt8) (n : Nat) : Obj := { cls := .type "bytearray", data := .bytearray bs.toArray n }
noncomputable def IsB (h : Heap) (a : Addr) (bs : List UInt8) : Prop := h.get? a = some (baO bs 0)
namespace FA
theorem slot_len : Slot "bytearray" "__len__" "bytearray.__len__" :=
  .of (owner := "bytearray") (n := "__len__") (by rw [typeLookup_type, builtinLookup_eq_fast]; kernel_rfl) (by decide +kernel) (by decide +kernel) (by decide +kernel)
    (by first | exact .inl (by decide +kernel) | exact .inr (by decide +kernel)) (by rw [isSubtype_type]; kernel_rfl)
theorem entry_len : entryFor table "bytearray.__len__" = some Builtin.«bytearray.__len__» := entryFor_of_tree (by kernel_rfl)
theorem args_len (a : Value) : argsOk "bytearray.__len__" ⟨[a], []⟩ := by unfold argsOk; kernel_rfl
theorem slot_getitem : Slot "bytearray" "__getitem__" "bytearray.__getitem__" :=
  .of (owner := "bytearray") (n := "__getitem__") (by rw [typeLookup_type, builtinLookup_eq_fast]; kernel_rfl) (by decide +kernel) (by decide +kernel) (by decide +kernel)
    (by first | exact .inl (by decide +kernel) | exact .inr (by decide +kernel)) (by rw [isSubtype_type]; kernel_rfl)
theorem entry_getitem : entryFor table "bytearray.__getitem__" = some Builtin.«bytearray.__getitem__» := entryFor_of_tree (by kernel_rfl)
theorem args_getitem (a b : Value) : argsOk "bytearray.__getitem__" ⟨[a, b], []⟩ := by unfold argsOk; kernel_rfl
theorem slot_append : Slot "bytearray" "append" "bytearray.append" :=
  .of (owner := "bytearray") (n := "append") (by rw [typeLookup_type, builtinLookup_eq_fast]; kernel_rfl) (by decide +kernel) (by decide +kernel) (by decide +kernel)
    (by first | exact .inl (by decide +kernel) | exact .inr (by decide +kernel)) (by rw [isSubtype_type]; kernel_rfl)
theorem entry_append : entryFor table "bytearray.append" = some Builtin.«bytearray.append» := entryFor_of_tree (by kernel_rfl)
theorem args_append (a b : Value) : argsOk "bytearray.append" ⟨[a, b], []⟩ := by unfold argsOk; kernel_rfl
theorem init_slot : Slot "bytearray" "__init__" "bytearray.__init__" :=
  .of (owner := "bytearray") (n := "__init__") (by rw [typeLookup_type, builtinLookup_eq_fast]; kernel_rfl) (by decide +kernel) (by decide +kernel) (by decide +kernel)
    (by first | exact .inl (by decide +kernel) | exact .inr (by decide +kernel)) (by rw [isSubtype_type]; kernel_rfl)
theorem entry_init : entryFor table "bytearray.__init__" = some Builtin.«bytearray.__init__» := entryFor_of_tree (by kernel_rfl)
theorem args_init (a : Value) : argsOk "bytearray.__init__" ⟨[a], []⟩ := by unfold argsOk; kernel_rfl
theorem entry_new : entryFor table "bytearray.__new__" = some Builtin.«list.__new__» := entryFor_alias (id' := "list.__new__") (by kernel_rfl) (by first | rfl | decide +kernel) (by decide +kernel) (by kernel_rfl)
theorem plain_new : plainId "bytearray.__new__" = true := by decide +kernel
set_option maxRecDepth 1000000 in
set_option maxHeartbeats 4000000 in
theorem owner_new : ("bytearray.__new__".splitOn ".__new__").headD "" = "bytearray" := by rw [split_bytearray]; rfl
theorem newCall : checkBuiltinCall "bytearray.__new__" ⟨[.type "bytearray"], []⟩ = pure () := by kernel_rfl
theorem type_append : typeOf (.builtin "bytearray.append") = pure (.type "method_descriptor") := by show builtinType _ = _; rw [builtinType_eq_fast]; kernel_rfl
theorem plainAttrs_ba : PlainAttrs "bytearray" :=
  ⟨⟨"bytearray.__getattribute__", by rw [typeLookup_type, builtinLookup_eq_fast]; kernel_rfl, by decide +kernel⟩, by rw [typeLookup_type, builtinLookup_eq_fast]; kernel_rfl⟩
end FA
theorem IsB.ti {a : Addr} {bs : List UInt8} (x : IsB h a bs) : TI h (.ref a) "bytearray" := TI.ref x rfl
theorem IsB.keeps {h' : Heap} {F : List Addr} {a : Addr} {bs : List UInt8} (x : IsB h a bs) (k : Keeps h h' F) (n : a ∉ F) : IsB h' a bs := k _ _ x n
theorem W.ite_no {α : Type} {c : Prop} [Decidable c] {a b : Sem α} {Q : α → Heap → Prop} (hc : ¬ c) (H : W prog w A b h Q) : W prog w A (if c then a else b) h Q := by rw [if_neg hc]; exact H
theorem W.ite_yes {α : Type} {c : Prop} [Decidable c] {a b : Sem α} {Q : α → Heap → Prop} (hc : c) (H : W prog w A a h Q) : W prog w A (if c then a else b) h Q := by rw [if_pos hc]; exact H
theorem BA_exported {self : Value} {Q : Bool → Heap → Prop} (q : Q false h) : W prog w A (Bytes.exported self) h Q := by
  unfold Bytes.exported
  refine W.stackAny (fun c p hd => ?_) q
  have no : ∀ (i : String) (as : Args), dirty (.builtin i as) = false → i ∉ dirtyIds := fun i as hd m => by
    have hd' : dirtyIds.contains i = false := hd
    rw [List.contains_iff_mem.mpr m] at hd'; cases hd'
  cases c with
  | builtin id as =>
    have n := no _ _ hd
    have ne : ∀ x ∈ dirtyIds, id ≠ x := fun x m e => n (e ▸ m)
    have nd : Bytes.decodersThatHold.contains id = false := Bool.eq_false_iff.mpr fun m => n (List.mem_append_right _ (List.contains_iff_mem.mp m))
    obtain ⟨l, kw⟩ := as
    delta Bytes.exported.match_1
    refine (dif_neg (ne _ (.head _))).trans ((dif_neg (ne _ (.tail _ (.head _)))).trans ((dif_neg (ne _ (.tail _ (.tail _ (.head _))))).trans ((dif_neg (ne _ (.tail _ (.tail _ (.tail _ (.head _)))))).trans ((dif_neg (ne _ (.tail _ (.tail _ (.tail _ (.tail _ (.head _))))))).trans ?_))))
    cases l with
    | nil => rfl
    | cons v l =>
      show (Bytes.sameRef v self && Bytes.decodersThatHold.contains id) = false
      rw [nd, Bool.and_false]
  | _ => rfl
theorem Lk_exports {M : Model} {a : Addr} {bs : List UInt8} (x : IsB h a bs) : Looks M h (Bytes.exportsOf (.ref a)) 0 := by
  unfold Bytes.exportsOf
  exact (Looks.ld x).andThen .now
theorem BA_lent {a : Addr} {bs : List UInt8} {Q : Bool → Heap → Prop} (x : IsB h a bs) (q : Q false h) : W prog w A (Bytes.exported (.ref a) <||> (do return decide ((← Bytes.exportsOf (.ref a)) > 0) : Sem Bool)) h Q := by
  unfold orM
  refine W.bind (BA_exported ?_)
  show W prog w A (do return decide ((← Bytes.exportsOf (.ref a)) > 0) : Sem Bool) h Q
  exact W.bind (W.looks (Lk_exports x) (W.pure q))
theorem BA_check {a : Addr} {bs : List UInt8} {Q : Unit → Heap → Prop} (x : IsB h a bs) (q : Q () h) : W prog w A (Bytes.checkResize (.ref a)) h Q := by
  unfold Bytes.checkResize
  exact W.bind (BA_lent x (W.pure q))
theorem Lk_payload {M : Model} {a : Addr} {bs : List UInt8} (x : IsB h a bs) : Looks M h (Bytes.payload (.ref a)) bs.toArray := by
  unfold Bytes.payload Bytes.payload?
  exact ((Looks.ld x).andThen .now).andThen .now
theorem BA_write {a : Addr} {bs bs' : List UInt8} {f : Array UInt8 → Array UInt8} {Q : Unit → Heap → Prop} (x : IsB h a bs) (e : f bs.toArray = bs'.toArray) (hz : bs'.length ≤ 16000000)
    (q : ∀ h', Keeps h h' [a] → IsB h' a bs' → Q () h') : W prog w A (Bytes.write (.ref a) f) h Q := by
  unfold Bytes.write updateBytearray
  refine W.any fun g d tk os QQ EE k => ?_
  refine wpAny_bind (wpAny_load x ?_)
  refine wpAny_bind (wpAny_update x ?_)
  have e' : Obj.mapBytearray f (baO bs 0) = baO bs' 0 := by show ({ cls := .type "bytearray", data := .bytearray (f bs.toArray) 0 } : Obj) = _; rw [e]; rfl
  have x' : IsB (h.update a (Obj.mapBytearray f)) a bs' := by
    unfold IsB
    rw [Heap.get?_update_self _ x (by rw [e']; rfl), e']
  refine wpAny_lookBehind x' (if_neg (by rw [sizeLine_eq]; show ¬ bs'.toArray.size > _; rw [List.size_toArray]; omega)) (k _ _ _ (q _ (fun b o eb nb => ?_) x'))
  exact (Heap.get?_update_ne _ _ _ _ fun q => nb (by rw [q]; exact List.mem_singleton_self _)).trans eb
theorem BA_code_new {Q : Flow → Heap → Prop} (q : ∀ a h', h.get? a = none → Keeps h h' [] → IsB h' a [] → Q (.ret (.ref a)) h') :
    CW prog w A (.call (.builtin "bytearray.__new__") ⟨[.type "bytearray"], []⟩) h Q := by
  refine fun g d tk os QQ k Γ p hc hΓ hb => (?_ : codeAny (model prog w) A (.call (.builtin "bytearray.__new__") ⟨[.type "bytearray"], []⟩) (fun r s' => match r with | .ok f => QQ f s' | .error _ => False) ⟨h, g, d, tk, os⟩) Γ p hc hΓ
  refine codeAny_of_tree ?_
  show wpAny _ A.in1 (do checkBuiltinCall "bytearray.__new__" ⟨[.type "bytearray"], []⟩; again (.builtin "bytearray.__new__" ⟨[.type "bytearray"], []⟩)) _ _ _
  refine wpAny_bind (wpAny_of_eq FA.newCall (wpAny_pure ⟨plainId_quiet FA.plain_new _, codeAny_builtin_stack FA.entry_new rfl fun p st => ?_⟩))
  rw [Around.under_plainId FA.plain_new _]
  have hsub := FA.sub_aa
  have hown := FA.owner_new
  simp only [hown]
  wp_walk
  exact k _ _ _ (q _ _ size_new Keeps.push (push_new rfl))
noncomputable def ik1 (s : Value) : { k : Bool → Sem PySem.Fin // Builtin.«bytearray.__init__» ⟨[s], []⟩ = (Bytes.ownRelease s >>= k) } := ⟨_, rfl⟩
noncomputable def ik2 (s : Value) : { k : List (Option Value) → Sem PySem.Fin // (ik1 s).1 false = (Bytes.bindOptional "bytearray.__init__" "bytearray" ["source", "encoding", "errors"] [] [] >>= k) } := ⟨_, rfl⟩
noncomputable def ik5 (s : Value) : { k : Bool → Sem PySem.Fin // (ik2 s).1 [none, none, none] = (pure () >>= fun () => pure () >>= fun () => (Bytes.exported s <||> (do return decide ((← Bytes.exportsOf s) > 0) : Sem Bool)) >>= k) } := ⟨_, rfl⟩
noncomputable def ik6 (s : Value) : { k : Unit → Sem PySem.Fin // (ik5 s).1 false = (Bytes.write s (fun _ => #[]) >>= k) } := ⟨_, rfl⟩
theorem ik7 (s : Value) : ∃ k : Unit → Sem PySem.Fin, (ik6 s).1 () = (pure () >>= k) ∧ k () = ret .none := ⟨_, rfl, rfl⟩
theorem BA_new {Q : Value → Heap → Prop} (q : ∀ a h', h.get? a = none → Keeps h h' [] → IsB h' a [] → Q (.ref a) h') : W prog w A (call (.type "bytearray") [] []) h Q := by
  have e : Builtin.«type.__call__» ⟨[.type "bytearray"], []⟩ = (do
    let obj ← holding [.builtin "bytearray.__new__"] (call (.builtin "bytearray.__new__") [.type "bytearray"] [])
    if !(← isInstance obj (.type "bytearray")) then rule "type.call.new-gave-other-type"; return ← ret obj
    match ← holding [obj] (callSpecial? obj "__init__" [] []) with
    | none => ret obj
    | some r =>
      if r != .none then
        rule "type.call.init-returned-value"
        raiseError "TypeError" s!"__init__() should return None, not '{← typeNameOf r}'"
      ret obj) := by kernel_rfl
  refine W.call (CW.tree rfl ?_)
  show W _ _ _ (callAny (.type "bytearray") ⟨[], []⟩) _ _
  refine W.pure ⟨Code.quiet_builtin _ (by decide +kernel), CW.builtin (by decide +kernel) F.entry_type_call ?_⟩
  refine W.of_eq e ?_
  refine W.bind (W.holding (W.call (BA_code_new fun a h1 n1 k1 x1 => ⟨_, rfl, ?_⟩)))
  refine W.bind (W.looks (Lk_isInst x1.ti FA.sub_aa) ?_)
  refine W.bind (W.holding (W.callSpecial x1.ti FA.init_slot (W_bi FA.init_slot x1.ti (by decide +kernel) FA.entry_init (FA.args_init _) ?_)))
  · refine W.of_eq (ik1 _).2 ?_
    have hb : Bytes.bindOptional "bytearray.__init__" "bytearray" ["source", "encoding", "errors"] [] [] = Pure.pure [none, none, none] := by kernel_rfl
    have L1 : Looks (model prog w) h1 (Bytes.ownRelease (.ref a)) false := by
      unfold Bytes.ownRelease
      exact (Lk_ownBuf (name := "__release_buffer__") x1.ti FA.look_ar FA.sub_aa).andThen .now
    refine W.bind (W.looks L1 ?_)
    refine W.of_eq (ik2 _).2 ?_
    refine W.bind ?_
    refine W.of_eq hb ?_
    refine W.pure ?_
    refine W.of_eq (ik5 _).2 ?_
    refine W.bind (W.pure (W.bind (W.pure (W.bind (BA_lent x1 ?_)))))
    refine W.of_eq (ik6 _).2 ?_
    refine W.bind (BA_write (bs' := []) x1 rfl (by decide) fun h2 k2 x2 => ?_)
    obtain ⟨k, e1, e2⟩ := ik7 (.ref a)
    refine W.of_eq e1 ?_
    refine W.bind (W.pure ?_)
    refine W.of_eq e2 ?_
    refine W.pure ⟨_, rfl, W.pure ⟨_, rfl, ?_⟩⟩
    exact q _ _ n1 (k1.trans' k2 fun b m => .inr (by rw [List.mem_singleton] at m; rw [m]; exact n1)) x2
end
end Mine
end
section
open PySem PySem.W PySem.Calls PyProof.Rows Builtin
set_option Elab.async false
set_option maxRecDepth 100000
set_option maxHeartbeats 1000000
set_option linter.unusedVariables false
namespace Mine
section
variable {A : Around} {K : Frag} {h : Heap} {env : Env} {Q : Value → Heap → Prop}
theorem W_getmB {v : Value} {T id : String} {name : Str} {pl : Sem Bool} {Q : Value × List Value → Heap → Prop} (hT : TI h v T) (hr : ∀ a, v = .ref a → ∃ o, h.get? a = some o ∧ o.dict = none) (pa : PlainAttrs T) (slot : Slot T name id)
    (ht : typeOf (.builtin id) = pure (.type "method_descriptor")) (q : Q (.builtin id, [v]) h) : W prog w A (getMethod v name pl) h Q := by
  obtain ⟨⟨ga, p1, p2⟩, p3⟩ := pa
  unfold getMethod
  refine W.bind (W.looks (Lk_special hT p1) ?_)
  dsimp only
  rw [p2, if_neg Bool.false_ne_true]
  refine W.bind (W.looks (Lk_special hT p3) ?_)
  refine W.bind (W.looks (Lk_special hT slot.lookup) ?_)
  dsimp only
  refine W.bind (W.of_eq ht (W.pure ?_))
  cases v with
  | ref a =>
    obtain ⟨o, e, d⟩ := hr a rfl
    refine W.bind (W.load e ?_)
    rw [d]
    exact W.bind (W.any fun _ _ tk _ _ _ k => wpAny_rule (k _ h tk (W.pure q)))
  | _ => exact W.bind (W.any fun _ _ tk _ _ _ k => wpAny_rule (k _ h tk (W.pure q)))
theorem IsB.nd {a : Addr} {bs : List UInt8} (x : IsB h a bs) : ∀ b, Value.ref a = .ref b → ∃ o, h.get? b = some o ∧ o.dict = none := fun b e => by cases e; exact ⟨_, x, rfl⟩
theorem BA_getm_append {a : Addr} {bs : List UInt8} {pl : Sem Bool} {Q : Value × List Value → Heap → Prop} (x : IsB h a bs) (q : Q (.builtin "bytearray.append", [.ref a]) h) : W prog w A (getMethod (.ref a) (Str.ofString "append") pl) h Q :=
  W_getmB x.ti x.nd FA.plainAttrs_ba FA.slot_append FA.type_append q
theorem Lk_asIndex {M : Model} {n : Int} {t : Tok} : Looks M h (asIndex (.int n t)) n := Looks.of_pure (by kernel_rfl)
theorem BA_append {a : Addr} {bs : List UInt8} {n : Int} {t : Tok} (x : IsB h a bs) (h0 : 0 ≤ n) (h1 : n < 256) (hz : bs.length < 15000000)
    (q : ∀ h', Keeps h h' [a] → IsB h' a (bs ++ [n.toNat.toUInt8]) → Q .none h') : W prog w A (call (.builtin "bytearray.append") [.ref a, .int n t] []) h Q := by
  refine W_bi FA.slot_append x.ti (by decide +kernel) FA.entry_append (FA.args_append _ _) ?_
  unfold Builtin.«bytearray.append»
  refine W.bind (W.of_eq (t' := Pure.pure (Value.ref a, Value.int n t)) rfl (W.pure ?_))
  dsimp only
  unfold Bytes.byteValue
  refine W.bind (W.bind (W.looks Lk_asIndex ?_))
  refine W.ite_no (by simp only [Bool.or_eq_true, decide_eq_true_eq]; omega) ?_
  refine W.pure (W.bind (BA_check x (W.bind (BA_write (bs' := bs ++ [n.toNat.toUInt8]) x ?_ ?_ fun h' k x' => W.pure ⟨_, rfl, q h' k x'⟩))))
  · simp
  · rw [List.length_append, List.length_singleton]; omega
theorem BA_len {a : Addr} {bs : List UInt8} (x : IsB h a bs) (hz : bs.length < 15000000) (q : ∀ t, Q (.int bs.length t) h) : W prog w A (call (.builtin "len") [.ref a] []) h Q := by
  refine W.any fun g d tk os QQ EE k => ?_
  refine call_function_entry kind_len plain_len entry_len (args_len1 _) ?_
  unfold Builtin.«len»
  refine wpAny_bind (m := oneArg "len" _) (wpAny_pure ?_)
  have L1 : Looks (model prog w) h (Bytes.payload (.ref a)) bs.toArray := Lk_payload x
  have g : Meets (Builtin.«bytearray.__len__» ⟨[.ref a], []⟩) (fun _ R s => s = ⟨h, g, d, tk, os⟩ ∧ R (.ok (.ret (.int bs.length tk))) ⟨h, g, d, tk + 1, os⟩) := .of_wp fun prog' w' A' R s ⟨e, hR⟩ => by
    subst e
    unfold Builtin.«bytearray.__len__»
    refine wpAny_bind (wpAny_of_eq (a := (Value.ref a, ([] : List Value))) rfl ?_)
    refine wpAny_bind ((Lk_payload x).at ?_)
    exact wpAny_bind (wpAny_mkInt (wpAny_pure ⟨_, rfl, by simp only [List.size_toArray]; exact hR⟩))
  refine wpAny_bind (m := callSpecial? (.ref a) (Str.ofString "__len__")) (wpAny_callSpecial?_slot (name := Str.ofString "__len__") (x.ti _ rfl) FA.slot_len (call_meets FA.slot_len (x.ti _ rfl) FA.entry_len (FA.args_len _) g ⟨rfl, ?_⟩))
  refine wpAny_bind (wpAny_holding (wpAny_pure ?_))
  refine wpAny_bind (wpAny_letGo ?_)
  show wpAny _ _ (if ((bs.length : Int)) < 0 then _ else _) _ _ _
  rw [if_neg (by omega)]
  show wpAny _ _ (if ((bs.length : Int)) ≥ 2 ^ 63 then _ else _) _ _ _
  rw [if_neg (by omega)]
  exact wpAny_bind (wpAny_mkInt (wpAny_pure ⟨_, rfl, k _ _ _ (q _)⟩))
namespace FA
theorem no_bytes : typeLookup (.type "bytearray") "__bytes__" = pure none := by rw [typeLookup_type, builtinLookup_eq_fast]; kernel_rfl
theorem noIndex : typeLookup (.type "bytearray") "__index__" = pure none := by rw [typeLookup_type, builtinLookup_eq_fast]; kernel_rfl
end FA
theorem Lk_bufferA {M : Model} {a : Addr} {bs : List UInt8} {id : String} {full : Bool} (x : IsB h a bs) : Looks M h (Bytes.buffer? id (.ref a) full) (some bs.toArray) := by
  intro A Q E s k q
  obtain ⟨hh, g, d, tk, os⟩ := s
  have x' : IsB hh a bs := k _ _ x
  have L1 := (Lk_special (h := hh) (M := M) (v := .ref a) x'.ti FA.look_ab)
  have L2 := Lk_ownBuf (h := hh) (M := M) (v := .ref a) (name := "__buffer__") x'.ti FA.look_ab FA.sub_aa
  have L3 : Looks M hh (Bytes.ownRelease (.ref a)) false := by
    unfold Bytes.ownRelease
    exact (Lk_ownBuf (name := "__release_buffer__") x'.ti FA.look_ar FA.sub_aa).andThen .now
  have L4 : Looks M hh (Bytes.payload (.ref a)) bs.toArray := Lk_payload x'
  unfold Bytes.buffer?
  repeat lk
  exact q
theorem BA_bytes {a : Addr} {bs : List UInt8} (x : IsB h a bs) (hz : bs.length < 15000000) (q : ∀ t, Q (.bytes bs.toArray t) h) : W prog w A (call (.type "bytes") [.ref a] []) h Q := by
  refine W.any fun g d tk os QQ EE k => ?_
  refine callType_new F.bm_called (by decide) (F.bm_typeCall _) (F.bm_newCall _) (fun obj => F.args_object_init_2 obj _) F.bm_entry
    (S := fun _ R s => s = ⟨h, g, d, tk, os⟩ ∧ ∀ tk', R (.ok (.ret (.bytes bs.toArray tk))) ⟨h, g, d, tk', os⟩) (.of_wp fun prog' w' A' R s ⟨e, hR⟩ => ?_) ⟨rfl, fun tk' => ⟨typeIs_bytes _ _ _, k _ _ _ (q _)⟩⟩
  subst e
  have L1 : Looks (model prog' w') h (specialOf (.ref a) "__bytes__") none := Lk_special x.ti FA.no_bytes
  have L2 : Looks (model prog' w') h (specialOf (.ref a) "__index__") none := Lk_special x.ti FA.noIndex
  have L3 : Looks (model prog' w') h (Bytes.buffer? "bytes.__new__" (.ref a) true) (some bs.toArray) := Lk_bufferA x
  have L4 : Looks (model prog' w') h (Bytes.bindOptional "bytes.__new__" "bytes" ["source", "encoding", "errors"] [.ref a] []) [some (.ref a), none, none] := Looks.of_pure (by kernel_rfl)
  have L5 : Looks (model prog' w') h (isSubtype (.type "bytes") (.type "bytes")) true := Looks.of_pure F.bm_sub
  have L6 : Looks (model prog' w') h (isType (.type "bytes")) true := Looks.of_pure rfl
  have L7 : Looks (model prog' w') h (asStr? (.ref a)) none := (Looks.ld x).andThen .now
  unfold Builtin.«bytes.__new__»
  repeat lk
  rw [if_neg (by simp only [List.size_toArray]; rw [sizeLine_eq]; omega)]
  repeat lk
  exact ⟨_, rfl, hR _⟩
theorem W_slice {lower upper : Option PySem.Expr} {p : Pos} (H : W prog w A (valueOrNone (evalOpt lower env)) h fun l h1 => W prog w A (valueOrNone (evalOpt upper env)) h1 fun u h2 =>
    ∀ a h3, h2.get? a = none → Keeps h2 h3 [] → h3.IsSliceOf a l u .none → Q (.ref a) h3) : W prog w A (eval (.Slice lower upper none p) env) h Q := by
  rw [arm_eval_Slice]
  refine W.bind (H.mono fun l h1 H1 => W.bind (W.holding (H1.mono fun u h2 q => W.bind (W.holding (W.pure ?_)))))
  refine W.any fun g d tk os QQ EE k => ?_
  exact wpAny_newObj_type (k _ _ _ (q _ _ size_new Keeps.push (Heap.IsSliceOf.new _ _ _ _))) (by show 3 ≤ sizeLine + 2; rw [sizeLine_eq]; decide)
theorem P_none {Q : Value → Heap → Prop} (q : Q .none h) : W prog w A (valueOrNone (evalOpt none env)) h Q := W.pure q
theorem P_some {e : PySem.Expr} {Q : Value → Heap → Prop} (H : W prog w A (eval e env) h Q) : W prog w A (valueOrNone (evalOpt (some e) env)) h Q := H
noncomputable def cut {α : Type} (l : List α) (lo hi : Option Int) : List α := (l.drop (lo.elim 0 (clipAt l.length))).take (hi.elim l.length (clipAt l.length) - lo.elim 0 (clipAt l.length))
theorem cut_length {α : Type} (l : List α) (lo hi : Option Int) : (cut l lo hi).length ≤ l.length := by unfold cut; rw [List.length_take, List.length_drop]; omega
theorem cut_from {α : Type} (l : List α) (n : Nat) : cut l (some (n : Int)) none = l.drop n := by
  unfold cut
  simp only [Option.elim, clipAt_nat]
  rw [List.take_of_length_le (by rw [List.length_drop]; omega)]
  by_cases hn : n ≤ l.length
  · rw [Nat.min_eq_left hn]
  · rw [Nat.min_eq_right (by omega), List.drop_length, List.drop_of_length_le (by omega)]
theorem cut_upto {α : Type} (l : List α) (n : Nat) : cut l none (some (n : Int)) = l.take n := by
  unfold cut
  simp only [Option.elim, clipAt_nat, List.drop_zero, Nat.sub_zero]
  by_cases hn : n ≤ l.length
  · rw [Nat.min_eq_left hn]
  · rw [Nat.min_eq_right (by omega), List.take_length, List.take_of_length_le (by omega)]
theorem B_slice {value slice : PySem.Expr} {l : List UInt8} {t : Tok} {a : Addr} {vl vu : Value} {lo hi : Option Int} (hl : l.length ≤ 1000000) (hs : h.IsSliceOf a vl vu .none) (pl : IsPart vl lo) (pu : IsPart vu hi)
    (q : ∀ t, Q (.bytes (cut l lo hi).toArray t) h) (hs' : subscripted slice false (.bytes l.toArray t) (.ref a) = operate [.ref a, .bytes l.toArray t] (getItem (.bytes l.toArray t) (.ref a)) := by with_unfolding_all rfl) :
    W prog w A (subscriptTail value slice (.bytes l.toArray t) (.ref a)) h Q := by
  refine S_tail TI.bytes FB.slot_bytes_getitem ?_ hs'
  refine W.any fun g d tk os QQ EE k => getItem_meets (typeIs_bytes _ _ _) (by decide) FB.slot_bytes_getitem FB.entry_bytes_getitem (FB.args_bytes_getitem_2 _ _) (KBc.meets_slice2 l.toArray t a pl pu) ⟨hs, ?_, fun t' tk' => ?_⟩
  · refine Nat.le_trans (KBc.size_picked_le _ _ _) ?_
    simp only [List.size_toArray]; rw [sizeLine_eq]; omega
  · have e : KBy.picked l.toArray lo hi = (cut l lo hi).toArray := by rw [KBc.picked_eq]; unfold cut; simp only [List.size_toArray]
    rw [e]
    exact k _ _ _ (q _)
theorem L_slice {value slice : PySem.Expr} {l : Addr} {vs : List Value} {a : Addr} {vl vu : Value} {lo hi : Option Int} (x : IsL h l vs) (hl : vs.length ≤ 1000000) (hs : h.IsSliceOf a vl vu .none) (pl : IsPart vl lo) (pu : IsPart vu hi)
    (q : ∀ b h', h.get? b = none → Keeps h h' [] → IsL h' b (cut vs lo hi) → Q (.ref b) h') (hs' : subscripted slice false (.ref l) (.ref a) = operate [.ref a, .ref l] (getItem (.ref l) (.ref a)) := by with_unfolding_all rfl) :
    W prog w A (subscriptTail value slice (.ref l) (.ref a)) h Q := by
  have ti : TI h (.ref l) "list" := let ⟨n, e⟩ := x; TI.ref e rfl
  refine S_tail ti slot_list_getitem ?_ hs'
  refine W.any fun g d tk os QQ EE k => wpAny_getItem_list_slice x.isList hs pl pu .none (by simp) (k _ _ _ (q _ _ size_new Keeps.push ⟨0, ?_⟩)) (by simp only [List.size_toArray]; rw [sizeLine_eq]; omega)
  rw [slicePick_plain]
  unfold cut
  simp only [List.size_toArray]
  exact push_new rfl
end
end Mine
end
section
open PySem PySem.W PySem.Calls PyProof.Rows Builtin
set_option Elab.async false
set_option maxRecDepth 100000
set_option maxHeartbeats 1000000
set_option linter.unusedVariables false
namespace Mine
section
variable {A : Around} {K : Frag} {h : Heap} {env : Env} {Q : Value → Heap → Prop}
theorem Lk_part {M : Model} {v : Value} {k : Option Int} {t : Sem Value} (pv : IsPart v k)
    (e : t = (do
      if v == .none then return .none
      if (← specialOf v "__index__").isNone then
        rule "bytes.slice.part-no-index"; raiseError "TypeError" "slice indices must be integers or None or have an __index__ method"
      return rawInt (← asIndex v) : Sem Value)) : Looks M h t (rawPart k) := by
  subst e
  intro A Q E s kk q
  obtain ⟨hh, g, d, tk, os⟩ := s
  cases pv with
  | none => exact wpAny_pure q
  | int i t =>
    have L1 : Looks M hh (specialOf (.int i t) "__index__") _ := Lk_special TI.int F.slot_int_index.lookup
    have L2 : Looks M hh (asIndex (.int i t)) i := Lk_asIndex
    repeat lk
    exact q
theorem Lk_sliceParts {M : Model} {a : Addr} {vl vu : Value} {lo hi : Option Int} (hs : h.IsSliceOf a vl vu .none) (pl : IsPart vl lo) (pu : IsPart vu hi) : Looks M h (Bytes.sliceParts (.ref a)) (rawPart lo, rawPart hi, .none) := by
  obtain ⟨o, e, hc, hd⟩ := hs
  have f0 : Looks M h (field (.ref a) 0) vl := fun A Q E s k q => wpAny_field (k _ _ e) hd rfl q
  have f1 : Looks M h (field (.ref a) 1) vu := fun A Q E s k q => wpAny_field (k _ _ e) hd rfl q
  have f2 : Looks M h (field (.ref a) 2) .none := fun A Q E s k q => wpAny_field (k _ _ e) hd rfl q
  unfold Bytes.sliceParts
  refine f2.andThen ((Lk_part .none rfl).andThen ?_)
  dsimp only
  rw [if_neg (show ¬ ((rawPart none == rawInt 0) = true) from Bool.false_ne_true)]
  exact f0.andThen ((Lk_part pl rfl).andThen (f1.andThen ((Lk_part pu rfl).andThen .now)))
theorem BA_slice {value slice : PySem.Expr} {l : Addr} {bs : List UInt8} {a : Addr} {vl vu : Value} {lo hi : Option Int} (x : IsB h l bs) (hl : bs.length ≤ 1000000) (hs : h.IsSliceOf a vl vu .none) (pl : IsPart vl lo) (pu : IsPart vu hi)
    (q : ∀ b h', h.get? b = none → Keeps h h' [] → IsB h' b (cut bs lo hi) → Q (.ref b) h') (hs' : subscripted slice false (.ref l) (.ref a) = operate [.ref a, .ref l] (getItem (.ref l) (.ref a)) := by with_unfolding_all rfl) :
    W prog w A (subscriptTail value slice (.ref l) (.ref a)) h Q := by
  refine S_tail x.ti FA.slot_getitem (W.getItem x.ti (by decide) FA.slot_getitem (W_bi FA.slot_getitem x.ti (by decide +kernel) FA.entry_getitem (FA.args_getitem _ _) ?_)) hs'
  have ti : TI h (.ref a) "slice" := let ⟨o, e, hc, _⟩ := hs; TI.ref e hc
  unfold Builtin.«bytearray.__getitem__»
  refine W.bind (W.of_eq (t' := Pure.pure (Value.ref l, [Value.ref a])) rfl (W.pure ?_))
  dsimp only
  unfold Bytes.subscript?
  refine W.bind (W.bind (W.looks (Lk_special ti slice_no_index) (W.pure ?_)))
  refine W.bind (W.looks (Lk_typeOf ti) (W.ite_no (by decide) ?_))
  refine W.bind (W.looks (Lk_sliceParts hs pl pu) (W.bind (W.looks (Lk_payload x) ?_)))
  have e : sliceIndices (rawPart lo) (rawPart hi) .none bs.toArray.size = _ := sliceIndices_raw lo hi none bs.toArray.size (fun e => nomatch e)
  dsimp only
  rw [e]
  refine W.bind (W.pure ?_)
  rw [sliceBounds_plain]
  dsimp only
  have e2 : Bytes.sliced bs.toArray ((lo.elim 0 (clipAt bs.toArray.size) : Nat) : Int) ((hi.elim bs.toArray.size (clipAt bs.toArray.size) : Nat) : Int) 1 = (cut bs lo hi).toArray := by
    unfold Bytes.sliced cut
    rw [sliceRange_one, pick_run]
    simp only [List.size_toArray]
  rw [e2]
  refine W.bind (W.any fun g d tk os QQ EE k => wpAny_newObj_type (k _ _ _ (W.pure ⟨_, rfl, q _ _ size_new Keeps.push (push_new rfl)⟩)) ?_)
  have := cut_length bs lo hi
  show (cut bs lo hi).toArray.size ≤ sizeLine
  rw [List.size_toArray, sizeLine_eq]; omega
theorem U_tuple {a : Addr} {vs : List Value} {n : Nat} {Q : List Value → Heap → Prop} (hh : A.handled = none) (x : IsT h a vs) (hn : n = vs.length) (q : ∀ h', Keeps h h' [] → Q vs h') : W prog w A (unpackItems (.ref a) n none) h Q := by
  subst hn
  refine W.any fun g d tk os QQ EE k => ?_
  refine unpackItems_tuple (items := vs.toArray) hh x.isTuple fun h' hs => ?_
  refine k _ _ _ (q _ fun b o e _ => hs b o ?_ e)
  rintro rfl
  exact absurd (Heap.lt_size e) (Nat.lt_irrefl _)
theorem W_asg2 {x y : Str} {px py tp pos : Pos} {k : Nat} {value : PySem.Expr} {Q : Flow → Heap → Prop} (hh : A.handled = none)
    (H : W prog w A (eval value env) h fun v h1 => ∃ a v1 v2, v = .ref a ∧ IsT h1 a [v1, v2] ∧ ∀ h2, Keeps h1 h2 [] → W prog w A (storeName env x v1) h2 fun _ h3 => W prog w A (storeName env y v2) h3 fun _ h4 => Q .next h4)
    (hs : swapsWithSole [.Tuple [.Name x px, .Name y py] k tp] value pos.line env = Pure.pure false := by rfl) (hw : swappedStores [.Tuple [.Name x px, .Name y py] k tp] value env = Pure.pure none := by rfl) :
    W prog w A (exec (.Assign [.Tuple [.Name x px, .Name y py] k tp] value pos) env) h Q := by
  refine W_assigntup (H.mono fun v h1 ⟨a, v1, v2, e, xt, H1⟩ => ?_) hs hw
  subst e
  rw [assign_Tuple]
  refine W.bind (W.standAt ?_)
  unfold unpack
  refine W.bind (W.holding (U_tuple hh xt rfl fun h2 k2 => ?_))
  show W prog w A (do holding [v2] (do standAt px; bindName env x v1); (do holding [] (do standAt py; bindName env y v2); pure ()) : Sem Unit) h2 _
  refine W.bind (W.holding (W.bind (W.standAt (W.bindName ((H1 h2 k2).mono fun _ h3 H3 => ?_)))))
  exact W.bind (W.holding (W.bind (W.standAt (W.bindName (H3.mono fun _ h4 q => W.pure q)))))
theorem W_asg2s {x y : Str} {px py tp pos : Pos} {k : Nat} {value : PySem.Expr} {Q : Flow → Heap → Prop} (hh : A.handled = none)
    (H : W prog w A (eval value env) h fun v h1 => ∃ a v1 v2, v = .ref a ∧ IsT h1 a [v1, v2] ∧ ∀ h2, Keeps h1 h2 [] → W prog w A (storeName env y v2) h2 fun _ h3 => W prog w A (storeName env x v1) h3 fun _ h4 => Q .next h4)
    (hs : swapsWithSole [.Tuple [.Name x px, .Name y py] k tp] value pos.line env = Pure.pure false := by rfl) (hw : swappedStores [.Tuple [.Name x px, .Name y py] k tp] value env = Pure.pure (some [x, y]) := by rfl) :
    W prog w A (exec (.Assign [.Tuple [.Name x px, .Name y py] k tp] value pos) env) h Q := by
  rw [exec_Assign, hs]
  refine W.bind (W.standAt (W.bind (W.pure (W.bind (H.mono fun v h1 ⟨a, v1, v2, e, xt, H1⟩ => ?_)))))
  subst e
  rw [hw]
  refine W.bind (W.pure ?_)
  show W prog w A (do rule "assign.swapped-stores"; let items ← unpackItems (.ref a) 2 none; assignInOrder ([x, y].reverse.map fun n => bindName env n) items.reverse; pure Flow.next : Sem Flow) h1 _
  refine W.bind (W.any fun _ _ tk _ _ _ k => wpAny_rule (k () h1 tk (W.bind (U_tuple hh xt rfl fun h2 k2 => ?_))))
  show W prog w A (do (do holding [v1] (bindName env y v2); (do holding [] (bindName env x v1); pure ())); pure Flow.next : Sem Flow) h2 _
  refine W.bind (W.bind (W.holding (W.bindName ((H1 h2 k2).mono fun _ h3 H3 => ?_))))
  exact W.bind (W.holding (W.bindName (H3.mono fun _ h4 q => W.pure (W.pure q))))
theorem W_asg3s {x y z : Str} {px py pz tp pos : Pos} {k : Nat} {value : PySem.Expr} {Q : Flow → Heap → Prop} (hh : A.handled = none)
    (H : W prog w A (eval value env) h fun v h1 => ∃ a v1 v2 v3, v = .ref a ∧ IsT h1 a [v1, v2, v3] ∧ ∀ h2, Keeps h1 h2 [] → W prog w A (storeName env z v3) h2 fun _ h3 => W prog w A (storeName env y v2) h3 fun _ h4 => W prog w A (storeName env x v1) h4 fun _ h5 => Q .next h5)
    (hs : swapsWithSole [.Tuple [.Name x px, .Name y py, .Name z pz] k tp] value pos.line env = Pure.pure false := by rfl) (hw : swappedStores [.Tuple [.Name x px, .Name y py, .Name z pz] k tp] value env = Pure.pure (some [x, y, z]) := by rfl) :
    W prog w A (exec (.Assign [.Tuple [.Name x px, .Name y py, .Name z pz] k tp] value pos) env) h Q := by
  rw [exec_Assign, hs]
  refine W.bind (W.standAt (W.bind (W.pure (W.bind (H.mono fun v h1 ⟨a, v1, v2, v3, e, xt, H1⟩ => ?_)))))
  subst e
  rw [hw]
  refine W.bind (W.pure ?_)
  show W prog w A (do rule "assign.swapped-stores"; let items ← unpackItems (.ref a) 3 none; assignInOrder ([x, y, z].reverse.map fun n => bindName env n) items.reverse; pure Flow.next : Sem Flow) h1 _
  refine W.bind (W.any fun _ _ tk _ _ _ k => wpAny_rule (k () h1 tk (W.bind (U_tuple hh xt rfl fun h2 k2 => ?_))))
  show W prog w A (do (do holding [v2, v1] (bindName env z v3); (do holding [v1] (bindName env y v2); (do holding [] (bindName env x v1); pure ()))); pure Flow.next : Sem Flow) h2 _
  refine W.bind (W.bind (W.holding (W.bindName ((H1 h2 k2).mono fun _ h3 H3 => ?_))))
  refine W.bind (W.holding (W.bindName (H3.mono fun _ h4 H4 => ?_)))
  exact W.bind (W.holding (W.bindName (H4.mono fun _ h5 q => W.pure (W.pure q))))
theorem split_t {p X Y : Prop} [Decidable p] (e : p) (hx : X) : (decide p = true → X) ∧ (decide p = false → Y) := ⟨fun _ => hx, fun c => absurd e (of_decide_eq_false c)⟩
theorem split_f {p X Y : Prop} [Decidable p] (e : ¬ p) (hy : Y) : (decide p = true → X) ∧ (decide p = false → Y) := ⟨fun c => absurd (of_decide_eq_true c) e, fun _ => hy⟩
theorem split_bt {b : Bool} {X Y : Prop} (e : b = true) (hx : X) : (b = true → X) ∧ (b = false → Y) := ⟨fun _ => hx, fun c => absurd (e.symm.trans c) (by decide)⟩
theorem split_bf {b : Bool} {X Y : Prop} (e : b = false) (hy : Y) : (b = true → X) ∧ (b = false → Y) := ⟨fun c => absurd (e.symm.trans c) (by decide), fun _ => hy⟩
end
end Mine
end
section
open PySem PySem.W PySem.Calls PyProof.Rows Builtin
set_option Elab.async false
set_option maxRecDepth 100000
set_option maxHeartbeats 1000000
set_option linter.unusedVariables false
namespace Mine
namespace FA
theorem slot_find : Slot "bytes" "find" "bytes.find" :=
  .of (owner := "bytes") (n := "find") (by rw [typeLookup_type, builtinLookup_eq_fast]; kernel_rfl) (by decide +kernel) (by decide +kernel) (by decide +kernel)
    (by first | exact .inl (by decide +kernel) | exact .inr (by decide +kernel)) (by rw [isSubtype_type]; kernel_rfl)
theorem type_find : typeOf (.builtin "bytes.find") = pure (.type "method_descriptor") := by show builtinType _ = _; rw [builtinType_eq_fast]; kernel_rfl
theorem entry_find : entryFor table "bytes.find" = some Builtin.«bytes.find» := entryFor_of_tree (by kernel_rfl)
theorem args_find (a b : Value) : argsOk "bytes.find" ⟨[a, b], []⟩ := by unfold argsOk; kernel_rfl
theorem slot_join : Slot "bytes" "join" "bytes.join" :=
  .of (owner := "bytes") (n := "join") (by rw [typeLookup_type, builtinLookup_eq_fast]; kernel_rfl) (by decide +kernel) (by decide +kernel) (by decide +kernel)
    (by first | exact .inl (by decide +kernel) | exact .inr (by decide +kernel)) (by rw [isSubtype_type]; kernel_rfl)
theorem type_join : typeOf (.builtin "bytes.join") = pure (.type "method_descriptor") := by show builtinType _ = _; rw [builtinType_eq_fast]; kernel_rfl
theorem entry_join : entryFor table "bytes.join" = some Builtin.«bytes.join» := entryFor_of_tree (by kernel_rfl)
theorem args_join (a b : Value) : argsOk "bytes.join" ⟨[a, b], []⟩ := by unfold argsOk; kernel_rfl
end FA
section
variable {A : Around} {K : Frag} {h : Heap} {env : Env} {Q : Value → Heap → Prop}
theorem IsL.ti {a : Addr} {vs : List Value} (x : IsL h a vs) : TI h (.ref a) "list" := let ⟨_, e⟩ := x; TI.ref e rfl
theorem IsT.ti {a : Addr} {vs : List Value} (x : IsT h a vs) : TI h (.ref a) "tuple" := let ⟨_, e⟩ := x; TI.ref e rfl
theorem IsL.nd {a : Addr} {vs : List Value} (x : IsL h a vs) : ∀ b, Value.ref a = .ref b → ∃ o, h.get? b = some o ∧ o.dict = none := fun b e => by cases e; obtain ⟨n, e⟩ := x; exact ⟨_, e, rfl⟩
theorem Ints.are {vs : List Value} {ns : List Int} (x : Ints vs ns) : IntsAre vs ns := by induction x with | nil => exact .nil | cons n t r ih => exact .cons n t ih
theorem Ints.length {vs : List Value} {ns : List Int} (x : Ints vs ns) : vs.length = ns.length := by induction x with | nil => rfl | cons n t r ih => simp [ih]
theorem Ints.snoc {vs : List Value} {ns : List Int} (x : Ints vs ns) (n : Int) (t : Tok) : Ints (vs ++ [.int n t]) (ns ++ [n]) := by induction x with | nil => exact .cons n t .nil | cons m u r ih => exact .cons m u ih
theorem Ints.rev {vs : List Value} {ns : List Int} (x : Ints vs ns) : Ints vs.reverse ns.reverse := by
  induction x with
  | nil => exact .nil
  | cons m u r ih => simp only [List.reverse_cons]; exact ih.snoc m u
theorem BL_bytes {a : Addr} {vs : List Value} {ns : List Int} (hh : A.handled = none) (x : IsL h a vs) (i : Ints vs ns) (hr : ∀ n ∈ ns, 0 ≤ n ∧ n < 256) (hz : vs.length ≤ 1000000)
    (q : ∀ t h', Keeps h h' [] → Q (.bytes (ns.map fun n => n.toNat.toUInt8).toArray t) h') : W prog w A (call (.type "bytes") [.ref a] []) h Q :=
  W.any fun g d tk os QQ EE k => call_bytes_ints x.isList i.are hr (by rw [sizeLine_eq]; omega) hh fun h' t tk' hk => by
    have e : byteArr ns = (ns.map fun n => n.toNat.toUInt8).toArray := by simp [byteArr]
    rw [e]
    exact k _ _ _ (q t h' fun b o eb _ => hk b o eb)
theorem B_getm_find {l : List UInt8} {t : Tok} {pl : Sem Bool} {Q : Value × List Value → Heap → Prop} (q : Q (.builtin "bytes.find", [.bytes l.toArray t]) h) : W prog w A (getMethod (.bytes l.toArray t) (Str.ofString "find") pl) h Q :=
  W_getmB TI.bytes (fun _ e => nomatch e) FB.plainAttrs_bytes FA.slot_find FA.type_find q
noncomputable def findZ (l m : List UInt8) : Int := match (Bytes.find? l.toArray m.toArray 0 l.length) with | some i => i | none => -1
theorem B_find {l m : List UInt8} {t u : Tok} (hm : m.length ≤ l.length) (q : ∀ t, Q (.int (findZ l m) t) h) : W prog w A (call (.builtin "bytes.find") [.bytes l.toArray t, .bytes m.toArray u] []) h Q := by
  refine W_bi FA.slot_find TI.bytes (by decide +kernel) FA.entry_find (FA.args_find _ _) ?_
  unfold Builtin.«bytes.find» Bytes.searchM Bytes.searchArgs
  refine W.bind (W.bind (W.of_eq (t' := Pure.pure (Value.bytes l.toArray t, [Value.bytes m.toArray u])) rfl (W.pure ?_)))
  simp only [List.headD_cons]
  refine W.bind (W.of_eq (t' := Pure.pure none) rfl (W.pure (W.bind (W.of_eq (t' := Pure.pure none) rfl (W.pure ?_)))))
  refine W.bind (W.looks Lk_buffer ?_)
  dsimp only
  refine W.bind (W.pure (W.bind (W.of_eq (t' := Pure.pure l.toArray) rfl (W.pure ?_))))
  have ew : Bytes.window l.toArray.size none none = (0, (l.length : Int)) := by
    simp only [Bytes.window, Option.getD_none, List.size_toArray]
    congr 1
    rw [if_neg (by omega)]; omega
  rw [ew]
  dsimp only
  rw [if_neg (by simp only [List.size_toArray]; omega)]
  refine W.pure ?_
  dsimp only [Option.bind_some, Int.toNat_natCast]
  simp only [Bool.false_eq_true, if_false, Int.toNat_zero, Int.toNat_natCast]
  cases hf : Bytes.find? l.toArray m.toArray 0 l.length with
  | none =>
    refine W.bind (W.any fun _ _ tk _ _ _ k => wpAny_rule (k _ h tk ?_))
    refine W.any fun g d tk os QQ EE k => wpAny_bind (wpAny_mkInt (wpAny_pure (k _ _ _ ⟨_, rfl, ?_⟩)))
    have := q tk
    unfold findZ at this
    rw [hf] at this
    exact this
  | some i =>
    refine W.any fun g d tk os QQ EE k => wpAny_bind (wpAny_mkInt (wpAny_pure (k _ _ _ ⟨_, rfl, ?_⟩)))
    have := q tk
    unfold findZ at this
    rw [hf] at this
    exact this
theorem L_getm_append {a : Addr} {vs : List Value} {pl : Sem Bool} {Q : Value × List Value → Heap → Prop} (x : IsL h a vs) (q : Q (.builtin "list.append", [.ref a]) h) : W prog w A (getMethod (.ref a) (Str.ofString "append") pl) h Q :=
  W_getmB x.ti x.nd F.plainAttrs_list slot_list_append F.type_list_append q
theorem L_append {a : Addr} {vs : List Value} {v : Value} (x : IsL h a vs) (hz : vs.length ≤ 1000000) (q : ∀ h', Keeps h h' [a] → IsL h' a (vs ++ [v]) → Q .none h') : W prog w A (call (.builtin "list.append") [.ref a, v] []) h Q := by
  obtain ⟨n, e⟩ := x
  refine W.any fun g d tk os QQ EE k => append_at e (fun h' hs e' => k _ _ _ (q h' (fun b o eb nb => (hs.2 b (fun e => nb (by rw [e]; exact List.mem_singleton_self _))).trans eb) ⟨n + 1, ?_⟩)) (by simp only [List.size_toArray]; rw [sizeLine_eq]; omega)
  rw [e']
  simp
theorem L_getm_reverse {a : Addr} {vs : List Value} {pl : Sem Bool} {Q : Value × List Value → Heap → Prop} (x : IsL h a vs) (q : Q (.builtin "list.reverse", [.ref a]) h) : W prog w A (getMethod (.ref a) (Str.ofString "reverse") pl) h Q :=
  W_getmB x.ti x.nd F.plainAttrs_list F.slot_list_reverse F.type_list_reverse q
theorem L_reverse {a : Addr} {vs : List Value} (x : IsL h a vs) (hz : vs.length ≤ 1000000) (q : ∀ h', Keeps h h' [a] → IsL h' a vs.reverse → Q .none h') : W prog w A (call (.builtin "list.reverse") [.ref a] []) h Q := by
  obtain ⟨n, e⟩ := x
  refine W.any fun g d tk os QQ EE k => call_meets F.slot_list_reverse ⟨_, e, rfl⟩ F.entry_list_reverse (F.args_list_reverse_1 _) (AutoSeq1.list_reverse_list_0 a vs.toArray n (by simp only [List.size_toArray]; rw [sizeLine_eq]; omega)) ⟨e, ?_⟩
  refine k _ _ _ (q _ (fun b o eb nb => ?_) ⟨n, ?_⟩)
  · exact (Heap.get?_update_ne _ _ _ _ fun q => nb (by rw [q]; exact List.mem_singleton_self _)).trans eb
  · rw [Heap.get?_update_self _ e (by rw [mapSeq_reverse]; rfl), mapSeq_reverse]
theorem L_len {a : Addr} {vs : List Value} (x : IsL h a vs) (hz : vs.length ≤ 1000000) (q : ∀ t, Q (.int vs.length t) h) : W prog w A (call (.builtin "len") [.ref a] []) h Q :=
  W.any fun g d tk os QQ EE k => Calls.call_len_list x.isList (by simp only [List.size_toArray]; omega) (by simp only [List.size_toArray]; exact k _ _ _ (q _))
theorem seqAt {vs : List Value} {j : Nat} (hj : j < vs.length) : seqIndex? (j : Int) vs.toArray.size = some j := by
  have h1 : ¬ (j : Int) < 0 := by omega
  have h2 : (0 : Int) ≤ j := by omega
  have h3 : (j : Int) < vs.length := by omega
  simp [seqIndex?, h1, h2, h3]
theorem L_item {value slice : PySem.Expr} {a : Addr} {vs : List Value} {i : Int} {j : Nat} {u : Tok} {v : Value} (x : IsL h a vs) (hi : i = j) (hv : vs[j]? = some v) (hz : vs.length ≤ 1000000) (q : Q v h)
    (hs : subscripted slice false (.ref a) (.int i u) = operate [.ref a, .int i u] (getItem (.ref a) (.int i u)) := by with_unfolding_all rfl) : W prog w A (subscriptTail value slice (.ref a) (.int i u)) h Q := by
  have hj : j < vs.length := (List.getElem?_eq_some_iff.mp hv).1
  refine S_tail x.ti slot_list_getitem (W.any fun g d tk os QQ EE k => ?_) hs
  subst hi
  exact wpAny_getItem_list x.isList (by omega) (by omega) (by simpa using hv) (k _ _ _ q)
theorem T_item {value slice : PySem.Expr} {a : Addr} {vs : List Value} {i : Int} {j : Nat} {u : Tok} {v : Value} (x : IsT h a vs) (hi : i = j) (hv : vs[j]? = some v) (hz : vs.length ≤ 1000000) (q : Q v h)
    (hs : subscripted slice false (.ref a) (.int i u) = operate [.ref a, .int i u] (getItem (.ref a) (.int i u)) := by with_unfolding_all rfl) : W prog w A (subscriptTail value slice (.ref a) (.int i u)) h Q := by
  have hj : j < vs.length := (List.getElem?_eq_some_iff.mp hv).1
  have it : IsTup h a vs.toArray := x.isTuple
  refine S_tail x.ti slot_tuple_getitem (W.any fun g d tk os QQ EE k => ?_) hs
  subst hi
  exact getItem_tuple it (by omega) (by omega) (seqAt hj) (by simpa using hv) (k _ _ _ q)
theorem I_abs {n : Int} {t : Tok} (q : ∀ t, Q (.int (if n < 0 then -n else n) t) h) : W prog w A (call (.builtin "abs") [.int n t] []) h Q :=
  W.any fun g d tk os QQ EE k => call_abs_int fun u tk' => k _ _ _ (q u)
theorem I_isBytes {n : Int} {t : Tok} (q : Q (.bool false) h) : W prog w A (call (.builtin "isinstance") [.int n t, .type "bytes"] []) h Q :=
  W.any fun g d tk os QQ EE k => IsiPair.int_bytes (k _ _ _ q)
theorem I_isInt {n : Int} {t : Tok} (q : Q (.bool true) h) : W prog w A (call (.builtin "isinstance") [.int n t, .type "int"] []) h Q :=
  W.any fun g d tk os QQ EE k => IsiPair.int_int (k _ _ _ q)
theorem I_isBool {n : Int} {t : Tok} (q : Q (.bool false) h) : W prog w A (call (.builtin "isinstance") [.int n t, .type "bool"] []) h Q :=
  W.any fun g d tk os QQ EE k => IsiPair.int_bool (k _ _ _ q)
end
end Mine
end
section
open PySem PySem.W PySem.Calls PyProof.Rows Builtin
set_option Elab.async false
set_option maxRecDepth 100000
set_option maxHeartbeats 1000000
set_option linter.unusedVariables false
namespace Mine
section
variable {K : Frag} {hE h h' : Heap} {F D : List Addr} {env : Env} {fr fr' : Fra} {P P' : Heap → Prop} {a : Addr} {vs vs' : List Value}
theorem St.ne (S : St hT hE F env fr P h) (n : h.get? a = none) : env.locals ≠ a := by
  rintro rfl
  obtain ⟨o, e⟩ := S.locs
  rw [n] at e; cases e
theorem St.new (S : St hT hE F env fr P h) (n : h.get? a = none) (f : a ∉ F) : hE.get? a = none := by
  cases q : hE.get? a with
  | none => rfl
  | some o => rw [S.kp _ _ q f] at n; cases n
theorem St.addL (S : St hT hE F env fr P h) (k : Keeps h h' []) (x : IsL h' a vs) (l : env.locals ≠ a) : St hT hE F env fr (fun h => P h ∧ IsL h a vs) h' :=
  (S.same k).turn ⟨(S.same k).p, x⟩ fun h1 h2 k1 p => ⟨S.ps _ _ k1 p.1, p.2.keeps k1 (by rw [List.mem_singleton]; exact l.symm)⟩
theorem St.setL (S : St hT hE F env fr (fun h => P h ∧ IsL h a vs) h) (k : Keeps h h' [a]) (x : IsL h' a vs') (f : hE.get? a = none) (l : env.locals ≠ a) (hp : ∀ h h', Keeps h h' [a] → P h → P h')
    (hps : ∀ h h', Keeps h h' [env.locals] → P h → P h') : St hT hE F env fr (fun h => P h ∧ IsL h a vs') h' :=
  S.step k ((all1 (.inr f))) (by rw [List.mem_singleton]; exact l) ⟨hp _ _ k S.p.1, x⟩ fun h1 h2 k1 p => ⟨hps _ _ k1 p.1, p.2.keeps k1 (by rw [List.mem_singleton]; exact l.symm)⟩
end
end Mine
end
section
open PySem PySem.W PySem.Calls PyProof.Rows Builtin
set_option Elab.async false
set_option maxRecDepth 100000
set_option maxHeartbeats 1000000
set_option linter.unusedVariables false
namespace Mine
section
variable {A : Around} {K : Frag} {h : Heap} {env : Env}
theorem CW.any {c : Code} {Q : Flow → Heap → Prop} (H : ∀ (g : Array GenState) (d : Drawn) (tk : Nat) (os : OsState) (QQ : Flow → Shared → Prop),
    (∀ v h' tk', Q v h' → QQ v ⟨h', g, d, tk', os⟩) → codeAny (model prog w) A c (fun r s' => match r with | .ok f => QQ f s' | .error _ => False) ⟨h, g, d, tk, os⟩) : CW prog w A c h Q :=
  fun g d tk os QQ k Γ p hc hΓ _ => H g d tk os QQ k Γ p hc hΓ
noncomputable abbrev underC (A : Around) (C : Addr) (rest : List Value) : Around := A.under (.builtin "type.__call__" ⟨.ref C :: rest, []⟩)
theorem W_make {C fI : Addr} {rest : List Value} {Q : Value → Heap → Prop} (X : K.In h) (hm : makesIn K C = true) (hi : findIn K (.ref C) "__init__" = some (some (.ref fI))) (hf : typeIn K (.ref fI) = some (.type "function"))
    (H : ∀ x dx h', h.get? x = none → h.get? dx = none → Keeps h h' [] → Inst h' x dx C [] → W prog w (underC A C rest) (call (.ref fI) (.ref x :: rest) []) h' fun v h2 => v = .none ∧ Q (.ref x) h2) :
    W prog w A (call (.ref C) rest []) h Q := by
  have Y := makes_of (M := model prog w) X hm
  have Y' := Y
  obtain ⟨⟨oc, od, cd, sl, hC, e1, e2, e4⟩, made, base, self, top, hcall, typ⟩ := Y
  refine W.call (CW.tree rfl ?_)
  show W _ _ _ (callAny (.ref C) ⟨rest, []⟩) _ _
  unfold callAny
  refine W.bind (W.load hC ?_)
  show W _ _ _ (callAny.viaDunder (.ref C) _) _ _
  unfold callAny.viaDunder
  refine W.bind (W.looks hcall ?_)
  dsimp only
  rw [tc_bind]
  refine W.bind (W.pure (W.bind (W.of_eq (t' := Pure.pure true) rfl (W.pure (W.pure ⟨rfl, ?_⟩)))))
  refine CW.tree rfl ?_
  show W _ _ A.in1 (do checkBuiltinCall "type.__call__" ⟨.ref C :: rest, []⟩; again (.builtin "type.__call__" ⟨.ref C :: rest, []⟩)) _ _
  refine W.bind (W.any fun g d tk os QQ EE k => check_slot tc_kind tc_split typ (tc_args _ _ _) (k _ _ _ (W.pure ⟨Code.quiet_builtin _ (by decide +kernel), CW.builtin (by show dirtyIds.contains "type.__call__" = false; decide +kernel) entry_typeCall ?_⟩)))
  unfold Builtin.«type.__call__»
  have hm : Looks (model prog w) h (mroOf (.ref C)) cd.mro := ((Looks.ld (part := none) hC).andThen .now).andThen .now
  dsimp only
  refine W.ite_no (show ¬ ((Value.ref C == Value.type "type") = true) from Bool.false_ne_true) ?_
  refine W.bind (W.looks hm ?_)
  rw [if_neg (by rw [e4]; decide)]
  refine W.bind (W.looks made ?_)
  dsimp only
  refine W.bind (W.pure (W.bind (W.holding (W.call (CW.any fun g d tk os QQ k => new_K Y' (looks_findIn X hi) (.inl rfl) (k _ _ _ ⟨_, rfl, ?_⟩))))))
  have kk : ∀ b o, h.get? b = some o → ((h.push emptyDict).push (instObj C h.objs.size)).get? b = some o := fun b o e => Heap.get?_push_of_some _ (Heap.get?_push_of_some _ e)
  have hx : ((h.push emptyDict).push (instObj C h.objs.size)).get? (h.objs.size + 1) = some (instObj C h.objs.size) := by heap_get
  have hd : ((h.push emptyDict).push (instObj C h.objs.size)).get? h.objs.size = some emptyDict := by heap_get
  have t1 : Looks (model prog w) ((h.push emptyDict).push (instObj C h.objs.size)) (typeOf (.ref (h.objs.size + 1))) (.ref C) := (Looks.ld hx).andThen .now
  have n1 : h.get? (h.objs.size + 1) = none := by
    cases q : h.get? (h.objs.size + 1) with
    | none => rfl
    | some o => exact absurd (Nat.lt_of_succ_lt (Heap.lt_size q)) (Nat.lt_irrefl _)
  refine W.bind (W.looks (t1.andThen (self.keeps kk)) ?_)
  refine W.bind (W.holding ?_)
  unfold callSpecial? specialOf
  refine W.bind (W.bind (W.looks t1 (W.looks ((looks_findIn X hi).keeps kk) ?_)))
  dsimp only
  refine W.holding (W.bind (W.looks ((bind_fn X _ hf).keeps kk) (W.bind ?_)))
  refine (H _ _ _ n1 size_new (fun b o e _ => kk b o e) ⟨hx, ADict.empty hd⟩).mono ?_
  rintro v h2 ⟨rfl, q⟩
  exact W.pure (W.pure ⟨_, rfl, q⟩)
end
end Mine
end
section
open PySem PySem.W PySem.Calls PyProof.Rows Builtin
set_option Elab.async false
set_option maxRecDepth 100000
set_option maxHeartbeats 1000000
set_option linter.unusedVariables false
namespace Mine
section
variable {A : Around} {K : Frag} {h : Heap} {env : Env}
theorem CW_block {body : List Stmt} {Q : Flow → Heap → Prop} (H : W prog w A (execs body env) h Q) : CW prog w A (.block body env) h Q := by
  refine CW.tree rfl ?_
  show W _ _ A (do return Fin.done (← (execs body env).onRaise (fun x => do noteFrame x env; theTreesLotGoes x))) _ _
  exact W.bind (W.onRaise (H.mono fun f h' q => W.pure q))
theorem W_for {target iter : PySem.Expr} {body orelse : List Stmt} {pos : Pos} {Q : Flow → Heap → Prop} (H : W prog w A (eval iter env) h fun x h1 => W prog w A (pyIter x) h1 fun it h2 => CW prog w A (.forLoop target it body orelse env) h2 Q)
    (hs : ∀ x, foldedSetIterable iter env x = Pure.pure x := by intro _; rfl) : W prog w A (exec (.For target iter body orelse pos) env) h Q := by
  rw [exec_For]
  refine W.bind (W.standAt (W.bind (H.mono fun x h1 H1 => ?_)))
  rw [hs]
  exact W.bind (W.pure (W.bind (W.standAt (W.bind (W.holding (H1.mono fun it h2 H2 => W.runOwn H2))))))
theorem CW_for {target : PySem.Expr} {it : Value} {body orelse : List Stmt} {Q : Flow → Heap → Prop}
    (H : W prog w A (pyNext it) h fun r h1 => match r with
      | none => W prog w A (execs orelse env) h1 Q
      | some v => W prog w A (letOwnedTupleGo target it v) h1 fun _ h2 => W prog w A (assign target env v) h2 fun _ h3 => W prog w A (execs body env) h3 fun f h4 => match f with
        | .next | .cont => CW prog w A (.forLoop target it body orelse env) h4 Q
        | .brk => Q .next h4
        | .ret v => Q (.ret v) h4) : CW prog w A (.forLoop target it body orelse env) h Q := by
  refine CW.tree rfl ?_
  show W _ _ A ((forTurn target it body orelse env).onRaise (fun x => do noteFrame x env; theTreesLotGoes x)) _ _
  refine W.onRaise ?_
  unfold forTurn
  refine W.bind (W.standAt (W.bind (W.onRaise (H.mono fun r h1 H1 => ?_))))
  cases r with
  | none => exact W.pure ⟨rfl, CW_block H1⟩
  | some v =>
    refine W.bind (H1.mono fun _ h2 H2 => W.bind (H2.mono fun _ h3 H3 => W.bind (H3.mono fun f h4 q => ?_)))
    cases f with
    | next => exact W.pure ⟨rfl, q⟩
    | cont => exact W.pure ⟨rfl, q⟩
    | brk => exact W.pure q
    | ret v => exact W.pure q
end
end Mine
end
section
open PySem PySem.W PySem.Calls PyProof.Rows Builtin
set_option Elab.async false
set_option maxRecDepth 100000
set_option maxHeartbeats 1000000
set_option linter.unusedVariables false
namespace Mine
theorem Keeps.but {h h' : Heap} {a : Addr} (s : Heap.ExtBut a h h') : Keeps h h' [a] := fun b o e n => s b o (fun q => n (by rw [q]; exact List.mem_singleton_self _)) e
theorem Keeps.sameBut {h h' : Heap} {a : Addr} (s : Heap.SameBut a h h') : Keeps h h' [a] := Keeps.but s.extBut
section
variable {A : Around} {K : Frag} {h : Heap} {env : Env}
theorem P_list {l : Addr} {vs : List Value} {Q : Value → Heap → Prop} (x : IsL h l vs) (q : ∀ it h', h.get? it = none → Keeps h h' [] → h'.IsListIter it l 0 → Q (.ref it) h') : W prog w A (pyIter (.ref l)) h Q :=
  W.any fun g d tk os QQ EE k => wpAny_pyIter_list x.isList (k _ _ _ (q _ _ size_new Keeps.push ⟨_, push_new rfl, rfl, rfl⟩))
theorem N_list {it l : Addr} {i : Nat} {vs : List Value} {v : Value} {Q : Option Value → Heap → Prop} (hi : h.IsListIter it l i) (x : IsL h l vs) (hv : vs[i]? = some v)
    (q : ∀ h', Keeps h h' [it] → h'.IsListIter it l (i + 1) → Q (some v) h') : W prog w A (pyNext (.ref it)) h Q :=
  W.any fun g d tk os QQ EE k => wpAny_pyNext_list_item hi x.isList (by simpa using hv) fun h' a b => k _ _ _ (q h' (Keeps.sameBut b) a)
theorem N_list_end {it l : Addr} {i : Nat} {vs : List Value} {Q : Option Value → Heap → Prop} (hh : A.handled = none) (hi : h.IsListIter it l i) (x : IsL h l vs) (hv : vs.length ≤ i)
    (q : ∀ h', Keeps h h' [it] → Q none h') : W prog w A (pyNext (.ref it)) h Q :=
  W.any fun g d tk os QQ EE k => wpAny_pyNext_list_end hh hi x.isList (by simpa using hv) fun h' b => k _ _ _ (q h' (Keeps.but b))
theorem N_range {it : Addr} {n m : Int} {Q : Option Value → Heap → Prop} (hi : IsRangeIter h it n m 1) (hm : 0 < m) (q : ∀ t h', Keeps h h' [it] → IsRangeIter h' it (n + 1) (m - 1) 1 → Q (some (.int n t)) h') : W prog w A (pyNext (.ref it)) h Q :=
  W.any fun g d tk os QQ EE k => wpAny_pyNext_range_item hi hm fun h' a b => k _ _ _ (q _ h' (Keeps.sameBut b) a)
theorem N_range_end {it : Addr} {n m : Int} {Q : Option Value → Heap → Prop} (hh : A.handled = none) (hi : IsRangeIter h it n m 1) (hm : m ≤ 0) (q : ∀ h', Keeps h h' [it] → Q none h') : W prog w A (pyNext (.ref it)) h Q :=
  W.any fun g d tk os QQ EE k => wpAny_pyNext_range_end hh hi hm fun h' b => k _ _ _ (q h' (Keeps.but b))
end
end Mine
end
section
open PySem PySem.W PySem.Calls PyProof.Rows Builtin
set_option Elab.async false
set_option maxRecDepth 100000
set_option maxHeartbeats 1000000
set_option linter.unusedVariables false
namespace Mine
section
variable {A : Around} {K : Frag} {h : Heap} {env : Env}
noncomputable abbrev BD (prog : Program) (w : World) (h : Heap) (d : Addr) (f : List (List UInt8 × Value)) : Prop := h.DictOf (bytesKind prog w) d f
theorem BD.keeps {h h' : Heap} {F : List Addr} {d : Addr} {f : List (List UInt8 × Value)} (m : BD prog w h d f) (k : Keeps h h' F) (n : d ∉ F) : BD prog w h' d f :=
  let ⟨o, es, ep, ho, r⟩ := m; ⟨o, es, ep, k _ _ ho n, r⟩
theorem BD.some {h : Heap} {d : Addr} {f : List (List UInt8 × Value)} (m : BD prog w h d f) : ∃ o, h.get? d = Option.some o := let ⟨o, _, _, ho, _⟩ := m; ⟨o, ho⟩
theorem isBytes_self (l : List UInt8) (t : Tok) : (bytesKind prog w).is l (.bytes l.toArray t) = true := by
  show (l.toArray.toList == l) = true
  simp
theorem D_get {d : Addr} {f : List (List UInt8 × Value)} {l : List UInt8} {t : Tok} {Q : Value → Heap → Prop} (m : BD prog w h d f) (hd : (d == sysModules) = false) (q : Q ((valueAt f l).getD .none) h) :
    W prog w A (call (.builtin "dict.get") [.ref d, .bytes l.toArray t] []) h Q :=
  W.any fun g dd tk os QQ EE k => call_meetsIn PySem.F.slot_dict_get (s := ⟨h, g, dd, tk, os⟩) m.mapOf.typeIs PySem.F.entry_dict_get (PySem.F.args_dict_get_2 _ _) (meets_dict_get (bytesKind prog w) d (isBytes_self l t) hd) ⟨_, m.mapOf, k _ _ _ q⟩
theorem D_set {d : Addr} {f : List (List UInt8 × Value)} {l : List UInt8} {t : Tok} {v : Value} {Q : Unit → Heap → Prop} (m : BD prog w h d f) (hz : f.length ≤ 1000) (q : ∀ h', Keeps h h' [d] → BD prog w h' d (stored f l v) → Q () h') :
    W prog w A (setItem (.ref d) (.bytes l.toArray t) v) h Q :=
  W.any fun g dd tk os QQ EE k => wpAny_setItem_pairs (s := ⟨h, g, dd, tk, os⟩) (isBytes_self l t) m (fun h' a b => k _ _ _ (q h' (Keeps.sameBut b) a)) (by rw [sizeLine_eq]; omega)
theorem W_setitem {o i : PySem.Expr} {p' pos : Pos} {value : PySem.Expr} {Q : Flow → Heap → Prop}
    (H : W prog w A (eval value env) h fun v h1 => W prog w A (eval o env) h1 fun ov h2 => W prog w A (eval i env) h2 fun iv h3 => W prog w A (setItem ov iv v) h3 fun _ h4 => Q .next h4)
    (hs : swapsWith value (some (.Subscript o i p')) pos.line env = Pure.pure false := by rfl) : W prog w A (exec (.Assign [.Subscript o i p'] value pos) env) h Q := by
  rw [exec_Assign_Subscript o i p' value pos hs]
  refine W.bind (W.standAt (W.bind (H.mono fun v h1 H1 => W.bind ?_)))
  rw [PySem.assign_Subscript]
  refine W.bind (W.holding (H1.mono fun ov h2 H2 => W.bind (W.holding (H2.mono fun iv h3 H3 => W.bind (W.standAt (W.bind (W.holding (H3.mono fun _ h4 q => W.release (W.pure q)))))))))
theorem P_enum {e it : Addr} {i : Int} {old : Value} {Q : Value → Heap → Prop} (x : IsEnum h e it i old) (q : Q (.ref e) h) : W prog w A (pyIter (.ref e)) h Q :=
  W.any fun g d tk os QQ EE k => wpAny_pyIter_enum x (k _ _ _ q)
theorem C_enum {l : Addr} {vs : List Value} {Q : Value → Heap → Prop} (x : IsL h l vs)
    (q : ∀ e it h', h.get? e = none → h.get? it = none → e ≠ it → Keeps h h' [] → IsEnum h' e it 0 .none → h'.IsListIter it l 0 → Q (.ref e) h') : W prog w A (call (.type "enumerate") [.ref l] []) h Q :=
  W.any fun g d tk os QQ EE k => call_enumerate_list (s := ⟨h, g, d, tk, os⟩) x.isList fun h' a b c kk => k _ _ _ (q _ _ h' (by
    cases qq : h.get? (h.objs.size + 1) with
    | none => rfl
    | some o => exact absurd (Nat.lt_of_succ_lt (Heap.lt_size qq)) (Nat.lt_irrefl _)) size_new (Nat.succ_ne_self _) (fun b o e _ => kk b o e) a b)
theorem N_enum {e it l : Addr} {i : Nat} {vs : List Value} {v old : Value} {Q : Option Value → Heap → Prop} (he : IsEnum h e it i old) (hi : h.IsListIter it l i) (x : IsL h l vs) (hv : vs[i]? = some v) (ne : e ≠ it)
    (q : ∀ a t h', Keeps h h' [e, it] → IsEnumOut h' e it ((i : Int) + 1) v a → h'.IsListIter it l (i + 1) → IsT h' a [.int i t, v] → h.get? a = none → Q (some (.ref a)) h') : W prog w A (pyNext (.ref e)) h Q :=
  W.any fun g d tk os QQ EE k => wpAny_pyNext_enum_item (s := ⟨h, g, d, tk, os⟩) he hi x.isList (by simpa using hv) ne fun h' a b c _ kk => k _ _ _ (q _ _ h' (fun b o e n => kk b o (fun q => n (by simp [q])) (fun q => n (by simp [q])) e) a b ⟨_, c⟩ size_new)
theorem N_enum_end {e it l : Addr} {i : Nat} {vs : List Value} {old : Value} {Q : Option Value → Heap → Prop} (hh : A.handled = none) (he : IsEnum h e it i old) (hi : h.IsListIter it l i) (x : IsL h l vs) (hv : vs.length ≤ i)
    (q : ∀ h', Keeps h h' [it] → Q none h') : W prog w A (pyNext (.ref e)) h Q :=
  W.any fun g d tk os QQ EE k => wpAny_pyNext_enum_end (s := ⟨h, g, d, tk, os⟩) hh he hi x.isList (by simpa using hv) fun h' b => k _ _ _ (q h' (Keeps.but b))
theorem G_enum {elts : List PySem.Expr} {x1} {pos : Pos} {e it a : Addr} {i : Int} {item : Value} {Q : Unit → Heap → Prop} (he : IsEnumOut h e it i item a) (q : ∀ h', Keeps h h' [e] → IsEnum h' e it i item → Q () h') :
    W prog w A (letOwnedTupleGo (.Tuple elts x1 pos) (.ref e) (.ref a)) h Q :=
  W.any fun g d tk os QQ EE k => wpAny_letOwnedTupleGo_enum (s := ⟨h, g, d, tk, os⟩) he fun h' a b => k _ _ _ (q h' (Keeps.sameBut b) a)
theorem A_tup2 {x y : Str} {px py tp : Pos} {k : Nat} {a : Addr} {v1 v2 : Value} {Q : Unit → Heap → Prop} (hh : A.handled = none) (xt : IsT h a [v1, v2])
    (H : ∀ h2, Keeps h h2 [] → W prog w A (storeName env x v1) h2 fun _ h3 => W prog w A (storeName env y v2) h3 fun _ h4 => Q () h4) :
    W prog w A (assign (.Tuple [.Name x px, .Name y py] k tp) env (.ref a)) h Q := by
  rw [assign_Tuple]
  refine W.bind (W.standAt ?_)
  unfold unpack
  refine W.bind (W.holding (U_tuple hh xt rfl fun h2 k2 => ?_))
  show W prog w A (do holding [v2] (do standAt px; bindName env x v1); (do holding [] (do standAt py; bindName env y v2); pure ()) : Sem Unit) h2 _
  refine W.bind (W.holding (W.bind (W.standAt (W.bindName ((H h2 k2).mono fun _ h3 H3 => ?_)))))
  exact W.bind (W.holding (W.bind (W.standAt (W.bindName (H3.mono fun _ h4 q => W.pure q)))))
theorem A_name {x : Str} {px : Pos} {v : Value} {Q : Unit → Heap → Prop} (H : W prog w A (storeName env x v) h Q) : W prog w A (assign (.Name x px) env v) h Q := by
  show W prog w A (do standAt px; bindName env x v) h Q
  exact W.bind (W.standAt (W.bindName H))
theorem CW_enum {x y : Str} {px py tp : Pos} {k : Nat} {e it l : Addr} {i : Nat} {vs : List Value} {v old : Value} {body orelse : List Stmt} {Q : Flow → Heap → Prop} (hh : A.handled = none)
    (he : IsEnum h e it i old) (hi : h.IsListIter it l i) (xl : IsL h l vs) (hv : vs[i]? = some v) (ne : e ≠ it)
    (H : ∀ t h', Keeps h h' [e, it] → IsEnum h' e it ((i : Int) + 1) v → h'.IsListIter it l (i + 1) → W prog w A (storeName env x (.int i t)) h' fun _ h3 => W prog w A (storeName env y v) h3 fun _ h4 => W prog w A (execs body env) h4 fun f h5 => match f with
        | .next | .cont => CW prog w A (.forLoop (.Tuple [.Name x px, .Name y py] k tp) (.ref e) body orelse env) h5 Q
        | .brk => Q .next h5
        | .ret v => Q (.ret v) h5) : CW prog w A (.forLoop (.Tuple [.Name x px, .Name y py] k tp) (.ref e) body orelse env) h Q := by
  refine CW_for (N_enum he hi xl hv ne fun a t h1 k1 e1 i1 t1 n1 => ?_)
  refine G_enum e1 fun h2 k2 e2 => ?_
  have ae : a ≠ e := by rintro rfl; cases n1.symm.trans he
  refine A_tup2 hh (t1.keeps k2 (by simpa using ae)) fun h3 k3 => ?_
  refine (H t h3 (fun b o hb hn => k3 b o (k2 b o (k1 b o hb hn) fun m => hn (by rw [List.mem_singleton] at m; simp [m])) List.not_mem_nil) (k3 _ _ e2 List.not_mem_nil) ?_).mono fun _ h4 H4 => H4
  obtain ⟨o, c1, c2⟩ := i1
  exact ⟨o, k3 _ _ (k2 _ _ c1 (by simpa using ne.symm)) List.not_mem_nil, c2⟩
theorem CW_enum_end {target : PySem.Expr} {e it l : Addr} {i : Nat} {vs : List Value} {old : Value} {body : List Stmt} {Q : Flow → Heap → Prop} (hh : A.handled = none)
    (he : IsEnum h e it i old) (hi : h.IsListIter it l i) (xl : IsL h l vs) (hv : vs.length ≤ i) (H : ∀ h', Keeps h h' [it] → Q .next h') : CW prog w A (.forLoop target (.ref e) body [] env) h Q :=
  CW_for (N_enum_end hh he hi xl hv fun h' k => W.pure (H h' k))
end
end Mine
end
section
open PySem PySem.W PySem.Calls PyProof.Rows
set_option maxRecDepth 100000
set_option linter.unusedVariables false
set_option linter.unusedSimpArgs false
set_option maxHeartbeats 4000000
set_option hygiene false
set_option pp.maxSteps 400
namespace Mine
theorem tac_mac : True := by
  k_with "gv" => (with_reducible first
  | exact g_wall _
  | exact g_BLANKS _
  | exact g_Limits _
  | exact g_LuaError _
  | exact g_LuaSyntaxError _
  | exact g_is_number _
  | exact g_wrap _
  | exact g_is_blank _
  | exact g_is_blank_values _
  | exact g_digit_of _
  | exact g_read_digits _
  | exact g_skip_blanks _
  | exact g_str_to_number _
  | exact g_text_in_base _
  | exact g_number_text _
  | exact g_to_text _
  | exact g_c_text _
  | exact g_first_line _
  | exact g_chunk_id _
  | exact g_END_OF_TEXT _
  | exact g_FIRST_RESERVED _
  | exact g_RESERVED _
  | exact g_TK_CONCAT _
  | exact g_TK_DOTS _
  | exact g_TK_EQ _
  | exact g_TK_GE _
  | exact g_TK_LE _
  | exact g_TK_NE _
  | exact g_TK_NUMBER _
  | exact g_TK_NAME _
  | exact g_TK_STRING _
  | exact g_TK_EOS _
  | exact g_OTHER_TEXTS _
  | exact g_SOURCE_SIZE _
  | exact g_MOST_LINES _
  | exact g_NEWLINE _
  | exact g_RETURN _
  | exact g_QUOTE_DOUBLE _
  | exact g_QUOTE_SINGLE _
  | exact g_PLUS _
  | exact g_MINUS _
  | exact g_DOT _
  | exact g_LESS _
  | exact g_EQUALS _
  | exact g_GREATER _
  | exact g_BRACKET_OPEN _
  | exact g_BACKSLASH _
  | exact g_BRACKET_CLOSE _
  | exact g_UNDERSCORE _
  | exact g_TILDE _
  | exact g_is_digit _
  | exact g_is_letter _
  | exact g_is_name_sign _
  | exact g_is_control _
  | exact g_is_newline _
  | exact g_escaped_sign _
  | exact g_reserved_kinds _
  | exact g_token_text _
  | exact g_law_sip _
  | exact g_law_told _
  | exact g_law_tokens _
  | exact g_law_refused _
  | exact g_law _
  | exact g_is_blank_lexer _
  | exact g_Token _
  | exact g_Lexer _
  | exact g_TokenRow _
  | exact g_len _
  | exact g_bytes _
  | exact g_bytearray _
  | exact g_range _
  | exact g_enumerate _
  | exact g_isinstance _
  | exact g_abs _
  | exact g_max _
  | exact g_str _
  | exact g_int _
  | exact g_bool _)
  k_with "kk" => (with_reducible first
  | exact kkb
  | exact kkt
  | exact kk_lim_init _
  | exact kk_err_init _
  | exact kk_is_number _
  | exact kk_wrap _
  | exact kk_is_blank_values _
  | exact kk_digit_of _
  | exact kk_read_digits _
  | exact kk_skip_blanks _
  | exact kk_str_to_number _
  | exact kk_text_in_base _
  | exact kk_number_text _
  | exact kk_to_text _
  | exact kk_c_text _
  | exact kk_first_line _
  | exact kk_chunk_id _
  | exact kk_is_digit _
  | exact kk_is_letter _
  | exact kk_is_name_sign _
  | exact kk_is_blank_lexer _
  | exact kk_is_control _
  | exact kk_is_newline _
  | exact kk_escaped_sign _
  | exact kk_reserved_kinds _
  | exact kk_token_text _
  | exact kk_tok_init _
  | exact kk_lex_init _
  | exact kk_next _
  | exact kk_lookahead _
  | exact kk_error _
  | exact kk_syntax_error _
  | exact kk_near_text _
  | exact kk_move _
  | exact kk_keep _
  | exact kk_keep_and_move _
  | exact kk_keep_if _
  | exact kk_clear _
  | exact kk_end_line _
  | exact kk_read _
  | exact kk_skip_blank _
  | exact kk_sign_behind _
  | exact kk_skip_comment _
  | exact kk_read_compared _
  | exact kk_read_dots _
  | exact kk_read_word _
  | exact kk_read_numeral _
  | exact kk_read_bracket _
  | exact kk_read_level _
  | exact kk_read_long _
  | exact kk_read_inner _
  | exact kk_read_string _
  | exact kk_read_escape _
  | exact kk_lex_read_digits _
  | exact kk_row_init _
  | exact kk_row_token_at _
  | exact kk_row_next _
  | exact kk_row_lookahead _
  | exact kk_row_error _
  | exact kk_row_syntax_error _
  | exact kk_law_sip _
  | exact kk_law_told _
  | exact kk_law_tokens _
  | exact kk_law_refused _
  | exact kk_Limits _
  | exact kk_Token _
  | exact kk_Lexer _
  | exact kk_TokenRow _)
  k_with "mem" => (with_reducible first
  | exact List.mem_cons_self
  | (apply List.mem_cons_of_mem; k_extra "mem"))
  k_with "put" => (with_reducible first
  | exact Put.head
  | (apply Put.tail; k_extra "put"))
  k_with "w_eval" => (first
  | with_reducible refine W_int (fun _ => ?_)
  | ((with_reducible refine' W_loc S ?hm ?_); (case hm => k_extra "mem"))
  | ((with_reducible refine' W_glob S G ?hv ?hx ?_); (case hv => k_extra "gv"); (case hx => kernel_rfl))
  | ((with_reducible refine W_cmp ?_ ?hm); (case hm => with_unfolding_all rfl))
  | with_reducible refine W_binop ?_
  | ((with_reducible refine W_chain ?_ ?hm); (case hm => with_unfolding_all rfl))
  | with_reducible refine W_bor ?_
  | with_reducible refine W_band ?_
  | with_reducible refine W_bone ?_
  | with_reducible refine W_none ?_
  | with_reducible refine W_bool ?_
  | with_reducible refine W_bytes (fun _ => ?_)
  | with_reducible refine W_ifexp ?_
  | with_reducible refine W_unary ?_
  | ((with_reducible refine' W_meth ?_ ?he); (case he => exact rfl))
  | ((with_reducible refine W_call ?_ ?he); (case he => exact rfl))
  | with_reducible refine W_sub ?_
  | with_reducible refine W_attr ?_
  | with_reducible refine W_attr2 ?_
  | with_reducible refine W_tuple ?_
  | with_reducible refine W_list ?_
  | with_reducible refine W_slice ?_)
  k_with "w_exec" => (first
  | with_reducible refine W_ret ?_
  | with_reducible refine W_ret0 ?_
  | with_reducible refine W_if ?_
  | ((with_reducible refine W_assign ?_ ?hs); (case hs => exact rfl))
  | with_reducible refine W_augname ?_
  | with_reducible refine W_pass ?_
  | with_reducible refine W_brk ?_
  | ((with_reducible refine W_expr ?_ ?hi ?hs); (case hi => exact rfl); (case hs => exact rfl))
  | ((with_reducible refine W_setattr ?_ ?hs); (case hs => exact rfl))
  | with_reducible refine W_augattr ?_
  | ((with_reducible refine W_asg2 R.hh ?_ ?hs ?hw); (case hs => exact rfl); (case hw => with_unfolding_all rfl))
  | ((with_reducible refine W_asg2s R.hh ?_ ?hs ?hw); (case hs => exact rfl); (case hw => with_unfolding_all rfl))
  | ((with_reducible refine W_asg3s R.hh ?_ ?hs ?hw); (case hs => exact rfl); (case hw => with_unfolding_all rfl))
  | (with_reducible refine W_while ?_))
  k_with "w_execs" => (first
  | with_reducible refine W_consS (fun Q1 q1 => ?_)
  | with_reducible refine W_nil ?_)
  k_with "w_isTrue" => (first
  | ((with_reducible refine T_cmp ?_ ?hm); (case hm => with_unfolding_all rfl))
  | ((with_reducible refine T_chain ?_ ?hm); (case hm => with_unfolding_all rfl))
  | with_reducible refine T_or ?_
  | with_reducible refine T_and ?_
  | with_reducible refine T_or0 ?_
  | with_reducible refine T_and0 ?_
  | with_reducible refine T_not ?_
  | with_reducible refine (T_plain (he := rfl) ?_))
  k_with "w_callWith" => (first
  | ((with_reducible refine W_w0 G S.up ?hk ?_); (case hk => k_extra "kk"))
  | ((with_reducible refine W_w0m G S.up ?hk ?_); (case hk => k_extra "kk"))
  | ((with_reducible refine W_w1 G ?hk ?_ ?he ?hp); (case hk => k_extra "kk"); (case he => exact rfl); (case hp => exact rfl))
  | ((with_reducible refine W_w1m G ?hk ?_ ?he ?hp); (case hk => k_extra "kk"); (case he => exact rfl); (case hp => exact rfl)))
  k_with "w_spliced" => (first
  | with_reducible refine A_nil ?_
  | ((with_reducible refine A_cons ?_ ?he); (case he => exact rfl)))
  k_with "w_compareOp" => (first
  | with_reducible refine C_le ?_
  | with_reducible refine C_lt ?_
  | with_reducible refine C_eq ?_
  | with_reducible refine C_ne ?_
  | with_reducible refine C_gt ?_
  | with_reducible refine C_ge ?_
  | with_reducible refine C_inT (by assumption) (by first | exact .cons _ _ .nil | exact .cons _ _ (.cons _ _ .nil) | exact .cons _ _ (.cons _ _ (.cons _ _ .nil)) | exact .cons _ _ (.cons _ _ (.cons _ _ (.cons _ _ .nil)))) ?_
  | with_reducible refine B_eq ?_
  | with_reducible refine B_ne ?_
  | ((with_reducible refine B_in ?h0 ?h1 ?_); (case h0 => first | omega | decide +kernel); (case h1 => first | omega | decide +kernel)))
  k_with "w_binaryOp" => (first
  | with_reducible refine I_add (fun _ => ?_)
  | with_reducible refine I_sub (fun _ => ?_)
  | with_reducible refine I_and (fun _ => ?_)
  | ((with_reducible refine I_mul ?hm (fun _ => ?_)); (case hm => first | assumption | mul_fits))
  | ((with_reducible refine I_shl ?h0 ?h1 ?h2 (fun _ => ?_)); (case h0 => omega); (case h1 => omega); (case h2 => decide))
  | ((with_reducible refine I_div ?h0 ?h1 (fun _ => ?_)); (case h0 => decide); (case h1 => exact PyProof.noPylong_small (by decide)))
  | ((with_reducible refine I_mod ?h0 (fun _ => ?_)); (case h0 => decide)))
  k_with "w_call" => (first
  | with_reducible refine B_len (by assumption) (fun _ => ?_)
  | ((with_reducible refine' BL_bytes R.hh S.p.2 ?hi ?hr ?hz ?_); (case hi => first | assumption | exact .cons _ _ .nil); (case hr => first | decide | assumption); (case hz => first | decide | assumption | (simp only [List.length_cons, List.length_nil]; omega)); (intro _ h k1; replace S := S.same k1; clear k1))
  | (with_reducible refine L_len (by assumption) (by decide) (fun _ => ?_))
  | with_reducible refine I_abs (fun _ => ?_)
  | with_reducible refine I_isBytes ?_
  | with_reducible refine I_isInt ?_
  | with_reducible refine I_isBool ?_)
  k_with "w_rest" => (first
  | with_reducible refine T_bool ?_
  | with_reducible refine I_iadd (fun _ => ?_)
  | with_reducible refine CC_two ?_
  | with_reducible refine TC_two ?_
  | with_reducible refine T_none ?_
  | with_reducible refine T_int ?_
  | ((with_reducible refine' W_store S ?hp ?_); (case hp => k_extra "put"); clear S; intro h S)
  | ((with_reducible refine' L_load S ?hm ?_); (case hm => k_extra "mem"))
  | with_reducible refine I_neg (fun _ => ?_)
  | with_reducible refine U_not ?_
  | ((with_reducible refine B_item ?hl ?h0 ?h1 (fun _ => ?_) ?hs); (case hs => with_unfolding_all rfl); (case hl => assumption); (case h0 => first | omega | decide +kernel); (case h1 => first | omega | decide +kernel))
  | with_reducible refine P_none ?_
  | with_reducible refine P_some ?_
  | ((with_reducible refine' B_slice ?hl x1 ?plb ?pub (fun _ => ?_) ?hs); (case hs => with_unfolding_all rfl); (case hl => assumption); (case plb => first | exact .none | exact .int _ _); (case pub => first | exact .none | exact .int _ _))
  | ((with_reducible refine lim_width (S.X G) ?hw (fun _ => ?_)); (case hw => assumption))
  | with_reducible refine B_getm_find ?_
  | with_reducible refine L_getm_append S.p.2 ?_
  | with_reducible refine L_getm_reverse S.p.2 ?_)
  k_with "w_and" => (first
  | with_reducible refine split_tt ?_
  | with_reducible refine split_ff ?_
  | with_reducible refine split_dec (fun c => ?_) (fun c => ?_)
  | with_reducible refine split_ndec (fun c => ?_) (fun c => ?_)
  | with_reducible refine split_not (fun c => ?_) (fun c => ?_)
  | with_reducible refine And.intro (fun c => ?_) (fun c => ?_)
  | with_reducible refine And.intro S.up ?_
  | with_reducible refine And.intro noref_none ?_
  | with_reducible refine And.intro noref_bool ?_
  | (with_reducible intro la h n1 k1 lx; have ll := S.ne n1; have lf := S.new n1 (by simp); replace S := S.addL k1 lx ll; clear k1)
  | (with_reducible intro a1 h n1 k1 x1; have l1 := S.ne n1; replace S := S.same k1; clear k1)
  | ((with_reducible refine And.intro ?hz ?_); (case hz => first | decide | (simp only [List.length_cons, List.length_nil, List.length_append]; omega)))
  | ((with_reducible refine ⟨_, _, _, rfl, x1, ?_⟩); intro h k1; replace S := S.same k1; clear k1)
  | ((with_reducible refine ⟨_, _, _, _, rfl, x1, ?_⟩); intro h k1; replace S := S.same k1; clear k1)
  | ((with_reducible refine' useQ ?q1 ?_); (case q1 => assumption)))
  k_with "u" => (repeat ((with_reducible refine' useQ ?q1 ?_); (case q1 => assumption)))
  k_with "wg" => (first
  | ((with_reducible show W _ _ _ (eval _ _) _ _); k_extra "w_eval")
  | ((with_reducible show W _ _ _ (callWith _ _ _ _ _) _ _); k_extra "w_callWith")
  | ((with_reducible show W _ _ _ (spliced _) _ _); k_extra "w_spliced")
  | ((with_reducible show W _ _ _ (compareOp _ _ _) _ _); k_extra "w_compareOp")
  | ((with_reducible show W _ _ _ (execs _ _) _ _); k_extra "w_execs")
  | ((with_reducible show W _ _ _ (exec _ _) _ _); k_extra "w_exec")
  | ((with_reducible show W _ _ _ (isTrue _ _ _) _ _); k_extra "w_isTrue")
  | ((with_reducible show W _ _ _ (binaryOp _ _ _) _ _); k_extra "w_binaryOp")
  | ((with_reducible show W _ _ _ (call _ _ _) _ _); k_extra "w_call")
  | k_extra "w_rest"
  | k_extra "w2")
  k_with "w" => (first
  | with_reducible exact absurd c Bool.false_ne_true
  | with_reducible exact absurd c.symm Bool.false_ne_true
  | ((with_reducible show W _ _ _ _ _ _); k_extra "wg")
  | k_extra "w_and")
  k_with "ww" => (repeat' k_extra "w")
  k_with "bool" => ((k_extra "u"; refine ⟨congrArg Value.bool ?_, S.kp⟩; rw [Bool.eq_iff_iff]; simp only [isDigitZ, isLetterZ, isNameZ, isBlankZ, isControlZ, isNewlineZ, Bool.or_eq_true, Bool.and_eq_true, Bool.eq_false_iff, decide_eq_true_eq, beq_iff_eq, bne_iff_ne, List.mem_cons, List.not_mem_nil, or_false, Bool.or_false, ne_eq, true_iff, false_iff, Bool.not_eq_eq_eq_not, Bool.not_true, Bool.not_false, reduceCtorEq, not_true_eq_false, not_false_eq_true] at *; try omega))
  k_with "same" => ((refine same_ S ?_; clear S; intro h S))
  k_with "d" => (first
  | with_reducible exact absurd c Bool.false_ne_true
  | with_reducible exact absurd c.symm Bool.false_ne_true
  | ((with_reducible show W _ _ _ _ _ _); k_extra "wg")
  | (with_reducible refine split_t (by decide +kernel) ?_)
  | (with_reducible refine split_f (by decide +kernel) ?_)
  | (with_reducible refine split_bt (by decide +kernel) ?_)
  | (with_reducible refine split_bf (by decide +kernel) ?_)
  | k_extra "w_and")
  k_with "dd" => (repeat' k_extra "d")
  k_with "o" => (first
  | with_reducible exact absurd c Bool.false_ne_true
  | with_reducible exact absurd c.symm Bool.false_ne_true
  | ((with_reducible show W _ _ _ _ _ _); k_extra "wg")
  | (with_reducible refine split_t (by omega) ?_)
  | (with_reducible refine split_f (by omega) ?_)
  | k_extra "w_and")
  k_with "oo" => (repeat' k_extra "o")
  k_with "int" => ((refine int_ S ?_; clear S; intro _ h S))
  trivial
section
variable {A : Around} {h : Heap} {env : Env}
theorem W.cps {α : Type} {t : Sem α} {Q0 : α → Heap → Prop} (H : ∀ Q : α → Heap → Prop, (∀ v h', Q0 v h' → Q v h') → W prog w A t h Q) : W prog w A t h Q0 := H Q0 fun _ _ x => x
theorem W_seq {st : Stmt} {rest : List Stmt} {P : Heap → Prop} {Q : Flow → Heap → Prop} (H : W prog w A (exec st env) h fun f h1 => f = .next ∧ P h1) (k : ∀ h1, P h1 → W prog w A (execs rest env) h1 Q) : W prog w A (execs (st :: rest) env) h Q := by
  refine W_cons (H.mono ?_)
  rintro f h1 ⟨rfl, p⟩
  exact k h1 p
theorem same_ {hE : Heap} {F : List Addr} {fr : Fra} {P : Heap → Prop} {v0 : Value} {Q : Value → Heap → Prop} (S : St hT hE F env fr P h) (q : ∀ h', St hT hE F env fr P h' → Q v0 h') : ∀ v h', (v = v0 ∧ Keeps h h' []) → Q v h' := fun v h' x => x.1 ▸ q h' (S.same x.2)
theorem int_ {hE : Heap} {F : List Addr} {fr : Fra} {P : Heap → Prop} {f : Tok → Value} {Q : Value → Heap → Prop} (S : St hT hE F env fr P h) (q : ∀ t h', St hT hE F env fr P h' → Q (f t) h') : ∀ v h', ((∃ t, v = f t) ∧ Keeps h h' []) → Q v h' := fun v h' x => let ⟨⟨t, e⟩, k⟩ := x; e ▸ q t h' (S.same k)
end
noncomputable abbrev GG (w : World) (hT : Heap) : Prop := Gr (KK w.params) hT
section
variable {A : Around} {K : Frag} {h : Heap} {env : Env}
theorem W_w0 {f : Value} {pos pos' : Pos} {Q : Value → Heap → Prop} (G : Gr K hT) (up : Grown hT h) (hk : KeepOK K f) (H : W prog w A (call f [] []) h Q) : W prog w A (callWith pos f [] (backTo pos' (starEach [] env)) []) h Q := W_with0 G up hk H
theorem W_w0m {f x : Value} {pos pos' : Pos} {Q : Value → Heap → Prop} (G : Gr K hT) (up : Grown hT h) (hk : KeepOK K f) (H : W prog w A (call f [x] []) h Q) : W prog w A (callWith pos f [x] (backTo pos' (starEach [] env)) []) h Q := W_with0 G up hk H
theorem W_w1 {f : Value} {e : PySem.Expr} {rest : List PySem.Expr} {pos pos' : Pos} {Q : Value → Heap → Prop} (G : Gr K hT) (hk : KeepOK K f)
    (H : W prog w A (spliced (backTo pos' (starEach (e :: rest) env))) h fun vs h1 => Grown hT h1 ∧ W prog w A (call f vs []) h1 Q)
    (he : starEach (e :: rest) env = (false, eval e env) :: starEach rest env := by rfl) (hp : (backTo pos' (starEach rest env)).any (·.1) = false := by rfl) : W prog w A (callWith pos f [] (backTo pos' (starEach (e :: rest) env)) []) h Q := W_with G hk H he hp
theorem W_w1m {f x : Value} {e : PySem.Expr} {rest : List PySem.Expr} {pos pos' : Pos} {Q : Value → Heap → Prop} (G : Gr K hT) (hk : KeepOK K f)
    (H : W prog w A (spliced (backTo pos' (starEach (e :: rest) env))) h fun vs h1 => Grown hT h1 ∧ W prog w A (call f (x :: vs) []) h1 Q)
    (he : starEach (e :: rest) env = (false, eval e env) :: starEach rest env := by rfl) (hp : (backTo pos' (starEach rest env)).any (·.1) = false := by rfl) : W prog w A (callWith pos f [x] (backTo pos' (starEach (e :: rest) env)) []) h Q := W_with G hk H he hp
end
theorem kkb {K : Frag} {i : String} : KeepOK K (.builtin i) := .inr (fun _ e => nomatch e)
theorem kkt {K : Frag} {i : String} : KeepOK K (.type i) := .inr (fun _ e => nomatch e)
theorem noref_none : ∀ a, Value.none ≠ .ref a := fun _ e => nomatch e
theorem Room.hh {A : Around} {n : Nat} (r : Room A n) : A.handled = none := r.2.2
theorem no_pF : ∀ a ∈ ([] : List Addr), hT.get? a = none := fun _ m => nomatch m
noncomputable def isDigitZ (n : Int) : Bool := decide (48 ≤ n) && decide (n ≤ 57)
noncomputable def isLetterZ (n : Int) : Bool := (decide (65 ≤ n) && decide (n ≤ 90)) || (decide (97 ≤ n) && decide (n ≤ 122)) || decide (n = 95)
noncomputable def isNameZ (n : Int) : Bool := isLetterZ n || isDigitZ n
noncomputable def isBlankZ (n : Int) : Bool := decide (n = 32) || (decide (9 ≤ n) && decide (n ≤ 13))
noncomputable def isControlZ (n : Int) : Bool := (decide (0 ≤ n) && decide (n < 32)) || decide (n = 127)
noncomputable def digitZ (n : Int) : Int := if 48 ≤ n ∧ n ≤ 57 then n - 48 else if 97 ≤ n ∧ n ≤ 122 then n - 87 else if 65 ≤ n ∧ n ≤ 90 then n - 55 else -1
noncomputable def isNewlineZ (n : Int) : Bool := decide (n = 10) || decide (n = 13)
section
variable {A : Around} {h : Heap}
theorem is_digit_ (G : GG w hT) (up : Grown hT h) (room : Room A 1) {n : Int} {t : Tok} :
    W prog w A (call (.ref 189) [.int n t] []) h fun v h' => v = .bool (isDigitZ n) ∧ Keeps h h' [] := by
  refine W_fn (F := []) (P := fun _ _ => True) (rest := []) (fr := [(Str.ofString "sign", some (.int n t))]) G up room (k_is_digit _) (c_is_digit _) rfl (b_is_digit _) f_is_digit rfl rfl no_pF (fun _ _ _ _ => trivial) (fun _ _ _ _ _ => trivial) ?_
  intro L h S R Q0 q0
  k_extra "ww"
  all_goals k_extra "bool"
theorem is_letter_ (G : GG w hT) (up : Grown hT h) (room : Room A 1) {n : Int} {t : Tok} :
    W prog w A (call (.ref 196) [.int n t] []) h fun v h' => v = .bool (isLetterZ n) ∧ Keeps h h' [] := by
  refine W_fn (F := []) (P := fun _ _ => True) (rest := []) (fr := [(Str.ofString "sign", some (.int n t))]) G up room (k_is_letter _) (c_is_letter _) rfl (b_is_letter _) f_is_letter rfl rfl no_pF (fun _ _ _ _ => trivial) (fun _ _ _ _ _ => trivial) ?_
  intro L h S R Q0 q0
  k_extra "ww"
  all_goals k_extra "bool"
theorem is_name_sign_ (G : GG w hT) (up : Grown hT h) (room : Room A 2) {n : Int} {t : Tok} :
    W prog w A (call (.ref 203) [.int n t] []) h fun v h' => v = .bool (isNameZ n) ∧ Keeps h h' [] := by
  refine W_fn (F := []) (P := fun _ _ => True) (rest := []) (fr := [(Str.ofString "sign", some (.int n t))]) G up room (k_is_name_sign _) (c_is_name_sign _) rfl (b_is_name_sign _) f_is_name_sign rfl rfl no_pF (fun _ _ _ _ => trivial) (fun _ _ _ _ _ => trivial) ?_
  intro L h S R Q0 q0
  k_extra "ww"
  refine (is_letter_ G S.up R).mono ?_
  k_extra "same"
  k_extra "ww"
  · k_extra "bool"
  · refine (is_digit_ G S.up R).mono ?_
    k_extra "same"
    k_extra "bool"
theorem is_blank_lexer_ (G : GG w hT) (up : Grown hT h) (room : Room A 1) {n : Int} {t : Tok} :
    W prog w A (call (.ref 210) [.int n t] []) h fun v h' => v = .bool (isBlankZ n) ∧ Keeps h h' [] := by
  refine W_fn (F := []) (P := fun _ _ => True) (rest := []) (fr := [(Str.ofString "sign", some (.int n t))]) G up room (k_is_blank_lexer _) (c_is_blank_lexer _) rfl (b_is_blank_lexer _) f_is_blank_lexer rfl rfl no_pF (fun _ _ _ _ => trivial) (fun _ _ _ _ _ => trivial) ?_
  intro L h S R Q0 q0
  k_extra "ww"
  all_goals k_extra "bool"
theorem is_control_ (G : GG w hT) (up : Grown hT h) (room : Room A 1) {n : Int} {t : Tok} :
    W prog w A (call (.ref 217) [.int n t] []) h fun v h' => v = .bool (isControlZ n) ∧ Keeps h h' [] := by
  refine W_fn (F := []) (P := fun _ _ => True) (rest := []) (fr := [(Str.ofString "sign", some (.int n t))]) G up room (k_is_control _) (c_is_control _) rfl (b_is_control _) f_is_control rfl rfl no_pF (fun _ _ _ _ => trivial) (fun _ _ _ _ _ => trivial) ?_
  intro L h S R Q0 q0
  k_extra "ww"
  all_goals k_extra "bool"
theorem is_newline_ (G : GG w hT) (up : Grown hT h) (room : Room A 1) {n : Int} {t : Tok} :
    W prog w A (call (.ref 224) [.int n t] []) h fun v h' => v = .bool (isNewlineZ n) ∧ Keeps h h' [] := by
  refine W_fn (F := []) (P := fun _ _ => True) (rest := []) (fr := [(Str.ofString "sign", some (.int n t))]) G up room (k_is_newline _) (c_is_newline _) rfl (b_is_newline _) f_is_newline rfl rfl no_pF (fun _ _ _ _ => trivial) (fun _ _ _ _ _ => trivial) ?_
  intro L h S R Q0 q0
  k_extra "ww"
  all_goals k_extra "bool"
theorem digit_of_ (G : GG w hT) (up : Grown hT h) (room : Room A 1) {n : Int} {t : Tok} :
    W prog w A (call (.ref 117) [.int n t] []) h fun v h' => (∃ t, v = .int (digitZ n) t) ∧ Keeps h h' [] := by
  refine W_fn (F := []) (P := fun _ _ => True) (rest := []) (fr := [(Str.ofString "octet", some (.int n t))]) G up room (k_digit_of _) (c_digit_of _) rfl (b_digit_of _) f_digit_of rfl rfl no_pF (fun _ _ _ _ => trivial) (fun _ _ _ _ _ => trivial) ?_
  intro L h S R Q0 q0
  k_extra "ww"
  all_goals refine ⟨⟨_, congrArg (Value.int · _) ?_⟩, S.kp⟩
  all_goals unfold digitZ
  all_goals try simp only [Bool.eq_false_iff, decide_eq_true_eq, ne_eq] at *
  all_goals (repeat' split) <;> omega
end
section
variable {A : Around} {hE : Heap}
noncomputable def textZ (l : List UInt8) : List UInt8 := l.takeWhile (· != 0)
theorem takeWhile_at {α : Type} (p : α → Bool) : ∀ (l : List α) (i : Nat), (∀ j (hj : j < i) (hl : j < l.length), p l[j] = true) → i ≤ l.length → (∀ (hl : i < l.length), p l[i] = false) → l.takeWhile p = l.take i
  | [], i, _, hi, _ => by simp at hi; subst hi; rfl
  | x :: l, 0, _, _, h => by
    have := h (by simp)
    rw [List.getElem_cons_zero] at this
    simp [this]
  | x :: l, i + 1, h, hi, h2 => by
    have h0 := h 0 (by omega) (by simp)
    rw [List.getElem_cons_zero] at h0
    rw [List.takeWhile_cons_of_pos h0, List.take_succ_cons, takeWhile_at p l i (fun j hj hl => by have := h (j + 1) (by omega) (by simp; omega); simpa using this) (by simpa using hi) (fun hl => by have := h2 (by simp; omega); simpa using this)]
theorem getD_at {l : List UInt8} {i : Nat} (hl : i < l.length) : l.getD i 0 = l[i] := by rw [List.getD_eq_getElem?_getD, List.getElem?_eq_getElem hl]; rfl
theorem textZ_cut (l : List UInt8) (i : Nat) (hp : ∀ j (hj : j < i) (hl : j < l.length), (l[j] != 0) = true) (hi : i ≤ l.length) (he : i < l.length → (l.getD i 0).toNat = 0) : cut l none (some (i : Int)) = textZ l := by
  rw [cut_upto]
  refine (takeWhile_at _ l i hp hi fun hl => ?_).symm
  have := he hl
  rw [getD_at hl] at this
  simp only [bne_eq_false_iff_eq]
  exact UInt8.toNat_inj.mp this
theorem c_text_ (G : GG w hT) (up : Grown hT hE) (room : Room A 1) {l : List UInt8} {t : Tok} (hl : l.length ≤ 1000000) :
    W prog w A (call (.ref 166) [.bytes l.toArray t] []) hE fun v h' => (∃ t, v = .bytes (textZ l).toArray t) ∧ Keeps hE h' [] := by
  refine W_fn (F := []) (P := fun _ _ => True) (rest := [Str.ofString "at"]) (fr := [(Str.ofString "text", some (.bytes l.toArray t)), (Str.ofString "at", none)]) G up room (k_c_text _) (c_c_text _) rfl (b_c_text _) f_c_text rfl rfl no_pF (fun _ _ _ _ => trivial) (fun _ _ _ _ _ => trivial) ?_
  intro L h S R Q0 q0
  k_extra "ww"
  refine CW_while (fun n h' => ∃ (i : Nat) (u : Tok), n = l.length - i ∧ i ≤ l.length ∧ (∀ j (hj : j < i) (hl : j < l.length), (l[j] != 0) = true) ∧ St hT hE [] (callEnv fd_c_text L 166) [(Str.ofString "text", some (.bytes l.toArray t)), (Str.ofString "at", some (.int (i : Int) u))] (fun x => True) h') ?_ (l.length) ⟨0, _, rfl, Nat.zero_le _, fun j hj => absurd hj (Nat.not_lt_zero _), S⟩
  clear S
  rintro n h ⟨i, u, rfl, hi, hp, S⟩
  k_extra "ww"
  · exact ⟨_, Nat.sub_lt_sub_left (by omega) (Nat.lt_succ_self i), i + 1, _, rfl, by omega, fun j hj hl' => by
      rcases Nat.lt_succ_iff_lt_or_eq.mp hj with hj | rfl
      · exact hp j hj hl'
      · have e : l[j] = l.getD j 0 := by rw [List.getD_eq_getElem?_getD, List.getElem?_eq_getElem hl']; rfl
        simp only [Int.toNat_natCast] at c
        rw [← e] at c
        simp only [bne_iff_ne, ne_eq]
        intro e0; rw [e0] at c; exact c rfl, S⟩
  all_goals rw [textZ_cut l i hp hi (by (try simp only [Int.toNat_natCast] at *); omega)]
  all_goals exact ⟨⟨_, rfl⟩, S.kp⟩
theorem chunk_id_ (G : GG w hT) (up : Grown hT hE) (room : Room A 2) {t u : Tok} :
    W prog w A (call (.ref 180) [.bytes [61, 108, 97, 119].toArray t, .int 80 u] []) hE fun v h' => (∃ t, v = .bytes [108, 97, 119].toArray t) ∧ Keeps hE h' [] := by
  refine W_fn (F := []) (P := fun _ _ => True) (rest := [Str.ofString "room", Str.ofString "name", Str.ofString "line"]) (fr := [(Str.ofString "source", some (.bytes [61, 108, 97, 119].toArray t)), (Str.ofString "size", some (.int 80 u)), (Str.ofString "room", none), (Str.ofString "name", none), (Str.ofString "line", none)]) G up room (k_chunk_id _) (c_chunk_id _) rfl (b_chunk_id _ _) f_chunk_id rfl rfl no_pF (fun _ _ _ _ => trivial) (fun _ _ _ _ _ => trivial) ?_
  intro L h S R Q0 q0
  k_extra "ww"
  refine (c_text_ G S.up R (by decide)).mono ?_
  rintro _ h ⟨⟨t2, rfl⟩, k⟩
  replace S := S.same k
  clear k
  have e : textZ [61, 108, 97, 119] = [61, 108, 97, 119] := by decide
  rw [e]
  have hl : ([61, 108, 97, 119] : List UInt8).length ≤ 1000000 := by decide
  k_extra "ww"
  all_goals first
    | exact absurd (show (cut ([61, 108, 97, 119] : List UInt8) none (some 1) == [61]) = false by assumption) (by decide)
    | (rw [show cut ([61, 108, 97, 119] : List UInt8) (some 1) (some 80) = [108, 97, 119] by decide]; exact ⟨⟨_, rfl⟩, S.kp⟩)
end
section
variable {A : Around} {hE h : Heap}
noncomputable def blanksL : List UInt8 := [32, 9, 10, 11, 12, 13]
theorem is_blank_values_ (G : GG w hT) (up : Grown hT hE) (room : Room A 1) {n : Int} {t : Tok} (h0 : 0 ≤ n) (h1 : n < 256) :
    W prog w A (call (.ref 110) [.int n t] []) hE fun v h' => v = .bool (blanksL.contains n.toNat.toUInt8) ∧ Keeps hE h' [] := by
  refine W_fn (F := []) (P := fun _ _ => True) (rest := []) (fr := [(Str.ofString "octet", some (.int n t))]) G up room (k_is_blank_values _) (c_is_blank_values _) rfl (b_is_blank_values _) f_is_blank_values rfl rfl no_pF (fun _ _ _ _ => trivial) (fun _ _ _ _ _ => trivial) ?_
  intro L h S R Q0 q0
  k_extra "ww"
  exact ⟨rfl, S.kp⟩
theorem skip_blanks_ (G : GG w hT) (up : Grown hT hE) (room : Room A 2) {l : List UInt8} {i : Nat} {t u : Tok} (hl : l.length ≤ 1000000) (hb : i < l.length → blanksL.contains (l.getD i 0) = false) :
    W prog w A (call (.ref 131) [.bytes l.toArray t, .int i u] []) hE fun v h' => (∃ u, v = .int i u) ∧ Keeps hE h' [] := by
  refine W_fn (F := []) (P := fun _ _ => True) (rest := []) (fr := [(Str.ofString "text", some (.bytes l.toArray t)), (Str.ofString "at", some (.int i u))]) G up room (k_skip_blanks _) (c_skip_blanks _) rfl (b_skip_blanks _ _) f_skip_blanks rfl rfl no_pF (fun _ _ _ _ => trivial) (fun _ _ _ _ _ => trivial) ?_
  intro L h S R Q0 q0
  k_extra "ww"
  refine CW_turn fun Q2 q2 => ?_
  k_extra "ww"
  · refine (is_blank_values_ G S.up R (by omega) (by have := (l.getD (i : Int).toNat 0).toNat_lt; omega)).mono ?_
    k_extra "same"
    have e : ((l.getD (i : Int).toNat 0).toNat : Int).toNat.toUInt8 = l.getD i 0 := by simp
    rw [e, hb (by omega)]
    k_extra "ww"
    exact ⟨⟨_, rfl⟩, S.kp⟩
  · exact ⟨⟨_, rfl⟩, S.kp⟩
noncomputable abbrev most64 : Int := 1 * 2 ^ (64 : Int).toNat - 1
theorem read_digits_ (G : GG w hT) (up : Grown hT hE) (room : Room A 2) {l : List UInt8} {i : Nat} {base d1 d2 v : Int} {t u u2 u3 : Tok} (hl : l.length ≤ 1000000) (hi : l.length = i + 2) (hb : 2 ≤ base ∧ base ≤ 16)
    (e1 : digitZ (l.getD i 0).toNat = d1) (e2 : digitZ (l.getD (i + 1) 0).toNat = d2) (g1 : 0 ≤ d1 ∧ d1 < base) (g2 : 0 ≤ d2 ∧ d2 < base) (b1 : Builtin.bitAnd (0 * base + d1) most64 = d1) (b2 : Builtin.bitAnd (d1 * base + d2) most64 = v) :
    W prog w A (call (.ref 124) [.bytes l.toArray t, .int i u, .int base u2, .int 64 u3] []) hE fun r h' => (∃ a u u', r = .ref a ∧ IsT h' a [.int v u, .int (i + 2 : Nat) u']) ∧ Keeps hE h' [] := by
  refine W_fn (F := []) (P := fun _ _ => True) (rest := [Str.ofString "found", Str.ofString "most", Str.ofString "digit"]) (fr := [(Str.ofString "text", some (.bytes l.toArray t)), (Str.ofString "at", some (.int i u)), (Str.ofString "base", some (.int base u2)), (Str.ofString "width", some (.int 64 u3)), (Str.ofString "found", none), (Str.ofString "most", none), (Str.ofString "digit", none)]) G up room (k_read_digits _) (c_read_digits _) rfl (b_read_digits _ _ _ _) f_read_digits rfl rfl no_pF (fun _ _ _ _ => trivial) (fun _ _ _ _ _ => trivial) ?_
  intro L h S R Q0 q0
  have m0 : IntMulOk 0 base := .of_right (intBits_le_64 (by omega) (by omega))
  have m1 : IntMulOk d1 base := .of_right (intBits_le_64 (by omega) (by omega))
  k_extra "ww"
  have el : (l.length : Int) = i + 2 := by omega
  refine CW_turn fun Q2 q2 => ?_
  k_extra "oo"
  refine (digit_of_ G S.up R).mono ?_
  k_extra "int"
  have f1 : digitZ (l.getD (i : Int).toNat 0).toNat = d1 := by rw [Int.toNat_natCast]; exact e1
  rw [f1]
  k_extra "oo"
  rw [b1] at S
  refine CW_turn fun Q2 q2 => ?_
  k_extra "oo"
  refine (digit_of_ G S.up R).mono ?_
  k_extra "int"
  have f2 : digitZ (l.getD ((i : Int) + 1).toNat 0).toNat = d2 := by
    have : ((i : Int) + 1).toNat = i + 1 := by omega
    rw [this]; exact e2
  rw [f2]
  k_extra "oo"
  rw [b2] at S
  refine CW_turn fun Q2 q2 => ?_
  k_extra "oo"
  have : (i : Int) + 1 + 1 = (i + 2 : Nat) := by omega
  rw [this] at x1
  exact ⟨⟨_, _, _, rfl, x1⟩, S.kp⟩
end
structure LimAt (h : Heap) (lim dlim : Addr) : Prop where
  ex : ∃ al t1 t2, Inst h lim dlim 53 al ∧ al.lookup (Str.ofString "width") = some (.int 64 t1) ∧ al.lookup (Str.ofString "text") = some (.int 1000000 t2)
theorem LimAt.keeps {h h' : Heap} {F : List Addr} {lim dlim : Addr} (x : LimAt h lim dlim) (k : Keeps h h' F) (n : lim ∉ F) (n' : dlim ∉ F) : LimAt h' lim dlim :=
  let ⟨al, t1, t2, I, e⟩ := x.ex; ⟨al, t1, t2, I.keeps k n n', e⟩
section
variable {A : Around} {hE h : Heap}
theorem lim_width {lim dlim : Addr} {ex : Bool} {Q : Value → Heap → Prop} (X : (KK w.params).In h) (I : LimAt h lim dlim) (q : ∀ t, Q (.int 64 t) h) : W prog w A (getAttr (.ref lim) (Str.ofString "width") ex) h Q :=
  let ⟨_, _, _, I, e, _⟩ := I.ex; W_get X I (ok_Limits _) (a_Limits_width _) e rfl (q _)
theorem lim_text {lim dlim : Addr} {ex : Bool} {Q : Value → Heap → Prop} (X : (KK w.params).In h) (I : LimAt h lim dlim) (q : ∀ t, Q (.int 1000000 t) h) : W prog w A (getAttr (.ref lim) (Str.ofString "text") ex) h Q :=
  let ⟨_, _, _, I, _, e⟩ := I.ex; W_get X I (ok_Limits _) (a_Limits_text _) e rfl (q _)
theorem wrap_ (G : GG w hT) (up : Grown hT hE) (room : Room A 1) {n : Int} {t u : Tok} (hn : n < 9223372036854775808) (hb : Builtin.bitAnd n most64 = n) :
    W prog w A (call (.ref 103) [.int n t, .int 64 u] []) hE fun v h' => (∃ t, v = .int n t) ∧ Keeps hE h' [] := by
  refine W_fn (F := []) (P := fun _ _ => True) (rest := [Str.ofString "low"]) (fr := [(Str.ofString "n", some (.int n t)), (Str.ofString "width", some (.int 64 u)), (Str.ofString "low", none)]) G up room (k_wrap _) (c_wrap _) rfl (b_wrap _ _) f_wrap rfl rfl no_pF (fun _ _ _ _ => trivial) (fun _ _ _ _ _ => trivial) ?_
  intro L h S R Q0 q0
  k_extra "ww"
  · exfalso
    rw [hb] at c
    have : (1 * 2 ^ (64 - 1 : Int).toNat : Int) = 9223372036854775808 := by decide
    omega
  · rw [hb]
    k_extra "u"; exact ⟨⟨_, rfl⟩, S.kp⟩
theorem num12_ (G : GG w hT) (up : Grown hT hE) (room : Room A 3) {lim dlim : Addr} {t u : Tok} (I : LimAt hE lim dlim) :
    W prog w A (call (.ref 145) [.bytes [49, 50].toArray t, .int 0 u, .ref lim] []) hE fun v h' => (∃ t, v = .int 12 t) ∧ Keeps hE h' [] := by
  refine W_fn (F := []) (P := fun _ _ => True) (rest := [Str.ofString "at", Str.ofString "is_below", Str.ofString "is_marked", Str.ofString "found", Str.ofString "end"]) (fr := [(Str.ofString "text", some (.bytes [49, 50].toArray t)), (Str.ofString "base", some (.int 0 u)), (Str.ofString "limits", some (.ref lim)), (Str.ofString "at", none), (Str.ofString "is_below", none), (Str.ofString "is_marked", none), (Str.ofString "found", none), (Str.ofString "end", none)]) G up room (k_text_in_base _) (c_text_in_base _) rfl (b_text_in_base _ _ _) f_text_in_base rfl rfl no_pF (fun _ _ _ _ => trivial) (fun _ _ _ _ _ => trivial) ?_
  intro L h S R Q0 q0
  have hl : ([49, 50] : List UInt8).length ≤ 1000000 := by decide
  k_extra "dd"
  refine (skip_blanks_ (i := 0) G S.up R hl (by decide)).mono ?_
  k_extra "int"
  k_extra "dd"
  refine lim_width (S.X G) (I.keeps S.kp List.not_mem_nil List.not_mem_nil) fun _ => ?_
  k_extra "dd"
  refine (read_digits_ (i := 0) (d1 := 1) (d2 := 2) (v := 12) G S.up R hl rfl (by decide) (by decide) (by decide) (by decide) (by decide) (by decide +kernel) (by decide +kernel)).mono ?_
  rintro _ h ⟨⟨a1, _, _, rfl, x1⟩, k⟩
  replace S := S.same k
  clear k
  k_extra "dd"
  refine (skip_blanks_ (i := 2) G S.up R hl (by decide)).mono ?_
  k_extra "int"
  k_extra "dd"
  refine lim_width (S.X G) (I.keeps S.kp List.not_mem_nil List.not_mem_nil) fun _ => ?_
  k_extra "dd"
  refine (wrap_ G S.up (R.le (by decide)) (by decide) (by decide +kernel)).mono ?_
  k_extra "int"
  k_extra "dd"
  k_extra "u"; exact ⟨⟨_, rfl⟩, S.kp⟩
theorem num1F_ (G : GG w hT) (up : Grown hT hE) (room : Room A 3) {lim dlim : Addr} {t u : Tok} (I : LimAt hE lim dlim) :
    W prog w A (call (.ref 145) [.bytes [48, 120, 49, 70].toArray t, .int 0 u, .ref lim] []) hE fun v h' => (∃ t, v = .int 31 t) ∧ Keeps hE h' [] := by
  refine W_fn (F := []) (P := fun _ _ => True) (rest := [Str.ofString "at", Str.ofString "is_below", Str.ofString "is_marked", Str.ofString "found", Str.ofString "end"]) (fr := [(Str.ofString "text", some (.bytes [48, 120, 49, 70].toArray t)), (Str.ofString "base", some (.int 0 u)), (Str.ofString "limits", some (.ref lim)), (Str.ofString "at", none), (Str.ofString "is_below", none), (Str.ofString "is_marked", none), (Str.ofString "found", none), (Str.ofString "end", none)]) G up room (k_text_in_base _) (c_text_in_base _) rfl (b_text_in_base _ _ _) f_text_in_base rfl rfl no_pF (fun _ _ _ _ => trivial) (fun _ _ _ _ _ => trivial) ?_
  intro L h S R Q0 q0
  have hl : ([48, 120, 49, 70] : List UInt8).length ≤ 1000000 := by decide
  k_extra "dd"
  refine (skip_blanks_ (i := 0) G S.up R hl (by decide)).mono ?_
  k_extra "int"
  k_extra "dd"
  refine (digit_of_ G S.up (R.le (by decide))).mono ?_
  k_extra "int"
  k_extra "dd"
  refine lim_width (S.X G) (I.keeps S.kp List.not_mem_nil List.not_mem_nil) fun _ => ?_
  k_extra "dd"
  refine (read_digits_ (i := 2) (d1 := 1) (d2 := 15) (v := 31) G S.up R hl rfl (by decide) (by decide) (by decide) (by decide) (by decide) (by decide +kernel) (by decide +kernel)).mono ?_
  rintro _ h ⟨⟨a1, _, _, rfl, x1⟩, k⟩
  replace S := S.same k
  clear k
  k_extra "dd"
  refine (skip_blanks_ (i := 4) G S.up R hl (by decide)).mono ?_
  k_extra "int"
  k_extra "dd"
  refine lim_width (S.X G) (I.keeps S.kp List.not_mem_nil List.not_mem_nil) fun _ => ?_
  k_extra "dd"
  refine (wrap_ G S.up (R.le (by decide)) (by decide) (by decide +kernel)).mono ?_
  k_extra "int"
  k_extra "dd"
  k_extra "u"; exact ⟨⟨_, rfl⟩, S.kp⟩
theorem str_to_number_ (G : GG w hT) (up : Grown hT hE) (room : Room A 4) {lim dlim : Addr} {l : List UInt8} {n : Int} {t : Tok} (I : LimAt hE lim dlim) (hn : (l = [49, 50] ∧ n = 12) ∨ (l = [48, 120, 49, 70] ∧ n = 31)) :
    W prog w A (call (.ref 138) [.bytes l.toArray t, .ref lim] []) hE fun v h' => (∃ t, v = .int n t) ∧ Keeps hE h' [] := by
  refine W_fn (F := []) (P := fun _ _ => True) (rest := []) (fr := [(Str.ofString "text", some (.bytes l.toArray t)), (Str.ofString "limits", some (.ref lim))]) G up room (k_str_to_number _) (c_str_to_number _) rfl (b_str_to_number _ _) f_str_to_number rfl rfl no_pF (fun _ _ _ _ => trivial) (fun _ _ _ _ _ => trivial) ?_
  intro L h S R Q0 q0
  k_extra "ww"
  have I' := I.keeps S.kp List.not_mem_nil List.not_mem_nil
  rcases hn with ⟨rfl, rfl⟩ | ⟨rfl, rfl⟩
  · refine (num12_ G S.up R I').mono ?_
    k_extra "int"
    k_extra "u"; exact ⟨⟨_, rfl⟩, S.kp⟩
  · refine (num1F_ G S.up R I').mono ?_
    k_extra "int"
    k_extra "u"; exact ⟨⟨_, rfl⟩, S.kp⟩
end
section
variable {A : Around} {hE h : Heap}
theorem escaped_sign_ (G : GG w hT) (up : Grown hT hE) (room : Room A 1) {n : Int} {t : Tok} (h0 : 0 ≤ n) (h1 : n < 256) (hn : n = 110 ∨ n = 39) :
    W prog w A (call (.ref 231) [.int n t] []) hE fun v h' => ((n = 110 ∧ ∃ t, v = .int 10 t) ∨ (n = 39 ∧ v = .none)) ∧ Keeps hE h' [] := by
  refine W_fn (F := []) (P := fun _ _ => True) (rest := [Str.ofString "at"]) (fr := [(Str.ofString "sign", some (.int n t)), (Str.ofString "at", none)]) G up room (k_escaped_sign _) (c_escaped_sign _) rfl (b_escaped_sign _) f_escaped_sign rfl rfl no_pF (fun _ _ _ _ => trivial) (fun _ _ _ _ _ => trivial) ?_
  intro L h S R Q0 q0
  have hr : ∀ m ∈ [n], 0 ≤ m ∧ m < 256 := fun m hm => by rw [List.mem_singleton] at hm; subst hm; exact ⟨h0, h1⟩
  k_extra "ww"
  rcases hn with rfl | rfl
  · refine B_find (l := [97, 98, 102, 110, 114, 116, 118]) (by decide) (fun _ => ?_)
    rw [show findZ [97, 98, 102, 110, 114, 116, 118] (List.map (fun n : Int => n.toNat.toUInt8) [110]) = 3 by decide +kernel]
    have hl : ([7, 8, 12, 10, 13, 9, 11] : List UInt8).length ≤ 1000000 := by decide
    k_extra "dd"
    exact ⟨.inl ⟨rfl, _, rfl⟩, S.kp⟩
  · refine B_find (l := [97, 98, 102, 110, 114, 116, 118]) (by decide) (fun _ => ?_)
    rw [show findZ [97, 98, 102, 110, 114, 116, 118] (List.map (fun n : Int => n.toNat.toUInt8) [39]) = -1 by decide +kernel]
    k_extra "dd"
    exact ⟨.inr ⟨rfl, rfl⟩, S.kp⟩
theorem number_text_ (G : GG w hT) (up : Grown hT hE) (room : Room A 1) {n : Int} {t : Tok} (h0 : 0 ≤ n) (h1 : n ≤ 100000) :
    W prog w A (call (.ref 152) [.int n t] []) hE fun v h' => (∃ (l : List UInt8) (t : Tok), v = .bytes l.toArray t ∧ l.length ≤ 200000) ∧ Keeps hE h' [] := by
  refine W_fn (F := []) (P := fun _ _ => True) (rest := [Str.ofString "left", Str.ofString "found"]) (fr := [(Str.ofString "n", some (.int n t)), (Str.ofString "left", none), (Str.ofString "found", none)]) G up room (k_number_text _) (c_number_text _) rfl (b_number_text _) f_number_text rfl rfl no_pF (fun _ _ _ _ => trivial) (fun _ _ _ _ _ => trivial) ?_
  intro L h S R Q0 q0
  k_extra "ww"
  have fd : (fun h => True ∧ IsL h la []) = fun h => True ∧ IsL h la [] := rfl
  refine CW_while (fun m h' => ∃ (left : Int) (u : Tok) (vs : List Value) (ns : List Int), m = left.toNat ∧ Ints vs ns ∧ (∀ n ∈ ns, 0 ≤ n ∧ n < 256) ∧ 0 ≤ left ∧ left + vs.length ≤ 100000 ∧
    St hT hE [] (callEnv fd_number_text L 152) [(Str.ofString "n", some (.int n t)), (Str.ofString "left", some (.int left u)), (Str.ofString "found", some (.ref la))] (fun h => True ∧ IsL h la vs) h') ?_ (if n < 0 then -n else n).toNat
    ⟨_, _, [], [], rfl, .nil, fun _ m => (nomatch m), by split <;> omega, by simp only [List.length_nil]; split <;> omega, S⟩
  clear S
  rintro m h ⟨left, u, vs, ns, rfl, hi, hr, g0, g1, S⟩
  k_extra "ww"
  · have e1 : left.fmod 10 = left % 10 := Int.fmod_eq_emod_of_nonneg _ (by decide)
    have e2 : left.fdiv 10 = left / 10 := Int.fdiv_eq_ediv_of_nonneg _ (by decide)
    refine L_append S.p.2 (by omega) fun h k x => ?_
    replace S := S.setL k x lf ll (fun _ _ _ _ => trivial) (fun _ _ _ _ => trivial)
    k_extra "ww"
    refine ⟨(left.fdiv 10).toNat, by omega, _, _, _, _, rfl, hi.snoc _ _, fun m hm => ?_, by omega, by simp only [List.length_append, List.length_singleton]; omega, S⟩
    rcases List.mem_append.mp hm with hm | hm
    · exact hr m hm
    · rw [List.mem_singleton] at hm; omega
  · refine L_append S.p.2 (by omega) fun h k x => ?_
    replace S := S.setL k x lf ll (fun _ _ _ _ => trivial) (fun _ _ _ _ => trivial)
    have hr' : ∀ m ∈ ns ++ [48 + left], 0 ≤ m ∧ m < 256 := fun m hm => by
      rcases List.mem_append.mp hm with hm | hm
      · exact hr m hm
      · rw [List.mem_singleton] at hm; omega
    k_extra "oo"
    refine L_reverse S.p.2 (by simp only [List.length_append, List.length_singleton]; omega) fun h k x => ?_
    replace S := S.setL k x lf ll (fun _ _ _ _ => trivial) (fun _ _ _ _ => trivial)
    k_extra "oo"
    refine' BL_bytes R.hh S.p.2 ?hi ?hr ?hz ?_
    case hi => exact (hi.snoc _ _).rev
    case hr => exact fun m hm => hr' m (List.mem_reverse.mp hm)
    case hz => simp only [List.length_reverse, List.length_append, List.length_singleton]; omega
    intro t2 h k
    k_extra "u"; refine ⟨⟨_, _, rfl, ?_⟩, ?_⟩
    · have := hi.length
      simp only [List.length_map, List.length_reverse, List.length_append, List.length_singleton]
      omega
    · exact S.kp.trans' k fun _ m => nomatch m
end
section
variable {A : Around} {hE h : Heap}
theorem U_not {b : Bool} {Q : Value → Heap → Prop} (q : Q (.bool (!b)) h) : W prog w A (unaryOp .Not (.bool b)) h Q := by
  unfold unaryOp
  exact W.holding (W.bind (W.pure (W.pure q)))
theorem resAt (G : GG w hT) (up : Grown hT h) : IsL h 181 resV := ⟨0, up _ _ (G.X _ _ (k_RESERVED _))⟩
theorem othAt (G : GG w hT) (up : Grown hT h) : IsL h 182 othV := ⟨0, up _ _ (G.X _ _ (k_OTHER_TEXTS _))⟩
noncomputable def aText (v : Value) : Prop := ∃ (l : List UInt8) (t : Tok), v = .bytes l.toArray t ∧ l.length ≤ 200000
theorem resV_text : ∀ v ∈ resV, aText v := by
  intro v hv
  obtain ⟨p, hp, rfl⟩ := List.mem_map.mp hv
  exact ⟨p.1, p.2, rfl, Nat.le_trans (List.all_eq_true.mp (show resL.all (fun p => decide (p.1.length ≤ 100)) = true by decide) p hp |> of_decide_eq_true) (by decide)⟩
theorem othV_text : ∀ v ∈ othV, aText v := by
  intro v hv
  obtain ⟨p, hp, rfl⟩ := List.mem_map.mp hv
  exact ⟨p.1, p.2, rfl, Nat.le_trans (List.all_eq_true.mp (show othL.all (fun p => decide (p.1.length ≤ 100)) = true by decide) p hp |> of_decide_eq_true) (by decide)⟩
theorem is_number_ (G : GG w hT) (up : Grown hT hE) (room : Room A 1) {n : Int} {t : Tok} :
    W prog w A (call (.ref 96) [.int n t] []) hE fun v h' => v = .bool true ∧ Keeps hE h' [] := by
  refine W_fn (F := []) (P := fun _ _ => True) (rest := []) (fr := [(Str.ofString "value", some (.int n t))]) G up room (k_is_number _) (c_is_number _) rfl (b_is_number _) f_is_number rfl rfl no_pF (fun _ _ _ _ => trivial) (fun _ _ _ _ _ => trivial) ?_
  intro L h S R Q0 q0
  k_extra "ww"
  exact S.kp
theorem to_text_ (G : GG w hT) (up : Grown hT hE) (room : Room A 2) {n : Int} {t : Tok} (h0 : 0 ≤ n) (h1 : n ≤ 100000) :
    W prog w A (call (.ref 159) [.int n t] []) hE fun v h' => aText v ∧ Keeps hE h' [] := by
  refine W_fn (F := []) (P := fun _ _ => True) (rest := []) (fr := [(Str.ofString "value", some (.int n t))]) G up room (k_to_text _) (c_to_text _) rfl (b_to_text _) f_to_text rfl rfl no_pF (fun _ _ _ _ => trivial) (fun _ _ _ _ _ => trivial) ?_
  intro L h S R Q0 q0
  k_extra "ww"
  refine (is_number_ G S.up R).mono ?_
  k_extra "same"
  k_extra "ww"
  refine (number_text_ G S.up R h0 h1).mono ?_
  rintro _ h ⟨⟨l, t2, rfl, hl⟩, k⟩
  replace S := S.same k
  k_extra "u"; exact ⟨⟨l, t2, rfl, hl⟩, S.kp⟩
theorem token_text_ (G : GG w hT) (up : Grown hT hE) (room : Room A 3) {n : Int} {t : Tok} (hn : n = 45 ∨ n = 40 ∨ (257 ≤ n ∧ n ≤ 287)) :
    W prog w A (call (.ref 245) [.int n t] []) hE fun v h' => aText v ∧ Keeps hE h' [] := by
  refine W_fn (F := []) (P := fun _ _ => True) (rest := [Str.ofString "at"]) (fr := [(Str.ofString "kind", some (.int n t)), (Str.ofString "at", none)]) G up room (k_token_text _) (c_token_text _) rfl (b_token_text _) f_token_text rfl rfl no_pF (fun _ _ _ _ => trivial) (fun _ _ _ _ _ => trivial) ?_
  intro L h S R Q0 q0
  k_extra "ww"
  · have hn' : n = 45 ∨ n = 40 := by omega
    have hr : ∀ m ∈ [n], 0 ≤ m ∧ m < 256 := fun m hm => by rw [List.mem_singleton] at hm; omega
    refine (is_control_ G S.up (R.le (by decide))).mono ?_
    k_extra "same"
    rw [show isControlZ n = false by rcases hn' with rfl | rfl <;> decide]
    k_extra "ww"
    exact ⟨⟨_, _, rfl, by simp⟩, S.kp⟩
  · refine L_len (resAt G S.up) (by decide) (fun _ => ?_)
    rw [show ((resV.length : Nat) : Int) = 21 by decide]
    k_extra "ww"
    · have hj : (n - 257).toNat < resV.length := by rw [show resV.length = 21 by decide]; omega
      refine L_item (j := (n - 257).toNat) (resAt G S.up) (by omega) (List.getElem?_eq_getElem hj) (by decide) ?_ (by with_unfolding_all rfl)
      k_extra "u"; exact ⟨resV_text _ (List.getElem_mem hj), S.kp⟩
    · refine L_len (resAt G S.up) (by decide) (fun _ => ?_)
      rw [show ((resV.length : Nat) : Int) = 21 by decide]
      k_extra "ww"
      have hj : (n - 257 - 21).toNat < othV.length := by rw [show othV.length = 10 by decide]; omega
      refine L_item (j := (n - 257 - 21).toNat) (othAt G S.up) (by omega) (List.getElem?_eq_getElem hj) (by decide) ?_ (by with_unfolding_all rfl)
      k_extra "u"; exact ⟨othV_text _ (List.getElem_mem hj), S.kp⟩
end
inductive TV where
  | none
  | num (n : Int)
  | str (l : List UInt8)
noncomputable def TV.is : TV → Value → Prop
  | .none, v => v = .none
  | .num n, v => ∃ t, v = .int n t
  | .str l, v => ∃ t, v = .bytes l.toArray t
noncomputable def tokAl (k : Int) (t : Tok) (v : Value) : List (Str × Value) := [(Str.ofString "value", v), (Str.ofString "kind", .int k t)]
noncomputable def TokAt (h : Heap) (a : Addr) (k : Int) (tv : TV) : Prop := ∃ d t v, tv.is v ∧ Inst h a d 262 (tokAl k t v)
structure IP (L x dx C : Addr) (al : List (Str × Value)) (h : Heap) : Prop where
  i : Inst h x dx C al
  nx : L ≠ x
  nd : L ≠ dx
theorem IP.ps {L x dx C : Addr} {al : List (Str × Value)} (h h' : Heap) (k : Keeps h h' [L]) (p : IP L x dx C al h) : IP L x dx C al h' :=
  ⟨p.i.keeps k (by rw [List.mem_singleton]; exact p.nx.symm) (by rw [List.mem_singleton]; exact p.nd.symm), p.nx, p.nd⟩
theorem Room.make {A : Around} {n : Nat} {C : Addr} {rest : List Value} (r : Room A (n + 1)) : Room (underC A C rest) n :=
  ⟨by have := r.1; show A.depth + 1 + n < _; omega, by have := r.2.1; show A.units + 1 + 10 * n < _; omega, r.2.2⟩
section
variable {A : Around} {hE h : Heap}
theorem Inst.some {h : Heap} {x dx C : Addr} {al : List (Str × Value)} (I : Inst h x dx C al) : (∃ o, h.get? x = some o) ∧ ∃ o, h.get? dx = some o := ⟨⟨_, I.ob⟩, I.ad.some⟩
theorem fresh_ne {h : Heap} {L x : Addr} (n : h.get? L = none) (e : ∃ o, h.get? x = some o) : L ≠ x := by
  rintro rfl; obtain ⟨o, e⟩ := e; rw [n] at e; cases e
theorem W_setC {K : Frag} {env : Env} {fr : Fra} {x dx C : Addr} {al : List (Str × Value)} {name : Str} {v : Value} {Q : Unit → Heap → Prop} (S : St hT hE [dx] env fr (IP env.locals x dx C al) h) (G : Gr K hT) (hc : isOk C K = true)
    (ht : takerIn K C name = some none) (hz : al.length ≤ 1000) (q : ∀ h', St hT hE [dx] env fr (IP env.locals x dx C ((name, v) :: al)) h' → Q () h') : W prog w A (setAttr (.ref x) name v) h Q :=
  W_setCons (S.X G) S.p.i hc ht hz fun h' k I' => q h' (S.step k (fun _ m => .inl m) (by rw [List.mem_singleton]; exact S.p.nd) ⟨I', S.p.nx, S.p.nd⟩ IP.ps)
theorem tok_new_ (G : GG w hT) (up : Grown hT hE) (room : Room A 2) {k : Int} {t : Tok} {v : Value} {tv : TV} (hv : tv.is v) :
    W prog w A (call (.ref 262) [.int k t, v] []) hE fun r h' => (∃ a, r = .ref a ∧ hE.get? a = none ∧ TokAt h' a k tv) ∧ Keeps hE h' [] := by
  refine W_make (G.X.keeps up) (mk_Token _) (m_tok_init _).1 (beq_iff_eq.mp (m_tok_init _).2) fun x dx h1 nx nd k1 I => ?_
  have up1 : Grown hT h1 := fun b o e => k1 b o (up b o e) (fun m => nomatch m)
  refine W_fn (F := [dx]) (P := fun L => IP L x dx 262 []) (rest := []) (fr := [(Str.ofString "self", some (.ref x)), (Str.ofString "kind", some (.int k t)), (Str.ofString "value", some v)]) G up1 room.make (k_tok_init _) (c_tok_init _) rfl (b_tok_init _ _ _) f_tok_init rfl rfl ?_ ?_ (fun L => IP.ps) ?_
  · intro a m
    rw [List.mem_singleton] at m
    subst m
    cases q : hT.get? a with
    | none => rfl
    | some o => rw [up _ _ q] at nd; cases nd
  · exact fun L h2 n2 k2 => ⟨I.keeps k2 List.not_mem_nil List.not_mem_nil, fresh_ne n2 I.some.1, fresh_ne n2 I.some.2⟩
  intro L h S R Q0 q0
  k_extra "ww"
  refine W_setC S G (ok_Token _) (t_Token_kind _) (by decide) fun h S => ?_
  k_extra "ww"
  refine W_setC S G (ok_Token _) (t_Token_value _) (by simp) fun h S => ?_
  k_extra "ww"
  refine ⟨⟨x, rfl, nx, dx, t, v, hv, S.p.i⟩, ?_⟩
  exact k1.trans' S.kp fun b m => .inr (by rw [List.mem_singleton] at m; rw [m]; exact nd)
end
noncomputable def words : List (List UInt8) := resL.map (·.1)
structure Kpre (f : List (List UInt8 × Value)) (i : Nat) : Prop where
  keys : f.map (·.1) = words.take i
  vals : ∀ (j : Nat) (p : List UInt8 × Value), f[j]? = some p → ∃ t, p.2 = Value.int (257 + (j : Int)) t
theorem words_len : words.length = 21 := by decide +kernel
theorem words_nd : words.Nodup := by decide +kernel
theorem Kpre.add {f : List (List UInt8 × Value)} {i : Nat} {l : List UInt8} {t : Tok} (k : Kpre f i) (hi : words[i]? = some l) : Kpre (stored f l (Value.int (257 + (i : Int)) t)) (i + 1) := by
  have hlt : i < words.length := (List.getElem?_eq_some_iff.mp hi).1
  have hl : f.length = i := by
    have := congrArg List.length k.keys
    rw [List.length_map, List.length_take] at this
    omega
  have hn : l ∉ f.map (·.1) := by
    rw [k.keys]
    intro m
    obtain ⟨j, hj, e⟩ := List.getElem_of_mem m
    rw [List.length_take] at hj
    rw [List.getElem_take] at e
    obtain ⟨_, e2⟩ := List.getElem?_eq_some_iff.mp hi
    have e3 : j ≠ i := by omega
    rcases Nat.lt_or_gt_of_ne e3 with h | h
    · exact (List.pairwise_iff_getElem.mp words_nd) j i _ _ h (e.trans e2.symm)
    · exact (List.pairwise_iff_getElem.mp words_nd) i j _ _ h (e2.trans e.symm)
  have e : stored f l (Value.int (257 + (i : Int)) t) = f ++ [(l, Value.int (257 + (i : Int)) t)] := by
    unfold stored
    rw [if_neg]
    simp only [List.any_eq_true, decide_eq_true_eq, not_exists, not_and]
    intro p hp e
    exact hn (e ▸ List.mem_map_of_mem (f := (·.1)) hp)
  rw [e]
  refine ⟨?_, fun j p hp => ?_⟩
  · rw [List.map_append, k.keys, List.take_add_one, hi]; rfl
  · rw [List.getElem?_append] at hp
    split at hp
    · exact k.vals j p hp
    · rename_i h
      have : j = i := by
        have := (List.getElem?_eq_some_iff.mp hp).1
        simp only [List.length_cons, List.length_nil] at this
        omega
      subst this
      rw [hl, Nat.sub_self] at hp
      cases hp
      exact ⟨t, rfl⟩
theorem CW_down {A : Around} {c : Code} {h : Heap} {Q : Flow → Heap → Prop} {I : Nat → Heap → Prop} (step : ∀ n, (∀ h, I n h → CW prog w A c h Q) → ∀ h, I (n + 1) h → CW prog w A c h Q) (zero : ∀ h, I 0 h → CW prog w A c h Q) (n : Nat) (hI : I n h) : CW prog w A c h Q := by
  induction n generalizing h with
  | zero => exact zero h hI
  | succ n ih => exact step n (fun h => ih) h hI
theorem Grown.keeps {h h' : Heap} {F : List Addr} (g : Grown h h') : Keeps h h' F := fun b o e _ => g b o e
theorem resV_at {i : Nat} {l : List UInt8} (e : words[i]? = some l) : ∃ t, resV[i]? = some (.bytes l.toArray t) := by
  unfold words at e
  rw [List.getElem?_map] at e
  cases q : resL[i]? with
  | none => rw [q] at e; cases e
  | some p =>
    rw [q] at e
    injection e with e
    refine ⟨p.2, ?_⟩
    unfold resV
    rw [List.getElem?_map, q, ← e]; rfl
section
variable {A : Around} {hE h : Heap}
structure RK (prog : Program) (w : World) (L d : Addr) (f : List (List UInt8 × Value)) (h : Heap) : Prop where
  m : BD prog w h d f
  nd : L ≠ d
theorem RK.ps {L d : Addr} {f : List (List UInt8 × Value)} (h h' : Heap) (k : Keeps h h' [L]) (p : RK prog w L d f h) : RK prog w L d f h' :=
  ⟨p.m.keeps k (by rw [List.mem_singleton]; exact p.nd.symm), p.nd⟩
structure RE (prog : Program) (w : World) (L d e it : Addr) (f : List (List UInt8 × Value)) (i : Nat) (h : Heap) : Prop where
  r : RK prog w L d f h
  en : ∃ old, IsEnum h e it i old
  li : h.IsListIter it 181 i
  ne : e ≠ it
  nde : d ≠ e
  ndi : d ≠ it
  Le : L ≠ e
  Li : L ≠ it
theorem RE.ps {L d e it : Addr} {f : List (List UInt8 × Value)} {i : Nat} (h h' : Heap) (k : Keeps h h' [L]) (p : RE prog w L d e it f i h) : RE prog w L d e it f i h' :=
  ⟨p.r.ps _ _ k, let ⟨o, q⟩ := p.en; ⟨o, k _ _ q (by rw [List.mem_singleton]; exact p.Le.symm)⟩, let ⟨o, q, r⟩ := p.li; ⟨o, k _ _ q (by rw [List.mem_singleton]; exact p.Li.symm), r⟩, p.ne, p.nde, p.ndi, p.Le, p.Li⟩
theorem D_newS {env : Env} {pos : Pos} {Q : Value → Heap → Prop} (q : ∀ d h', h.get? d = none → h.objs.size ≤ d → Keeps h h' [] → BD prog w h' d [] → Q (.ref d) h') : W prog w A (eval (.Dict [] [] pos) env) h Q := by
  rw [eval_Dict_empty]
  refine W.bind (W.standAt ?_)
  unfold newDict
  refine W.any fun g d tk os QQ EE k => wpAny_newObj_type (k _ _ _ (q _ _ size_new (Nat.le_refl _) Keeps.push (Heap.DictOf.new h))) (by size_fits)
theorem not_sys {d : Addr} {o : Obj} (h1 : h.get? 181 = some o) (h2 : h.objs.size ≤ d) : (d == sysModules) = false := by
  have := Heap.lt_size h1
  have e : d ≠ 1 := Nat.ne_of_gt (Nat.lt_of_lt_of_le (Nat.lt_trans (show (1 : Nat) < 181 by decide) this) h2)
  exact beq_eq_false_iff_ne.mpr e
theorem reserved_kinds_ (G : GG w hT) (up : Grown hT hE) (room : Room A 1) :
    W prog w A (call (.ref 238) [] []) hE fun v h' => (∃ d f, v = .ref d ∧ hE.get? d = none ∧ BD prog w h' d f ∧ Kpre f 21 ∧ (d == sysModules) = false) ∧ Keeps hE h' [] := by
  refine W_fn (F := []) (P := fun _ _ => True) (rest := [Str.ofString "kinds", Str.ofString "at", Str.ofString "word"]) (fr := [(Str.ofString "kinds", none), (Str.ofString "at", none), (Str.ofString "word", none)]) G up room (k_reserved_kinds _) (c_reserved_kinds _) rfl b_reserved_kinds f_reserved_kinds rfl rfl no_pF (fun _ _ _ _ => trivial) (fun _ _ _ _ _ => trivial) ?_
  intro L h S R Q0 q0
  k_extra "ww"
  refine D_newS fun d h1 n1 s1 k1 m1 => ?_
  have ns := not_sys (S.up _ _ (G.X _ _ (k_RESERVED _))) s1
  have ld := S.ne n1
  have fd := S.new n1 (by simp)
  replace S := S.step (P' := RK prog w L d []) k1 (fun _ m => nomatch m) (fun m => nomatch m) ⟨m1, ld⟩ RK.ps
  clear m1 k1
  k_extra "ww"
  refine W_for ?_
  k_extra "ww"
  refine C_enum ⟨_, (S.X G) _ _ (k_RESERVED _)⟩ fun e it h2 ne ni nei k2 e2 i2 => ?_
  refine P_enum e2 ?_
  have hd := S.p.m.some
  have fe := S.new ne (by simp)
  have fi := S.new ni (by simp)
  replace S := S.step (P' := RE prog w L d e it [] 0) k2 (fun _ m => nomatch m) (fun m => nomatch m) ⟨⟨S.p.m.keeps k2 List.not_mem_nil, S.p.nd⟩, ⟨_, e2⟩, i2, nei, (fresh_ne ne hd).symm, (fresh_ne ni hd).symm, S.ne ne, S.ne ni⟩ RE.ps
  clear k2 e2 i2 ne ni hd
  clear h
  have L0 : IsL hT 181 resV := ⟨_, G.X _ _ (k_RESERVED _)⟩
  refine CW_down (I := fun n h => ∃ i f u v, n + i = 21 ∧ Kpre f i ∧ St hT hE [] (callEnv fd_reserved_kinds L 238) [(Str.ofString "kinds", some (Value.ref d)), (Str.ofString "at", u), (Str.ofString "word", v)] (RE prog w L d e it f i) h) ?_ ?_ 21 ⟨0, [], none, none, rfl, ⟨rfl, fun j p q => nomatch q⟩, S⟩
  · clear S h2
    rintro n ih h ⟨i, f, u, v, en, kp, S⟩
    obtain ⟨old, he⟩ := S.p.en
    have hlt : i < words.length := by rw [words_len]; omega
    have hv : words[i]? = some words[i] := List.getElem?_eq_getElem hlt
    obtain ⟨t0, hv'⟩ := resV_at hv
    refine CW_enum R.hh he S.p.li (L0.keeps (S.up.keeps (F := [])) List.not_mem_nil) hv' nei fun t h1 k1 e1 i1 => ?_
    replace S := S.step (P' := RE prog w L d e it f (i + 1)) k1 (fun b m => .inr (by simp only [List.mem_cons, List.not_mem_nil, or_false] at m; rcases m with rfl | rfl <;> assumption)) (by simp only [List.mem_cons, List.not_mem_nil, or_false, not_or]; exact ⟨S.p.Le, S.p.Li⟩)
      ⟨⟨S.p.r.m.keeps k1 (by simp only [List.mem_cons, List.not_mem_nil, or_false, not_or]; exact ⟨S.p.nde, S.p.ndi⟩), S.p.r.nd⟩, ⟨_, e1⟩, i1, nei, S.p.nde, S.p.ndi, S.p.Le, S.p.Li⟩ RE.ps
    k_extra "ww"
    refine W_setitem ?_
    k_extra "ww"
    have hfl : f.length ≤ 1000 := by
      have := congrArg List.length kp.keys
      rw [List.length_map, List.length_take] at this
      omega
    refine D_set S.p.r.m hfl fun h2 k2 m2 => ?_
    have S2 := S.step (P' := RE prog w L d e it (stored f words[i] (.int (257 + (i : Int)) _)) (i + 1)) k2 (fun b m => .inr (by rw [List.mem_singleton] at m; subst m; assumption)) (by rw [List.mem_singleton]; exact S.p.r.nd)
      ⟨⟨m2, S.p.r.nd⟩, let ⟨o, q⟩ := S.p.en; ⟨o, k2 _ _ q (by rw [List.mem_singleton]; exact S.p.nde.symm)⟩, let ⟨o, q, r⟩ := S.p.li; ⟨o, k2 _ _ q (by rw [List.mem_singleton]; exact S.p.ndi.symm), r⟩, S.p.ne, S.p.nde, S.p.ndi, S.p.Le, S.p.Li⟩ RE.ps
    k_extra "u"
    refine W_nil ?_
    exact ih _ ⟨i + 1, _, _, _, by omega, kp.add hv, S2⟩
  · clear S h2
    rintro h ⟨i, f, u, v, en, kp, S⟩
    obtain ⟨old, he⟩ := S.p.en
    have hi : i = 21 := by omega
    subst hi
    refine CW_enum_end R.hh he S.p.li (L0.keeps (S.up.keeps (F := [])) List.not_mem_nil) (by decide) fun h1 k1 => ?_
    replace S := S.step (P' := RK prog w L d f) k1 (fun b m => .inr (by rw [List.mem_singleton] at m; subst m; assumption)) (by rw [List.mem_singleton]; exact S.p.Li) ⟨S.p.r.m.keeps k1 (by rw [List.mem_singleton]; exact S.p.ndi), S.p.r.nd⟩ RK.ps
    k_extra "ww"
    exact ⟨⟨d, f, rfl, fd, S.p.m, kp, ns⟩, S.kp⟩
end
structure LX where
  l : Addr
  dl : Addr
  lim : Addr
  dlim : Addr
  kd : Addr
  f : List (List UInt8 × Value)
  T : List UInt8
  tT : Tok
  tC : Tok
  tH : Tok
structure LJ where
  tA : Tok
  tS : Tok
  ln : Int
  tl : Tok
  la : Int
  tla : Tok
noncomputable def sgn (T : List UInt8) (i : Nat) : Int := match T[i]? with | some b => (b.toNat : Int) | none => -1
noncomputable abbrev lexAl (X : LX) (pos : Nat) (sg : Int) (j : LJ) (bl : Addr) (cur ahead : Value) : List (Str × Value) :=
  [(Str.ofString "ahead", ahead), (Str.ofString "current", cur), (Str.ofString "buffer", .ref bl), (Str.ofString "last_line", .int j.la j.tla), (Str.ofString "line", .int j.ln j.tl), (Str.ofString "sign", .int sg j.tS), (Str.ofString "at", .int pos j.tA),
   (Str.ofString "kinds", .ref X.kd), (Str.ofString "limits", .ref X.lim), (Str.ofString "chunk", .bytes [108, 97, 119].toArray X.tC), (Str.ofString "source", .bytes [61, 108, 97, 119].toArray X.tH), (Str.ofString "text", .bytes X.T.toArray X.tT)]
structure LexC (prog : Program) (w : World) (hT h : Heap) (X : LX) (bl : Addr) (bs : List UInt8) (al : List (Str × Value)) : Prop where
  i : Inst h X.l X.dl 465 al
  b : IsB h bl bs
  m : LimAt h X.lim X.dlim
  k : BD prog w h X.kd X.f
  kp : Kpre X.f 21
  n1 : X.dl ≠ X.lim ∧ X.dl ≠ X.dlim ∧ X.dl ≠ X.kd ∧ X.l ≠ X.dl
  n2 : bl ≠ X.l ∧ bl ≠ X.dl ∧ bl ≠ X.lim ∧ bl ≠ X.dlim ∧ bl ≠ X.kd
  t1 : hT.get? X.dl = none
  t2 : hT.get? bl = none
  tz : X.T.length ≤ 900
  ks : (X.kd == sysModules) = false
noncomputable def LJ.ok (j : LJ) (pos : Nat) : Prop := 0 ≤ j.ln ∧ j.ln ≤ pos + 1
theorem LexC.keeps {h h' : Heap} {X : LX} {bl : Addr} {bs : List UInt8} {al : List (Str × Value)} {F : List Addr} (c : LexC prog w hT h X bl bs al) (k : Keeps h h' F)
    (n : X.l ∉ F ∧ X.dl ∉ F ∧ X.lim ∉ F ∧ X.dlim ∉ F ∧ X.kd ∉ F ∧ bl ∉ F) : LexC prog w hT h' X bl bs al :=
  ⟨c.i.keeps k n.1 n.2.1, c.b.keeps k n.2.2.2.2.2, c.m.keeps k n.2.2.1 n.2.2.2.1, c.k.keeps k n.2.2.2.2.1, c.kp, c.n1, c.n2, c.t1, c.t2, c.tz, c.ks⟩
theorem LexC.has {h : Heap} {X : LX} {bl : Addr} {bs : List UInt8} {al : List (Str × Value)} (c : LexC prog w hT h X bl bs al) :
    (∃ o, h.get? X.l = some o) ∧ (∃ o, h.get? X.dl = some o) ∧ (∃ o, h.get? X.lim = some o) ∧ (∃ o, h.get? X.dlim = some o) ∧ (∃ o, h.get? X.kd = some o) ∧ (∃ o, h.get? bl = some o) :=
  ⟨⟨_, c.i.ob⟩, c.i.ad.some, let ⟨_, _, _, I, _⟩ := c.m.ex; ⟨_, I.ob⟩, let ⟨_, _, _, I, _⟩ := c.m.ex; I.ad.some, c.k.some, ⟨_, c.b⟩⟩
structure LP (prog : Program) (w : World) (hT hE : Heap) (X : LX) (bl0 L bl : Addr) (bs : List UInt8) (al : List (Str × Value)) (h : Heap) : Prop where
  c : LexC prog w hT h X bl bs al
  L : L ≠ X.l ∧ L ≠ X.dl ∧ L ≠ X.lim ∧ L ≠ X.dlim ∧ L ≠ X.kd ∧ L ≠ bl
  b : bl = bl0 ∨ hE.get? bl = none
theorem LP.ps {hE : Heap} {X : LX} {bl0 L bl : Addr} {bs : List UInt8} {al : List (Str × Value)} (h h' : Heap) (k : Keeps h h' [L]) (p : LP prog w hT hE X bl0 L bl bs al h) : LP prog w hT hE X bl0 L bl bs al h' :=
  ⟨p.c.keeps k (by simp only [List.mem_singleton]; exact ⟨p.L.1.symm, p.L.2.1.symm, p.L.2.2.1.symm, p.L.2.2.2.1.symm, p.L.2.2.2.2.1.symm, p.L.2.2.2.2.2.symm⟩), p.L, p.b⟩
noncomputable abbrev LSt (prog : Program) (w : World) (hT hE : Heap) (X : LX) (bl0 : Addr) (env : Env) (fr : Fra) (bl : Addr) (bs : List UInt8) (al : List (Str × Value)) (h : Heap) : Prop :=
  St hT hE [X.dl, bl0] env fr (LP prog w hT hE X bl0 env.locals bl bs al) h
noncomputable def Out (prog : Program) (w : World) (hT h : Heap) (X : LX) (bl : Addr) (pos : Nat) (bs : List UInt8) (cur ahead : Value) (h' : Heap) : Prop :=
  ∃ j bl', LexC prog w hT h' X bl' bs (lexAl X pos (sgn X.T pos) j bl' cur ahead) ∧ j.ok pos ∧ Keeps h h' [X.dl, bl] ∧ (bl' = bl ∨ h.get? bl' = none)
section
variable {A : Around} {hE h h' : Heap} {X : LX} {bl0 bl bl' : Addr} {bs bs' : List UInt8} {al al' : List (Str × Value)} {env : Env} {fr fr' : Fra}
theorem W_lex {f : Addr} {fd : FuncData} {oc : Value} {od : Option Addr} {osl : Array (Option Value)} {body : List Stmt} {args : List Value} {binds : List (Str × Value)} {rest : List Str} {n : Nat} {Q : Value → Heap → Prop} {ks : List Str}
    (G : GG w hT) (up : Grown hT hE) (room : Room A (n + 1)) (hK : (KK w.params).lookup f = some ⟨oc, od, .func fd, osl⟩) (hcd : codeIn (KK w.params) fd.code fd.qualname = true) (hbody : fd.body = .stmts body)
    (hbind : bindArgs fd ⟨args, []⟩ = pure binds) (hchk : fnCheck fd ks = true) (hks : binds.map (·.1) ++ rest = ks) (hfr : frOf binds rest = fr)
    (c : LexC prog w hT hE X bl bs al)
    (H : ∀ L h1, LSt prog w hT hE X bl (callEnv fd L f) fr bl bs al h1 → Room (A.deeper (callEnv fd L f)) n → ∀ Q1 : Flow → Heap → Prop, (∀ fl h2, Q (retv fl) h2 → Q1 fl h2) → W prog w (A.deeper (callEnv fd L f)) (execs body (callEnv fd L f)) h1 Q1) :
    W prog w A (call (.ref f) args []) hE Q :=
  W_fn (F := [X.dl, bl]) (P := fun L => LP prog w hT hE X bl L bl bs al) G up room hK hcd hbody hbind hchk hks hfr
    (fun a m => by
      simp only [List.mem_cons, List.not_mem_nil, or_false] at m
      rcases m with rfl | rfl
      · exact c.t1
      · exact c.t2)
    (fun L h1 n1 k1 => ⟨c.keeps k1 ⟨List.not_mem_nil, List.not_mem_nil, List.not_mem_nil, List.not_mem_nil, List.not_mem_nil, List.not_mem_nil⟩,
      let ⟨a1, a2, a3, a4, a5, a6⟩ := c.has; ⟨fresh_ne n1 a1, fresh_ne n1 a2, fresh_ne n1 a3, fresh_ne n1 a4, fresh_ne n1 a5, fresh_ne n1 a6⟩, .inl rfl⟩)
    (fun L => LP.ps) H
theorem St.lex (S : LSt prog w hT hE X bl0 env fr bl bs al h) (c : LexC prog w hT h' X bl' bs' al') (k : Keeps h h' [X.dl, bl]) (nb : bl' = bl ∨ h.get? bl' = none) : LSt prog w hT hE X bl0 env fr bl' bs' al' h' := by
  refine S.step k (fun a m => ?_) ?_ ⟨c, ?_, ?_⟩ LP.ps
  · simp only [List.mem_cons, List.not_mem_nil, or_false] at m
    rcases m with rfl | rfl
    · exact .inl (.head _)
    · rcases S.p.b with rfl | e
      · exact .inl (.tail _ (.head _))
      · exact .inr e
  · simp only [List.mem_cons, List.not_mem_nil, or_false, not_or]
    exact ⟨S.p.L.2.1, S.p.L.2.2.2.2.2⟩
  · refine ⟨S.p.L.1, S.p.L.2.1, S.p.L.2.2.1, S.p.L.2.2.2.1, S.p.L.2.2.2.2.1, ?_⟩
    rcases nb with rfl | e
    · exact S.p.L.2.2.2.2.2
    · exact S.ne e
  · rcases nb with rfl | e
    · exact S.p.b
    · by_cases hb : bl' = bl0
      · exact .inl hb
      · right
        cases q : hE.get? bl' with
        | none => rfl
        | some o =>
          have hd : bl' ≠ X.dl := by
            rintro rfl
            obtain ⟨o, e2⟩ := S.p.c.has.2.1
            rw [e] at e2; cases e2
          rw [S.kp _ _ q (by simp only [List.mem_cons, List.not_mem_nil, or_false, not_or]; exact ⟨hd, hb⟩)] at e
          cases e
theorem St.out {pos : Nat} {j : LJ} {cur ahead : Value} (S : LSt prog w hT hE X bl0 env fr bl bs (lexAl X pos (sgn X.T pos) j bl cur ahead) h) (jk : j.ok pos) : Out prog w hT hE X bl0 pos bs cur ahead h :=
  ⟨j, bl, S.p.c, jk, S.kp, S.p.b⟩
theorem St.app (S : LSt prog w hT hE X bl0 env fr bl bs al h) (k : Keeps h h' [bl]) (x : IsB h' bl bs') : LSt prog w hT hE X bl0 env fr bl bs' al h' := by
  have c := S.p.c
  have n : ∀ x, x ≠ bl → x ∉ [bl] := fun x n m => n (by simpa using m)
  exact S.lex ⟨c.i.keeps k (n _ c.n2.1.symm) (n _ c.n2.2.1.symm), x, c.m.keeps k (n _ c.n2.2.2.1.symm) (n _ c.n2.2.2.2.1.symm), c.k.keeps k (n _ c.n2.2.2.2.2.symm), c.kp, c.n1, c.n2, c.t1, c.t2, c.tz, c.ks⟩ (k.mono fun a m => by
    rw [List.mem_singleton] at m; subst m; exact .tail _ (.head _)) (.inl rfl)
theorem St.out6 {pos : Nat} {cur ahead : Value} {tA tS tl tla : Tok} {ln la : Int} (S : LSt prog w hT hE X bl0 env fr bl bs [(Str.ofString "ahead", ahead), (Str.ofString "current", cur), (Str.ofString "buffer", .ref bl), (Str.ofString "last_line", .int la tla), (Str.ofString "line", .int ln tl), (Str.ofString "sign", .int (sgn X.T pos) tS), (Str.ofString "at", .int pos tA),
   (Str.ofString "kinds", .ref X.kd), (Str.ofString "limits", .ref X.lim), (Str.ofString "chunk", .bytes [108, 97, 119].toArray X.tC), (Str.ofString "source", .bytes [61, 108, 97, 119].toArray X.tH), (Str.ofString "text", .bytes X.T.toArray X.tT)] h) (jk : 0 ≤ ln ∧ ln ≤ pos + 1) : Out prog w hT hE X bl0 pos bs cur ahead h :=
  ⟨⟨tA, tS, ln, tl, la, tla⟩, bl, S.p.c, jk, S.kp, S.p.b⟩
theorem St.out0 {pos : Nat} {cur ahead : Value} {tA tS tl tla : Tok} {ln la : Int} (S : LSt prog w hT hE X bl0 env fr bl bs [(Str.ofString "ahead", ahead), (Str.ofString "current", cur), (Str.ofString "buffer", .ref bl), (Str.ofString "last_line", .int la tla), (Str.ofString "line", .int ln tl), (Str.ofString "sign", .int (sgn X.T pos) tS), (Str.ofString "at", .int pos tA),
   (Str.ofString "kinds", .ref X.kd), (Str.ofString "limits", .ref X.lim), (Str.ofString "chunk", .bytes [108, 97, 119].toArray X.tC), (Str.ofString "source", .bytes [61, 108, 97, 119].toArray X.tH), (Str.ofString "text", .bytes X.T.toArray X.tT)] h) : ∃ j' bl', LexC prog w hT h X bl' bs (lexAl X pos (sgn X.T pos) j' bl' cur ahead) ∧ j'.ln = ln ∧ Keeps hE h [X.dl, bl0] ∧ (bl' = bl0 ∨ hE.get? bl' = none) :=
  ⟨⟨tA, tS, ln, tl, la, tla⟩, bl, S.p.c, rfl, S.kp, S.p.b⟩
theorem L_get {name : Str} {v : Value} {ex : Bool} {Q : Value → Heap → Prop} (S : LSt prog w hT hE X bl0 env fr bl bs al h) (G : GG w hT) (ha : findIn (KK w.params) (.ref 465) name = some none) (hl : al.lookup name = some v) (hv : handedIn v = true)
    (q : Q v h) : W prog w A (getAttr (.ref X.l) name ex) h Q := W_get (S.X G) S.p.c.i (ok_Lexer _) ha hl hv q
theorem L_set {name : Str} {v : Value} {Q : Unit → Heap → Prop} (S : LSt prog w hT hE X bl0 env fr bl bs al h) (G : GG w hT) (ht : takerIn (KK w.params) 465 name = some none) (hz : al.length ≤ 1000) (hd : (al.map (·.1)).Nodup) (hp : Put name v al al')
    (q : ∀ h', LSt prog w hT hE X bl0 env fr bl bs al' h' → Q () h') : W prog w A (setAttr (.ref X.l) name v) h Q :=
  W_setPut (S.X G) S.p.c.i (ok_Lexer _) ht hz hd hp fun h' k I => q h' (by
    have c := S.p.c
    have n : ∀ x, x ≠ X.dl → x ∉ [X.dl] := fun x n m => n (by simpa using m)
    exact S.lex (bl' := bl) (bs' := bs) ⟨I, c.b.keeps k (n _ c.n2.2.1), c.m.keeps k (n _ c.n1.1.symm) (n _ c.n1.2.1.symm), c.k.keeps k (n _ c.n1.2.2.1.symm), c.kp, c.n1, c.n2, c.t1, c.t2, c.tz, c.ks⟩ (k.mono fun a m => by
      rw [List.mem_singleton] at m; subst m; exact .head _) (.inl rfl))
theorem L_getm {name : Str} {f : Addr} {pl : Sem Bool} {Q : Value × List Value → Heap → Prop} (S : LSt prog w hT hE X bl0 env fr bl bs al h) (G : GG w hT)
    (hf : findIn (KK w.params) (.ref 465) name = some (some (.ref f)) ∧ isFn (KK w.params) (.ref f) = true) (hl : al.lookup name = none) (q : Q (.ref f, [.ref X.l]) h) : W prog w A (getMethod (.ref X.l) name pl) h Q :=
  W_getm (S.X G) S.p.c.i (ok_Lexer _) hf.1 hf.2 hl q
theorem St.rebuf {a : Addr} (S : LSt prog w hT hE X bl0 env fr bl bs al h) (n : h.get? a = none) (k : Keeps h h' []) (x : IsB h' a bs') : LSt prog w hT hE X bl0 env fr a bs' al h' := by
  have c := S.p.c
  obtain ⟨a1, a2, a3, a4, a5, a6⟩ := c.has
  have m : ∀ x, x ∉ ([] : List Addr) := fun x => List.not_mem_nil
  refine S.lex ⟨c.i.keeps k (m _) (m _), x, c.m.keeps k (m _) (m _), c.k.keeps k (m _), c.kp, c.n1, ⟨fresh_ne n a1, fresh_ne n a2, fresh_ne n a3, fresh_ne n a4, fresh_ne n a5⟩, c.t1, ?_, c.tz, c.ks⟩ k.nil (.inr n)
  cases q : hT.get? a with
  | none => rfl
  | some o => rw [S.up _ _ q] at n; cases n
theorem IsT.sep {a : Addr} {vs : List Value} (x : IsT h a vs) (c : LexC prog w hT h X bl bs al) : a ∉ [X.dl, bl] := by
  obtain ⟨n, e⟩ := x
  simp only [List.mem_cons, List.not_mem_nil, or_false, not_or]
  constructor
  · rintro rfl
    obtain ⟨es, ep, e2, _⟩ := c.i.ad
    rw [e] at e2
    simp [dictO] at e2
  · rintro rfl
    have e2 := c.b
    unfold IsB at e2
    rw [e] at e2
    simp [baO] at e2
theorem lx_ {bs0 : List UInt8} {al0 : List (Str × Value)} {pos : Nat} {cur ahead v0 : Value} {Q : Value → Heap → Prop} (S : LSt prog w hT hE X bl0 env fr bl bs0 al0 h)
    (q : ∀ h' (j : LJ) bl', j.ok pos → LSt prog w hT hE X bl0 env fr bl' bs (lexAl X pos (sgn X.T pos) j bl' cur ahead) h' → Q v0 h') : ∀ v h', (v = v0 ∧ Out prog w hT h X bl pos bs cur ahead h') → Q v h' :=
  fun v h' x => let ⟨e, j, bl', lc, jk, k, nb⟩ := x; e ▸ q h' j bl' jk (S.lex lc k nb)
theorem lv_ {bs0 : List UInt8} {al0 : List (Str × Value)} {pos : Nat} {cur ahead : Value} {f : Tok → Value} {Q : Value → Heap → Prop} (S : LSt prog w hT hE X bl0 env fr bl bs0 al0 h)
    (q : ∀ t h' (j : LJ) bl', j.ok pos → LSt prog w hT hE X bl0 env fr bl' bs (lexAl X pos (sgn X.T pos) j bl' cur ahead) h' → Q (f t) h') : ∀ v h', ((∃ t, v = f t) ∧ Out prog w hT h X bl pos bs cur ahead h') → Q v h' :=
  fun v h' x => let ⟨⟨t, e⟩, j, bl', lc, jk, k, nb⟩ := x; e ▸ q t h' j bl' jk (S.lex lc k nb)
theorem W_sa {x attr : Str} {xp pos : Pos} {v : Value} {Q : Value → Heap → Prop} (S : LSt prog w hT hE X bl0 env fr bl bs al h) (G : GG w hT) (hm : (x, some (.ref X.l)) ∈ fr) (ha : findIn (KK w.params) (.ref 465) attr = some none) (hl : al.lookup attr = some v) (hv : handedIn v = true) (q : Q v h) : W prog w A (eval (.Attribute (.Name x xp) attr pos) env) h Q :=
  W_attr (W_loc S hm (L_get S G ha hl hv q))
theorem W_ss {x : Str} {xp ps : Pos} {pos : Nat} {sg n : Int} {j : LJ} {cur ahead : Value} {Q : Value → Heap → Prop} (S : LSt prog w hT hE X bl0 env fr bl bs (lexAl X pos sg j bl cur ahead) h) (G : GG w hT) (hm : (x, some (.ref X.l)) ∈ fr) (e : sg = n) (q : ∀ t, Q (.int n t) h) : W prog w A (eval (.Attribute (.Name x xp) (Str.ofString "sign") ps) env) h Q :=
  W_attr (W_loc S hm (L_get S G (a_Lexer_sign _) rfl rfl (e ▸ q _)))
theorem T_sEq {x g : Str} {p1 p2 p3 p4 : Pos} {pos : Nat} {sg n m : Int} {u : Tok} {j : LJ} {cur ahead : Value} {whole : Sem Value} {Q : Bool → Heap → Prop} (S : LSt prog w hT hE X bl0 env fr bl bs (lexAl X pos sg j bl cur ahead) h) (G : GG w hT) (hm : (x, some (.ref X.l)) ∈ fr) (e : sg = n) (hv : GV (KK w.params) g (.int m u)) (hx : env.kindOf g = some .globalImplicit)
    (q : Q (decide (n = m)) h) : W prog w A (isTrue (.Compare (.Attribute (.Name x p1) (Str.ofString "sign") p2) [.Eq] [.Name g p3] p4) env whole) h Q :=
  T_cmp (W_ss S G hm e fun t => W_glob S G hv hx (C_eq (T_bool q))) rfl
theorem T_sNe {x g : Str} {p1 p2 p3 p4 : Pos} {pos : Nat} {sg n m : Int} {u : Tok} {j : LJ} {cur ahead : Value} {whole : Sem Value} {Q : Bool → Heap → Prop} (S : LSt prog w hT hE X bl0 env fr bl bs (lexAl X pos sg j bl cur ahead) h) (G : GG w hT) (hm : (x, some (.ref X.l)) ∈ fr) (e : sg = n) (hv : GV (KK w.params) g (.int m u)) (hx : env.kindOf g = some .globalImplicit)
    (q : Q (decide (n ≠ m)) h) : W prog w A (isTrue (.Compare (.Attribute (.Name x p1) (Str.ofString "sign") p2) [.NotEq] [.Name g p3] p4) env whole) h Q :=
  T_cmp (W_ss S G hm e fun t => W_glob S G hv hx (C_ne (T_bool q))) rfl
theorem T_lEq {F : List Addr} {P : Heap → Prop} {x g : Str} {p1 p3 p4 : Pos} {n m : Int} {t u : Tok} {whole : Sem Value} {Q : Bool → Heap → Prop} (S : St hT hE F env fr P h) (G : GG w hT) (hm : (x, some (.int n t)) ∈ fr) (hv : GV (KK w.params) g (.int m u)) (hx : env.kindOf g = some .globalImplicit)
    (q : Q (decide (n = m)) h) : W prog w A (isTrue (.Compare (.Name x p1) [.Eq] [.Name g p3] p4) env whole) h Q :=
  T_cmp (W_loc S hm (W_glob S G hv hx (C_eq (T_bool q)))) rfl
theorem T_lIn2 {F : List Addr} {P : Heap → Prop} {x g g' : Str} {p1 p3 p4 p5 p6 : Pos} {x1 : Nat} {n m m' : Int} {t u u' : Tok} {whole : Sem Value} {Q : Bool → Heap → Prop} (S : St hT hE F env fr P h) (G : GG w hT) (hm : (x, some (.int n t)) ∈ fr) (hv : GV (KK w.params) g (.int m u)) (hx : env.kindOf g = some .globalImplicit)
    (hv' : GV (KK w.params) g' (.int m' u')) (hx' : env.kindOf g' = some .globalImplicit)
    (q : ∀ h', St hT hE F env fr P h' → Q (decide (n ∈ [m, m'])) h') : W prog w A (isTrue (.Compare (.Name x p1) [.In] [.Tuple [.Name g p3, .Name g' p5] x1 p6] p4) env whole) h Q :=
  T_cmp (W_loc S hm (W_tuple (A_cons (W_glob S G hv hx (A_cons (W_glob S G hv' hx' (A_nil ⟨(by decide : 2 ≤ 1000000), fun a h' _ k y => C_inT y (.cons _ _ (.cons _ _ .nil)) (T_bool (q _ (S.same k)))⟩))))))) rfl
theorem T_lc {F : List Addr} {P : Heap → Prop} {x g : Str} {f : Addr} {p1 p2 p4 : Pos} {v : Value} {b : Bool} {Q : Bool → Heap → Prop} (S : St hT hE F env fr P h) (G : GG w hT) (hm : (x, some v) ∈ fr) (hv : GV (KK w.params) g (.ref f)) (hx : env.kindOf g = some .globalImplicit) (hk : KeepOK (KK w.params) (.ref f))
    (H : W prog w A (call (.ref f) [v] []) h fun v h' => v = .bool b ∧ Keeps h h' []) (q : ∀ h', St hT hE F env fr P h' → Q b h') :
    W prog w A (isTrue (.Call (.Name g p1) [.Name x p2] [] p4) env (eval (.Call (.Name g p1) [.Name x p2] [] p4) env)) h Q :=
  T_plain (W_call (W_glob S G hv hx (W_w1 G hk (A_cons (W_loc S hm (A_nil ⟨S.up, H.mono (same_ S fun h' S' => T_bool (q h' S'))⟩))))))
theorem T_sc {x g : Str} {f : Addr} {p1 p2 p3 p4 : Pos} {pos : Nat} {sg n : Int} {b : Bool} {j : LJ} {cur ahead : Value} {Q : Bool → Heap → Prop} (S : LSt prog w hT hE X bl0 env fr bl bs (lexAl X pos sg j bl cur ahead) h) (G : GG w hT) (hm : (x, some (.ref X.l)) ∈ fr) (e : sg = n) (hv : GV (KK w.params) g (.ref f)) (hx : env.kindOf g = some .globalImplicit) (hk : KeepOK (KK w.params) (.ref f))
    (H : ∀ t, W prog w A (call (.ref f) [.int n t] []) h fun v h' => v = .bool b ∧ Keeps h h' []) (q : ∀ h', LSt prog w hT hE X bl0 env fr bl bs (lexAl X pos sg j bl cur ahead) h' → Q b h') :
    W prog w A (isTrue (.Call (.Name g p1) [.Attribute (.Name x p2) (Str.ofString "sign") p3] [] p4) env (eval (.Call (.Name g p1) [.Attribute (.Name x p2) (Str.ofString "sign") p3] [] p4) env)) h Q :=
  T_plain (W_call (W_glob S G hv hx (W_w1 G hk (A_cons (W_ss S G hm e fun t => A_nil ⟨S.up, (H t).mono (same_ S fun h' S' => T_bool (q h' S'))⟩)))))
theorem W_sm {x m : Str} {f : Addr} {p1 p2 p3 : Pos} {Q : Value → Heap → Prop} (S : LSt prog w hT hE X bl0 env fr bl bs al h) (G : GG w hT) (hm : (x, some (.ref X.l)) ∈ fr) (hf : findIn (KK w.params) (.ref 465) m = some (some (.ref f)) ∧ isFn (KK w.params) (.ref f) = true) (hl : al.lookup m = none) (hk : KeepOK (KK w.params) (.ref f))
    (H : W prog w A (call (.ref f) [.ref X.l] []) h Q) {pl : Sem Bool} (he : eval (.Call (.Attribute (.Name x p1) m p2) [] [] p3) env = (do
      let ov ← eval (.Name x p1) env
      standAt p2.atName
      let (f, first) ← holding [ov] (getMethod ov m pl)
      callWith p3 f first (backTo p3 (starEach [] env)) []) := by rfl) : W prog w A (eval (.Call (.Attribute (.Name x p1) m p2) [] [] p3) env) h Q :=
  W_meth (W_loc S hm (L_getm S G hf hl (W_w0m G S.up hk H))) he
end
theorem tac_mac3 : True := by
  k_with "la" => (with_reducible first
  | exact a_Lexer_text _ | exact a_Lexer_source _ | exact a_Lexer_chunk _ | exact a_Lexer_limits _ | exact a_Lexer_kinds _ | exact a_Lexer_at _ | exact a_Lexer_sign _ | exact a_Lexer_line _ | exact a_Lexer_last_line _ | exact a_Lexer_buffer _ | exact a_Lexer_current _ | exact a_Lexer_ahead _)
  k_with "lt" => (with_reducible first
  | exact t_Lexer_text _ | exact t_Lexer_source _ | exact t_Lexer_chunk _ | exact t_Lexer_limits _ | exact t_Lexer_kinds _ | exact t_Lexer_at _ | exact t_Lexer_sign _ | exact t_Lexer_line _ | exact t_Lexer_last_line _ | exact t_Lexer_buffer _ | exact t_Lexer_current _ | exact t_Lexer_ahead _)
  k_with "lm" => (with_reducible first
  | exact m_next _ | exact m_lookahead _ | exact m_error _ | exact m_syntax_error _ | exact m_near_text _ | exact m_move _ | exact m_keep _ | exact m_keep_and_move _ | exact m_keep_if _ | exact m_clear _ | exact m_end_line _ | exact m_read _ | exact m_skip_blank _ | exact m_sign_behind _ | exact m_skip_comment _ | exact m_read_compared _ | exact m_read_dots _ | exact m_read_word _ | exact m_read_numeral _ | exact m_read_bracket _ | exact m_read_level _ | exact m_read_long _ | exact m_read_inner _ | exact m_read_string _ | exact m_read_escape _ | exact m_lex_read_digits _)
  k_with "w2" => (first
  | ((with_reducible refine' L_get S G ?ha ?hl ?hv ?_); (case ha => k_extra "la"); (case hl => exact rfl); (case hv => exact rfl))
  | ((with_reducible refine' L_set S G ?ht ?hz ?hd ?hp ?_); (case ht => k_extra "lt"); (case hz => exact Nat.le_of_ble_eq_true rfl); (case hp => k_extra "put"); (case hd => exact nodupB_iff (by kernel_rfl)); clear S; intro h S)
  | ((with_reducible refine' L_getm S G ?hf ?hl ?_); (case hf => k_extra "lm"); (case hl => exact rfl))
  | ((with_reducible refine lim_text (S.X G) S.p.c.m (fun _ => ?_)))
  | with_reducible refine BA_getm_append S.p.c.b ?_
  | ((with_reducible refine BA_len S.p.c.b ?hz (fun _ => ?_)); (case hz => first | assumption | decide | omega))
  | ((with_reducible refine BA_bytes S.p.c.b ?hz (fun _ => ?_)); (case hz => first | assumption | decide | omega))
  | with_reducible refine C_ninT (by assumption) (by assumption) ?_
  | with_reducible refine C_inT (by assumption) (by assumption) ?_)
  k_with "lx" => ((refine lx_ S ?_; clear S; intro h j bl1 jk S))
  k_with "mv" => ((refine (move_ G S.up (R.le (by decide)) S.p.c jk).mono ?_; k_extra "lx"))
  k_with "km" => ((refine (keep_and_move_ G S.up (R.le (by decide)) (by assumption) (by first | assumption | (simp only [List.length_append, List.length_cons, List.length_nil]; omega)) S.p.c jk).mono ?_; k_extra "lx"))
  k_with "tok" => ((rintro _ h ⟨⟨a1, rfl, n1, t1⟩, k⟩; replace S := S.same k; k_extra "u"; exact ⟨⟨a1, rfl, t1⟩, S.out jk⟩))
  k_with "lv" => ((refine lv_ S ?_; clear S; intro _ h j bl1 jk S))
  k_with "w_eval" => (first
  | ((with_reducible refine' W_sa S G ?hm ?ha ?hl ?hv ?_); (case hm => k_extra "mem"); (case ha => k_extra "la"); (case hl => exact rfl); (case hv => exact rfl))
  | ((with_reducible refine' W_sm S G ?hm ?hf ?hl ?hk ?_ ?he); (case hm => k_extra "mem"); (case hf => k_extra "lm"); (case hl => exact rfl); (case hk => k_extra "kk"); (case he => exact rfl)))
  trivial
theorem sgn_lt {T : List UInt8} {i : Nat} (h : i < T.length) : sgn T i = ((T.getD i 0).toNat : Int) := by
  unfold sgn
  rw [List.getElem?_eq_getElem h, List.getD_eq_getElem?_getD, List.getElem?_eq_getElem h]; rfl
theorem sgn_ge {T : List UInt8} {i : Nat} (h : T.length ≤ i) : sgn T i = -1 := by
  unfold sgn
  rw [List.getElem?_eq_none h]
section
variable {A : Around} {hE h : Heap} {X : LX} {bl : Addr} {bs : List UInt8} {pos : Nat} {sg : Int} {j : LJ} {cur ahead : Value}
theorem move0_ (G : GG w hT) (up : Grown hT hE) (room : Room A 1) (lc : LexC prog w hT hE X bl bs (lexAl X pos sg j bl cur ahead)) :
    W prog w A (call (.ref 322) [.ref X.l] []) hE fun v h' => v = .none ∧ ∃ j' bl', LexC prog w hT h' X bl' bs (lexAl X (pos + 1) (sgn X.T (pos + 1)) j' bl' cur ahead) ∧ j'.ln = j.ln ∧ Keeps hE h' [X.dl, bl] ∧ (bl' = bl ∨ hE.get? bl' = none) := by
  refine W_lex (rest := []) (fr := [(Str.ofString "self", some (.ref X.l))]) G up room (k_move _) (c_move _) rfl (b_move _) f_move rfl rfl lc ?_
  intro L h S R Q0 q0
  have hl : X.T.length ≤ 1000000 := Nat.le_trans S.p.c.tz (by decide)
  have e2 : ((pos : Int) + 1) = ((pos + 1 : Nat) : Int) := by omega
  k_extra "ww"
  · rw [e2, Int.toNat_natCast, ← sgn_lt (by omega)] at S
    exact S.out0
  · rw [e2, ← sgn_ge (T := X.T) (i := pos + 1) (by omega)] at S
    exact S.out0
theorem move_ (G : GG w hT) (up : Grown hT hE) (room : Room A 1) (lc : LexC prog w hT hE X bl bs (lexAl X pos sg j bl cur ahead)) (jk : j.ok pos) :
    W prog w A (call (.ref 322) [.ref X.l] []) hE fun v h' => v = .none ∧ Out prog w hT hE X bl (pos + 1) bs cur ahead h' :=
  (move0_ G up room lc).mono fun v h' ⟨e, j', b', a, b, c⟩ => ⟨e, j', b', a, ⟨by rw [b]; exact jk.1, by have := jk.2; rw [b]; omega⟩, c⟩
theorem sign_behind_ (G : GG w hT) (up : Grown hT hE) (room : Room A 1) (lc : LexC prog w hT hE X bl bs (lexAl X pos (sgn X.T pos) j bl cur ahead)) (jk : j.ok pos) :
    W prog w A (call (.ref 378) [.ref X.l] []) hE fun v h' => (∃ t, v = .int (sgn X.T (pos + 1)) t) ∧ Out prog w hT hE X bl pos bs cur ahead h' := by
  refine W_lex (rest := []) (fr := [(Str.ofString "self", some (.ref X.l))]) G up room (k_sign_behind _) (c_sign_behind _) rfl (b_sign_behind _) f_sign_behind rfl rfl lc ?_
  intro L h S R Q0 q0
  have hl : X.T.length ≤ 1000000 := Nat.le_trans S.p.c.tz (by decide)
  have e2 : ((pos : Int) + 1) = ((pos + 1 : Nat) : Int) := by omega
  k_extra "ww"
  · rw [e2, Int.toNat_natCast, ← sgn_lt (by omega)]
    exact ⟨⟨_, rfl⟩, S.out jk⟩
  · rw [← sgn_ge (T := X.T) (i := pos + 1) (by omega)]
    exact ⟨⟨_, rfl⟩, S.out jk⟩
theorem keep_ (G : GG w hT) (up : Grown hT hE) (room : Room A 1) {n : Int} {t : Tok} (h0 : 0 ≤ n) (h1 : n < 256) (hb : bs.length < 1000) (lc : LexC prog w hT hE X bl bs (lexAl X pos (sgn X.T pos) j bl cur ahead)) (jk : j.ok pos) :
    W prog w A (call (.ref 329) [.ref X.l, .int n t] []) hE fun v h' => v = .none ∧ Out prog w hT hE X bl pos (bs ++ [n.toNat.toUInt8]) cur ahead h' := by
  refine W_lex (rest := []) (fr := [(Str.ofString "self", some (.ref X.l)), (Str.ofString "sign", some (.int n t))]) G up room (k_keep _) (c_keep _) rfl (b_keep _ _) f_keep rfl rfl lc ?_
  intro L h S R Q0 q0
  have hz : bs.length < 15000000 := by omega
  k_extra "oo"
  refine BA_append S.p.c.b h0 h1 hz fun h k x => ?_
  replace S := S.app k x
  k_extra "ww"
  exact S.out jk
end
section
variable {T : List UInt8} {pos : Nat} {b : UInt8} {r : List UInt8}
theorem at_lt (hd : T.drop pos = b :: r) : pos < T.length := by
  rcases Nat.lt_or_ge pos T.length with h | h
  · exact h
  · rw [List.drop_eq_nil_of_le h] at hd; cases hd
theorem at_sgn (hd : T.drop pos = b :: r) : sgn T pos = (b.toNat : Int) := by
  unfold sgn
  have : T[pos]? = some b := by
    have := congrArg List.head? hd
    rw [List.head?_drop] at this
    exact this
  rw [this]
theorem at_end (hd : T.drop pos = []) : sgn T pos = -1 := sgn_ge (by simpa using hd)
theorem at_next (hd : T.drop pos = b :: r) : T.drop (pos + 1) = r := by
  rw [← List.drop_drop, hd]; rfl
theorem byte_back : ((b.toNat : Int)).toNat.toUInt8 = b := by simp
end
section
variable {A : Around} {hE h : Heap} {X : LX} {bl : Addr} {bs r : List UInt8} {b : UInt8} {pos : Nat} {sg : Int} {j : LJ} {cur ahead : Value}
theorem keep_and_move_ (G : GG w hT) (up : Grown hT hE) (room : Room A 2) (hd : X.T.drop pos = b :: r) (hb : bs.length < 1000) (lc : LexC prog w hT hE X bl bs (lexAl X pos (sgn X.T pos) j bl cur ahead)) (jk : j.ok pos) :
    W prog w A (call (.ref 336) [.ref X.l] []) hE fun v h' => v = .none ∧ Out prog w hT hE X bl (pos + 1) (bs ++ [b]) cur ahead h' := by
  refine W_lex (rest := []) (fr := [(Str.ofString "self", some (.ref X.l))]) G up room (k_keep_and_move _) (c_keep_and_move _) rfl (b_keep_and_move _) f_keep_and_move rfl rfl lc ?_
  intro L h S R Q0 q0
  have hb2 := b.toNat_lt
  k_extra "ww"
  rw [at_sgn hd]
  refine (keep_ G S.up (R.le (by decide)) (by omega) (by omega) hb S.p.c jk).mono ?_
  k_extra "lx"
  k_extra "ww"
  k_extra "mv"
  k_extra "ww"
  rw [byte_back] at S
  exact S.out jk
theorem keep_if_t (G : GG w hT) (up : Grown hT hE) (room : Room A 3) (hd : X.T.drop pos = b :: r) (hb : bs.length < 1000) {a : Addr} {vs : List Value} {ns : List Int} (x : IsT hE a vs) (hi : Ints vs ns) (hm : (b.toNat : Int) ∈ ns) (lc : LexC prog w hT hE X bl bs (lexAl X pos (sgn X.T pos) j bl cur ahead)) (jk : j.ok pos) :
    W prog w A (call (.ref 343) [.ref X.l, .ref a] []) hE fun v h' => v = .bool true ∧ Out prog w hT hE X bl (pos + 1) (bs ++ [b]) cur ahead h' := by
  refine W_lex (rest := []) (fr := [(Str.ofString "self", some (.ref X.l)), (Str.ofString "signs", some (.ref a))]) G up room (k_keep_if _) (c_keep_if _) rfl (b_keep_if _ _) f_keep_if rfl rfl lc ?_
  intro L h S R Q0 q0
  have x' := x.keeps S.kp (x.sep lc)
  k_extra "ww"
  · exact absurd c (by rw [at_sgn hd]; simpa using hm)
  · refine (keep_and_move_ G S.up (R.le (by decide)) hd hb S.p.c jk).mono ?_
    k_extra "lx"
    k_extra "ww"
    exact S.out jk
theorem keep_if_f (G : GG w hT) (up : Grown hT hE) (room : Room A 1) {a : Addr} {vs : List Value} {ns : List Int} (x : IsT hE a vs) (hi : Ints vs ns) (hm : sgn X.T pos ∉ ns) (lc : LexC prog w hT hE X bl bs (lexAl X pos (sgn X.T pos) j bl cur ahead)) (jk : j.ok pos) :
    W prog w A (call (.ref 343) [.ref X.l, .ref a] []) hE fun v h' => v = .bool false ∧ Out prog w hT hE X bl pos bs cur ahead h' := by
  refine W_lex (rest := []) (fr := [(Str.ofString "self", some (.ref X.l)), (Str.ofString "signs", some (.ref a))]) G up room (k_keep_if _) (c_keep_if _) rfl (b_keep_if _ _) f_keep_if rfl rfl lc ?_
  intro L h S R Q0 q0
  have x' := x.keeps S.kp (x.sep lc)
  k_extra "ww"
  · exact S.out jk
  · exact absurd c hm
theorem clear_ (G : GG w hT) (up : Grown hT hE) (room : Room A 1) (lc : LexC prog w hT hE X bl bs (lexAl X pos (sgn X.T pos) j bl cur ahead)) (jk : j.ok pos) :
    W prog w A (call (.ref 350) [.ref X.l] []) hE fun v h' => v = .none ∧ Out prog w hT hE X bl pos [] cur ahead h' := by
  refine W_lex (rest := []) (fr := [(Str.ofString "self", some (.ref X.l))]) G up room (k_clear _) (c_clear _) rfl (b_clear _) f_clear rfl rfl lc ?_
  intro L h S R Q0 q0
  k_extra "ww"
  refine BA_new fun a1 h n1 k1 x1 => ?_
  replace S := S.rebuf n1 k1 x1
  clear k1 x1
  k_extra "ww"
  exact S.out6 jk
theorem end_line1_ (G : GG w hT) (up : Grown hT hE) (room : Room A 2) (hp : pos < X.T.length) (hn : isNewlineZ (sgn X.T (pos + 1)) = false) (lc : LexC prog w hT hE X bl bs (lexAl X pos (sgn X.T pos) j bl cur ahead)) (jk : j.ok pos) :
    W prog w A (call (.ref 357) [.ref X.l] []) hE fun v h' => v = .none ∧ Out prog w hT hE X bl (pos + 1) bs cur ahead h' := by
  refine W_lex (rest := [Str.ofString "first"]) (fr := [(Str.ofString "self", some (.ref X.l)), (Str.ofString "first", none)]) G up room (k_end_line _) (c_end_line _) rfl (b_end_line _) f_end_line rfl rfl lc ?_
  intro L h S R Q0 q0
  have hz := S.p.c.tz
  have j1 := jk.1
  have j2 := jk.2
  k_extra "ww"
  refine (move0_ G S.up (R.le (by decide)) S.p.c).mono ?_
  rintro _ h ⟨rfl, j', bl1, lc, jl, k, nb⟩
  replace S := S.lex lc k nb
  clear lc k nb
  k_extra "ww"
  refine (is_newline_ G S.up (R.le (by decide))).mono ?_
  k_extra "same"
  rw [hn]
  k_extra "oo"
  exact S.out6 ⟨by omega, by omega⟩
theorem end_line2_ (G : GG w hT) (up : Grown hT hE) (room : Room A 2) (hp : pos < X.T.length) (hn : isNewlineZ (sgn X.T (pos + 1)) = true) (hs : sgn X.T (pos + 1) ≠ sgn X.T pos) (lc : LexC prog w hT hE X bl bs (lexAl X pos (sgn X.T pos) j bl cur ahead)) (jk : j.ok pos) :
    W prog w A (call (.ref 357) [.ref X.l] []) hE fun v h' => v = .none ∧ Out prog w hT hE X bl (pos + 2) bs cur ahead h' := by
  refine W_lex (rest := [Str.ofString "first"]) (fr := [(Str.ofString "self", some (.ref X.l)), (Str.ofString "first", none)]) G up room (k_end_line _) (c_end_line _) rfl (b_end_line _) f_end_line rfl rfl lc ?_
  intro L h S R Q0 q0
  have hz := S.p.c.tz
  have j1 := jk.1
  have j2 := jk.2
  k_extra "ww"
  refine (move0_ G S.up (R.le (by decide)) S.p.c).mono ?_
  rintro _ h ⟨rfl, j', bl1, lc, jl, k, nb⟩
  replace S := S.lex lc k nb
  clear lc k nb
  k_extra "ww"
  refine (is_newline_ G S.up (R.le (by decide))).mono ?_
  k_extra "same"
  rw [hn]
  k_extra "oo"
  refine (move0_ G S.up (R.le (by decide)) S.p.c).mono ?_
  rintro _ h ⟨rfl, j'', bl2, lc, jl2, k, nb⟩
  replace S := S.lex lc k nb
  clear lc k nb
  k_extra "oo"
  exact S.out6 ⟨by omega, by omega⟩
end
noncomputable def TokV (h : Heap) (v : Value) (k : Int) (tv : TV) : Prop := ∃ a, v = .ref a ∧ TokAt h a k tv
theorem TV.is_none : TV.none.is .none := rfl
section
variable {A : Around} {hE h : Heap} {X : LX} {bl : Addr} {bs r : List UInt8} {b : UInt8} {pos : Nat} {sg : Int} {j : LJ} {cur ahead : Value}
theorem read_level0_ (G : GG w hT) (up : Grown hT hE) (room : Room A 3) (hd : X.T.drop pos = b :: r) (hb : bs.length < 900) (h61 : sgn X.T (pos + 1) ≠ 61) (lc : LexC prog w hT hE X bl bs (lexAl X pos (sgn X.T pos) j bl cur ahead)) (jk : j.ok pos) :
    W prog w A (call (.ref 427) [.ref X.l] []) hE fun v h' => (∃ t, v = .int (if sgn X.T (pos + 1) = b.toNat then 0 else -1) t) ∧ Out prog w hT hE X bl (pos + 1) (bs ++ [b]) cur ahead h' := by
  refine W_lex (rest := [Str.ofString "bracket", Str.ofString "many"]) (fr := [(Str.ofString "self", some (.ref X.l)), (Str.ofString "bracket", none), (Str.ofString "many", none)]) G up room (k_read_level _) (c_read_level _) rfl (b_read_level _) f_read_level rfl rfl lc ?_
  intro L h S R Q0 q0
  have hb2 : bs.length < 1000 := by omega
  k_extra "ww"
  k_extra "km"
  k_extra "ww"
  refine CW_turn fun Q2 q2 => ?_
  k_extra "ww"
  · exact absurd c h61
  · rw [at_sgn hd] at c
    rw [if_pos c]
    exact ⟨⟨_, rfl⟩, S.out jk⟩
  · rw [at_sgn hd] at c
    rw [if_neg c]
    exact ⟨⟨_, rfl⟩, S.out jk⟩
theorem read_level1_ (G : GG w hT) (up : Grown hT hE) (room : Room A 3) (hd : X.T.drop pos = b :: 61 :: b :: r) (hb : bs.length < 900) (h61 : b ≠ 61) (lc : LexC prog w hT hE X bl bs (lexAl X pos (sgn X.T pos) j bl cur ahead)) (jk : j.ok pos) :
    W prog w A (call (.ref 427) [.ref X.l] []) hE fun v h' => (∃ t, v = .int 1 t) ∧ Out prog w hT hE X bl (pos + 2) (bs ++ [b] ++ [61]) cur ahead h' := by
  refine W_lex (rest := [Str.ofString "bracket", Str.ofString "many"]) (fr := [(Str.ofString "self", some (.ref X.l)), (Str.ofString "bracket", none), (Str.ofString "many", none)]) G up room (k_read_level _) (c_read_level _) rfl (b_read_level _) f_read_level rfl rfl lc ?_
  intro L h S R Q0 q0
  have hb2 : bs.length < 1000 := by omega
  have hd1 := at_next hd
  have hd2 := at_next hd1
  have n61 : (b.toNat : Int) ≠ 61 := fun e => h61 (UInt8.toNat_inj.mp (by show b.toNat = 61; omega))
  k_extra "ww"
  k_extra "km"
  k_extra "ww"
  refine CW_turn fun Q2 q2 => ?_
  rw [at_sgn hd1] at S
  k_extra "dd"
  rw [← at_sgn hd1] at S
  k_extra "km"
  k_extra "ww"
  refine CW_turn fun Q2 q2 => ?_
  k_extra "ww"
  · exact absurd ((at_sgn hd2).symm.trans c) n61
  · exact ⟨⟨_, rfl⟩, S.out jk⟩
  · exact absurd ((at_sgn hd2).trans (at_sgn hd).symm) c
end
section
variable {A : Around} {hE h : Heap} {X : LX} {bl0 bl : Addr} {bs r : List UInt8} {b : UInt8} {al : List (Str × Value)} {env : Env} {fr : Fra} {pos : Nat} {sg : Int} {j : LJ} {cur ahead : Value}
theorem C_isf {v v' : Value} {Q : Value → Heap → Prop} (hp : PySem.plainIs v v' = true) (e : (v == v') = false) (q : Q (.bool false) h) : W prog w A (compareOp .Is v v') h Q := C_is hp (by rw [e]; exact q)
theorem C_ist {v v' : Value} {Q : Value → Heap → Prop} (hp : PySem.plainIs v v' = true) (e : (v == v') = true) (q : Q (.bool true) h) : W prog w A (compareOp .Is v v') h Q := C_is hp (by rw [e]; exact q)
theorem C_isnf {v v' : Value} {Q : Value → Heap → Prop} (hp : PySem.plainIs v v' = true) (e : (v == v') = false) (q : Q (.bool true) h) : W prog w A (compareOp .IsNot v v') h Q := C_isnot hp (by rw [e]; exact q)
theorem C_isnt {v v' : Value} {Q : Value → Heap → Prop} (hp : PySem.plainIs v v' = true) (e : (v == v') = true) (q : Q (.bool false) h) : W prog w A (compareOp .IsNot v v') h Q := C_isnot hp (by rw [e]; exact q)
end
theorem tac_mac4 : True := by
  k_with "w2" => (first
  | ((with_reducible refine' L_gets S G ?es ?_); (case es => assumption); intro _)
  | ((with_reducible refine C_isf ?hp ?he ?_); (case hp => exact rfl); (case he => exact rfl))
  | ((with_reducible refine C_ist ?hp ?he ?_); (case hp => exact rfl); (case he => exact rfl))
  | ((with_reducible refine C_isnf ?hp ?he ?_); (case hp => exact rfl); (case he => exact rfl))
  | ((with_reducible refine C_isnt ?hp ?he ?_); (case hp => exact rfl); (case he => exact rfl))
  | ((with_reducible refine BA_bytes y1 ?hz (fun _ => ?_)); (case hz => first | assumption | decide)))
  k_with "bsr" => (((with_reducible refine' BA_slice S.p.c.b ?hlb x1 ?plb ?pub ?_ ?hsb); (case hsb => with_unfolding_all rfl); (case hlb => first | assumption | decide); (case plb => first | exact .none | exact .int _ _); (case pub => first | exact .none | exact .int _ _); (intro b1 h n2 k2 y1; replace S := S.rebuf n2 k2 y1; clear k2)))
  k_with "bs" => (((with_reducible refine' BA_slice S.p.c.b ?hlb x1 ?plb ?pub ?_ ?hsb); (case hsb => with_unfolding_all rfl); (case hlb => first | assumption | decide); (case plb => first | exact .none | exact .int _ _); (case pub => first | exact .none | exact .int _ _); (intro b1 h n2 k2 y1; replace S := S.same k2; clear k2)))
  k_with "nl" => (((with_reducible refine W.mono (is_newline_ G S.up (R.le (by decide))) ?_); k_extra "same"))
  k_with "dg" => (((with_reducible refine W.mono (is_digit_ G S.up (R.le (by decide))) ?_); k_extra "same"))
  k_with "nm" => (((with_reducible refine W.mono (is_name_sign_ G S.up (R.le (by decide))) ?_); k_extra "same"))
  k_with "le" => (((with_reducible refine W.mono (is_letter_ G S.up (R.le (by decide))) ?_); k_extra "same"))
  k_with "bk" => (((with_reducible refine W.mono (is_blank_lexer_ G S.up (R.le (by decide))) ?_); k_extra "same"))
  k_with "zk" => (((with_reducible refine W.mono (keep_and_move_ G S.up (R.le (by decide)) (by assumption) (by first | assumption | decide | (simp only [List.length_append, List.length_cons, List.length_nil]; omega)) S.p.c jk) ?_); k_extra "lx"))
  k_with "zm" => (((with_reducible refine W.mono (move_ G S.up (R.le (by decide)) S.p.c jk) ?_); k_extra "lx"))
  k_with "zp" => (((with_reducible refine W.mono (keep_ G S.up (R.le (by decide)) (by decide) (by decide) (by first | assumption | decide) S.p.c jk) ?_); k_extra "lx"))
  k_with "z" => (first
  | k_extra "d"
  | with_reducible refine CW_turn (fun Q2 q2 => ?_)
  | k_extra "nl" | k_extra "dg" | k_extra "nm" | k_extra "le" | k_extra "bk" | k_extra "zk" | k_extra "zm" | k_extra "zp")
  k_with "zz" => (repeat' k_extra "z")
  k_with "zt" => ((refine (tok_new_ G S.up (R.le (by decide)) TV.is_none).mono ?_; k_extra "tok"))
  k_with "rtok" => ((rintro _ h ⟨⟨a1, rfl, n1, t1⟩, k⟩; replace S := S.same k; k_extra "u"; exact ⟨⟨a1, rfl, t1⟩, _, by decide, S.out jk⟩))
  k_with "rout" => ((intro v h x; k_extra "u"; exact rout_ S (by decide) x))
  k_with "w_eval" => (((with_reducible refine' W_ss S G ?hm ?es ?_); (case hm => k_extra "mem"); (case es => assumption); intro _))
  k_with "w_isTrue" => (first
  | ((with_reducible refine' T_lEq S G ?hm ?hv ?hx ?_); (case hm => k_extra "mem"); (case hv => k_extra "gv"); (case hx => kernel_rfl))
  | ((with_reducible refine' T_lIn2 S G ?hm ?hv ?hx ?hw ?hy ?_); (case hm => k_extra "mem"); (case hv => k_extra "gv"); (case hx => kernel_rfl); (case hw => k_extra "gv"); (case hy => kernel_rfl); clear S; intro h S)
  | ((with_reducible refine' T_lc S G ?hm ?hv ?hx ?hk ?hh ?_); (case hm => k_extra "mem"); (case hv => k_extra "gv"); (case hx => kernel_rfl); (case hk => k_extra "kk"); (case hh => (first | exact is_newline_ G S.up (R.le (by decide)) | exact is_digit_ G S.up (R.le (by decide)) | exact is_name_sign_ G S.up (R.le (by decide)) | exact is_letter_ G S.up (R.le (by decide)) | exact is_blank_lexer_ G S.up (R.le (by decide)))); clear S; intro h S)
  | ((with_reducible refine' T_sEq S G ?hm ?es ?hv ?hx ?_); (case hm => k_extra "mem"); (case es => assumption); (case hv => k_extra "gv"); (case hx => kernel_rfl))
  | ((with_reducible refine' T_sNe S G ?hm ?es ?hv ?hx ?_); (case hm => k_extra "mem"); (case es => assumption); (case hv => k_extra "gv"); (case hx => kernel_rfl))
  | ((with_reducible refine' T_sc S G ?hm ?es ?hv ?hx ?hk ?hh ?_); (case hm => k_extra "mem"); (case es => assumption); (case hv => k_extra "gv"); (case hx => kernel_rfl); (case hk => k_extra "kk"); (case hh => (intro _; first | exact is_newline_ G S.up (R.le (by decide)) | exact is_digit_ G S.up (R.le (by decide)) | exact is_name_sign_ G S.up (R.le (by decide)) | exact is_letter_ G S.up (R.le (by decide)) | exact is_blank_lexer_ G S.up (R.le (by decide)))); clear S; intro h S))
  trivial
section
variable {A : Around} {hE h : Heap} {X : LX} {bl : Addr} {bs r : List UInt8} {b : UInt8} {pos : Nat} {sg : Int} {j : LJ} {cur ahead : Value}
theorem read_escape_n (G : GG w hT) (up : Grown hT hE) (room : Room A 2) (hd : X.T.drop pos = 110 :: r) (hb : bs.length < 1000) (lc : LexC prog w hT hE X bl bs (lexAl X pos (sgn X.T pos) j bl cur ahead)) (jk : j.ok pos) :
    W prog w A (call (.ref 455) [.ref X.l] []) hE fun v h' => v = .none ∧ Out prog w hT hE X bl (pos + 1) (bs ++ [10]) cur ahead h' := by
  refine W_lex (rest := [Str.ofString "told"]) (fr := [(Str.ofString "self", some (.ref X.l)), (Str.ofString "told", none)]) G up room (k_read_escape _) (c_read_escape _) rfl (b_read_escape _) f_read_escape rfl rfl lc ?_
  intro L h S R Q0 q0
  have e0 : sgn X.T pos = 110 := at_sgn hd
  k_extra "zz"
  refine (escaped_sign_ G S.up (R.le (by decide)) (by decide) (by decide) (by decide)).mono ?_
  rintro _ h ⟨⟨_, _, rfl⟩ | ⟨hx, _⟩, k⟩
  · replace S := S.same k
    clear k
    k_extra "zz"
    exact S.out jk
  · exact absurd hx (by decide)
theorem read_escape_q (G : GG w hT) (up : Grown hT hE) (room : Room A 2) (hd : X.T.drop pos = 39 :: r) (hb : bs.length < 1000) (lc : LexC prog w hT hE X bl bs (lexAl X pos (sgn X.T pos) j bl cur ahead)) (jk : j.ok pos) :
    W prog w A (call (.ref 455) [.ref X.l] []) hE fun v h' => v = .none ∧ Out prog w hT hE X bl (pos + 1) (bs ++ [39]) cur ahead h' := by
  refine W_lex (rest := [Str.ofString "told"]) (fr := [(Str.ofString "self", some (.ref X.l)), (Str.ofString "told", none)]) G up room (k_read_escape _) (c_read_escape _) rfl (b_read_escape _) f_read_escape rfl rfl lc ?_
  intro L h S R Q0 q0
  have e0 : sgn X.T pos = 39 := at_sgn hd
  k_extra "zz"
  refine (escaped_sign_ G S.up (R.le (by decide)) (by decide) (by decide) (by decide)).mono ?_
  rintro _ h ⟨⟨hx, _⟩ | ⟨_, rfl⟩, k⟩
  · exact absurd hx (by decide)
  · replace S := S.same k
    clear k
    k_extra "zz"
    exact S.out jk
theorem read_string_n (G : GG w hT) (up : Grown hT hE) (room : Room A 4) {t : Tok} (hd : X.T.drop pos = 34 :: 97 :: 92 :: 110 :: 34 :: r) (lc : LexC prog w hT hE X bl [] (lexAl X pos (sgn X.T pos) j bl cur ahead)) (jk : j.ok pos) :
    W prog w A (call (.ref 448) [.ref X.l, .int 34 t] []) hE fun v h' => TokV h' v 286 (.str [97, 10]) ∧ Out prog w hT hE X bl (pos + 5) [34, 97, 10, 34] cur ahead h' := by
  refine W_lex (rest := []) (fr := [(Str.ofString "self", some (.ref X.l)), (Str.ofString "quote", some (.int 34 t))]) G up room (k_read_string _) (c_read_string _) rfl (b_read_string _ _) f_read_string rfl rfl lc ?_
  intro L h S R Q0 q0
  have hd1 := at_next hd
  have hd2 := at_next hd1
  have hd3 := at_next hd2
  have hd4 := at_next hd3
  have e0 : sgn X.T pos = 34 := at_sgn hd
  have e1 : sgn X.T (pos + 1) = 97 := at_sgn hd1
  have e2 : sgn X.T (pos + 1 + 1) = 92 := at_sgn hd2
  have e3 : sgn X.T (pos + 1 + 1 + 1) = 110 := at_sgn hd3
  have e4 : sgn X.T (pos + 1 + 1 + 1 + 1) = 34 := at_sgn hd4
  k_extra "zz"
  refine (read_escape_n G S.up (R.le (by decide)) (by assumption) (by decide) S.p.c jk).mono ?_
  k_extra "lx"
  k_extra "zz"
  k_extra "bs"
  k_extra "zz"
  refine (tok_new_ (tv := .str [97, 10]) G S.up (R.le (by decide)) ⟨_, rfl⟩).mono ?_
  k_extra "tok"
theorem read_string_q (G : GG w hT) (up : Grown hT hE) (room : Room A 4) {t : Tok} (hd : X.T.drop pos = 39 :: 92 :: 39 :: 39 :: r) (lc : LexC prog w hT hE X bl [] (lexAl X pos (sgn X.T pos) j bl cur ahead)) (jk : j.ok pos) :
    W prog w A (call (.ref 448) [.ref X.l, .int 39 t] []) hE fun v h' => TokV h' v 286 (.str [39]) ∧ Out prog w hT hE X bl (pos + 4) [39, 39, 39] cur ahead h' := by
  refine W_lex (rest := []) (fr := [(Str.ofString "self", some (.ref X.l)), (Str.ofString "quote", some (.int 39 t))]) G up room (k_read_string _) (c_read_string _) rfl (b_read_string _ _) f_read_string rfl rfl lc ?_
  intro L h S R Q0 q0
  have hd1 := at_next hd
  have hd2 := at_next hd1
  have hd3 := at_next hd2
  have e0 : sgn X.T pos = 39 := at_sgn hd
  have e1 : sgn X.T (pos + 1) = 92 := at_sgn hd1
  have e2 : sgn X.T (pos + 1 + 1) = 39 := at_sgn hd2
  have e3 : sgn X.T (pos + 1 + 1 + 1) = 39 := at_sgn hd3
  k_extra "zz"
  refine (read_escape_q G S.up (R.le (by decide)) (by assumption) (by decide) S.p.c jk).mono ?_
  k_extra "lx"
  k_extra "zz"
  k_extra "bs"
  k_extra "zz"
  refine (tok_new_ (tv := .str [39]) G S.up (R.le (by decide)) ⟨_, rfl⟩).mono ?_
  k_extra "tok"
end
section
variable {A : Around} {hE h : Heap} {X : LX} {bl : Addr} {bs r : List UInt8} {b : UInt8} {pos : Nat} {sg : Int} {j : LJ} {cur ahead : Value}
theorem read_long0_ (G : GG w hT) (up : Grown hT hE) (room : Room A 4) {t : Tok} (hd : X.T.drop pos = 91 :: 107 :: 10 :: 93 :: 93 :: r) (lc : LexC prog w hT hE X bl [91] (lexAl X pos (sgn X.T pos) j bl cur ahead)) (jk : j.ok pos) :
    W prog w A (call (.ref 434) [.ref X.l, .int 0 t, .bool true] []) hE fun v h' => (∃ t, v = .bytes [107, 10].toArray t) ∧ Out prog w hT hE X bl (pos + 5) [91, 91, 107, 10, 93, 93] cur ahead h' := by
  refine W_lex (rest := [Str.ofString "begin"]) (fr := [(Str.ofString "self", some (.ref X.l)), (Str.ofString "level", some (.int 0 t)), (Str.ofString "is_text", some (.bool true)), (Str.ofString "begin", none)]) G up room (k_read_long _) (c_read_long _) rfl (b_read_long _ _ _) f_read_long rfl rfl lc ?_
  intro L h S R Q0 q0
  have hd1 := at_next hd
  have hd2 := at_next hd1
  have hd3 := at_next hd2
  have hd4 := at_next hd3
  have e0 : sgn X.T pos = 91 := at_sgn hd
  have e1 : sgn X.T (pos + 1) = 107 := at_sgn hd1
  have e2 : sgn X.T (pos + 1 + 1) = 10 := at_sgn hd2
  have e3 : sgn X.T (pos + 1 + 1 + 1) = 93 := at_sgn hd3
  have e4 : sgn X.T (pos + 1 + 1 + 1 + 1) = 93 := at_sgn hd4
  k_extra "zz"
  refine (end_line1_ G S.up (R.le (by decide)) (at_lt hd2) (by rw [e3]; decide) S.p.c jk).mono ?_
  k_extra "lx"
  k_extra "zz"
  refine (read_level0_ G S.up (R.le (by decide)) hd3 (by decide) (by rw [e4]; decide) S.p.c jk).mono ?_
  k_extra "lv"
  rw [e4]
  k_extra "zz"
  k_extra "bs"
  k_extra "zz"
  exact ⟨⟨_, rfl⟩, S.out jk⟩
theorem read_long1_ (G : GG w hT) (up : Grown hT hE) (room : Room A 4) {t : Tok} (hd : X.T.drop pos = 91 :: 32 :: 93 :: 93 :: 10 :: 93 :: 61 :: 93 :: r) (lc : LexC prog w hT hE X bl [] (lexAl X pos (sgn X.T pos) j bl cur ahead)) (jk : j.ok pos) :
    W prog w A (call (.ref 434) [.ref X.l, .int 1 t, .bool false] []) hE fun v h' => (∃ t l, v = .bytes l t) ∧ ∃ bs', Out prog w hT hE X bl (pos + 8) bs' cur ahead h' := by
  refine W_lex (rest := [Str.ofString "begin"]) (fr := [(Str.ofString "self", some (.ref X.l)), (Str.ofString "level", some (.int 1 t)), (Str.ofString "is_text", some (.bool false)), (Str.ofString "begin", none)]) G up room (k_read_long _) (c_read_long _) rfl (b_read_long _ _ _) f_read_long rfl rfl lc ?_
  intro L h S R Q0 q0
  have hd1 := at_next hd
  have hd2 := at_next hd1
  have hd3 := at_next hd2
  have hd4 := at_next hd3
  have hd5 := at_next hd4
  have hd6 := at_next hd5
  have hd7 := at_next hd6
  have e0 : sgn X.T pos = 91 := at_sgn hd
  have e1 : sgn X.T (pos + 1) = 32 := at_sgn hd1
  have e2 : sgn X.T (pos + 1 + 1) = 93 := at_sgn hd2
  have e3 : sgn X.T (pos + 1 + 1 + 1) = 93 := at_sgn hd3
  have e4 : sgn X.T (pos + 1 + 1 + 1 + 1) = 10 := at_sgn hd4
  have e5 : sgn X.T (pos + 1 + 1 + 1 + 1 + 1) = 93 := at_sgn hd5
  have e6 : sgn X.T (pos + 1 + 1 + 1 + 1 + 1 + 1) = 61 := at_sgn hd6
  have e7 : sgn X.T (pos + 1 + 1 + 1 + 1 + 1 + 1 + 1) = 93 := at_sgn hd7
  k_extra "zz"
  refine (read_level0_ G S.up (R.le (by decide)) hd2 (by decide) (by rw [e3]; decide) S.p.c jk).mono ?_
  k_extra "lv"
  rw [e3]
  k_extra "zz"
  refine (read_level0_ G S.up (R.le (by decide)) hd3 (by decide) (by rw [e4]; decide) S.p.c jk).mono ?_
  k_extra "lv"
  rw [e4]
  k_extra "zz"
  refine (end_line1_ G S.up (R.le (by decide)) (at_lt hd4) (by rw [e5]; decide) S.p.c jk).mono ?_
  k_extra "lx"
  k_extra "zz"
  k_extra "bsr"
  k_extra "zz"
  refine (read_level1_ G S.up (R.le (by decide)) hd5 (by decide) (by decide) S.p.c jk).mono ?_
  k_extra "lv"
  k_extra "zz"
  k_extra "bs"
  k_extra "zz"
  exact ⟨⟨_, _, rfl⟩, _, S.out jk⟩
end
theorem Kpre.look {f : List (List UInt8 × Value)} (k : Kpre f 21) {l : List UInt8} (h : l ∉ words) : valueAt f l = none := by
  unfold valueAt
  have : f.find? (fun kv => decide (kv.1 = l)) = none := by
    rw [List.find?_eq_none]
    intro p hp e
    have e : p.1 = l := by simpa using e
    have m : p.1 ∈ f.map (·.1) := List.mem_map_of_mem (f := (·.1)) hp
    rw [k.keys] at m
    exact h (e ▸ List.mem_of_mem_take m)
  rw [this]; rfl
theorem Kpre.first {f : List (List UInt8 × Value)} (k : Kpre f 21) : ∃ t, valueAt f [97, 110, 100] = some (.int 257 t) := by
  cases f with
  | nil =>
    have := congrArg List.length k.keys
    rw [List.length_take, words_len] at this
    cases this
  | cons p f =>
    obtain ⟨t, e⟩ := k.vals 0 p rfl
    have e2 : p.1 = [97, 110, 100] := by
      have := congrArg List.head? k.keys
      rw [List.map_cons, List.head?_cons, List.head?_take, if_neg (by decide)] at this
      have e3 : words.head? = some [97, 110, 100] := by decide +kernel
      rw [e3] at this
      injection this
    refine ⟨t, ?_⟩
    unfold valueAt
    rw [List.find?_cons_of_pos (by simpa using e2)]
    show some p.2 = _
    rw [e]; rfl
section
variable {A : Around} {hE h : Heap} {X : LX} {bl : Addr} {bs r : List UInt8} {b : UInt8} {pos : Nat} {sg : Int} {j : LJ} {cur ahead : Value}
theorem D_getm {d : Addr} {f : List (List UInt8 × Value)} {pl : Sem Bool} {Q : Value × List Value → Heap → Prop} (m : BD prog w h d f) (q : Q (.builtin "dict.get", [.ref d]) h) : W prog w A (getMethod (.ref d) (Str.ofString "get") pl) h Q :=
  W.any fun g dd tk os QQ EE k => getMethod_builtin (s := ⟨h, g, dd, tk, os⟩) m.mapOf.typeIs PySem.F.plainAttrs_dict PySem.F.slot_dict_get PySem.F.type_dict_get m.mapOf.noDict (k _ _ _ q)
theorem read_level0_t (G : GG w hT) (up : Grown hT hE) (room : Room A 3) (hd : X.T.drop pos = b :: b :: r) (hb : bs.length < 900) (h61 : (b.toNat : Int) ≠ 61) (lc : LexC prog w hT hE X bl bs (lexAl X pos (sgn X.T pos) j bl cur ahead)) (jk : j.ok pos) :
    W prog w A (call (.ref 427) [.ref X.l] []) hE fun v h' => (∃ t, v = .int 0 t) ∧ Out prog w hT hE X bl (pos + 1) (bs ++ [b]) cur ahead h' := by
  have := read_level0_ G up room hd hb (by rw [at_sgn (at_next hd)]; exact h61) lc jk
  rw [if_pos (at_sgn (at_next hd))] at this
  exact this
theorem read_bracket_ (G : GG w hT) (up : Grown hT hE) (room : Room A 5) (hd : X.T.drop pos = 91 :: 91 :: 107 :: 10 :: 93 :: 93 :: r) (lc : LexC prog w hT hE X bl [] (lexAl X pos (sgn X.T pos) j bl cur ahead)) (jk : j.ok pos) :
    W prog w A (call (.ref 420) [.ref X.l] []) hE fun v h' => TokV h' v 286 (.str [107, 10]) ∧ Out prog w hT hE X bl (pos + 6) [91, 91, 107, 10, 93, 93] cur ahead h' := by
  refine W_lex (rest := [Str.ofString "level"]) (fr := [(Str.ofString "self", some (.ref X.l)), (Str.ofString "level", none)]) G up room (k_read_bracket _) (c_read_bracket _) rfl (b_read_bracket _) f_read_bracket rfl rfl lc ?_
  intro L h S R Q0 q0
  k_extra "ww"
  refine (read_level0_t G S.up (R.le (by decide)) hd (by decide) (by decide) S.p.c jk).mono ?_
  k_extra "lv"
  k_extra "dd"
  refine (read_long0_ G S.up (R.le (by decide)) (at_next hd) S.p.c jk).mono ?_
  k_extra "lv"
  k_extra "dd"
  refine (tok_new_ (tv := .str [107, 10]) G S.up (R.le (by decide)) ⟨_, rfl⟩).mono ?_
  k_extra "tok"
theorem read_dots2_ (G : GG w hT) (up : Grown hT hE) (room : Room A 4) (hd : X.T.drop pos = 46 :: 46 :: r) (hs : sgn X.T (pos + 1 + 1) ≠ 46) (lc : LexC prog w hT hE X bl [] (lexAl X pos (sgn X.T pos) j bl cur ahead)) (jk : j.ok pos) :
    W prog w A (call (.ref 399) [.ref X.l] []) hE fun v h' => TokV h' v 278 .none ∧ Out prog w hT hE X bl (pos + 2) [46, 46] cur ahead h' := by
  refine W_lex (rest := []) (fr := [(Str.ofString "self", some (.ref X.l))]) G up room (k_read_dots _) (c_read_dots _) rfl (b_read_dots _) f_read_dots rfl rfl lc ?_
  intro L h S R Q0 q0
  have hd1 := at_next hd
  k_extra "zz"
  refine (keep_if_t G S.up (R.le (by decide)) hd1 (by decide) x1 (.cons _ _ .nil) (by decide) S.p.c jk).mono ?_
  k_extra "lx"
  k_extra "zz"
  refine (keep_if_f G S.up (R.le (by decide)) x1 (.cons _ _ .nil) (by simpa using hs) S.p.c jk).mono ?_
  k_extra "lx"
  k_extra "zz"
  k_extra "zt"
theorem read_dots3_ (G : GG w hT) (up : Grown hT hE) (room : Room A 4) (hd : X.T.drop pos = 46 :: 46 :: 46 :: r) (lc : LexC prog w hT hE X bl [] (lexAl X pos (sgn X.T pos) j bl cur ahead)) (jk : j.ok pos) :
    W prog w A (call (.ref 399) [.ref X.l] []) hE fun v h' => TokV h' v 279 .none ∧ Out prog w hT hE X bl (pos + 3) [46, 46, 46] cur ahead h' := by
  refine W_lex (rest := []) (fr := [(Str.ofString "self", some (.ref X.l))]) G up room (k_read_dots _) (c_read_dots _) rfl (b_read_dots _) f_read_dots rfl rfl lc ?_
  intro L h S R Q0 q0
  have hd1 := at_next hd
  have hd2 := at_next hd1
  k_extra "zz"
  refine (keep_if_t G S.up (R.le (by decide)) hd1 (by decide) x1 (.cons _ _ .nil) (by decide) S.p.c jk).mono ?_
  k_extra "lx"
  k_extra "zz"
  refine (keep_if_t G S.up (R.le (by decide)) hd2 (by decide) x1 (.cons _ _ .nil) (by decide) S.p.c jk).mono ?_
  k_extra "lx"
  k_extra "zz"
  k_extra "zt"
theorem read_le_ (G : GG w hT) (up : Grown hT hE) (room : Room A 3) {t : Tok} (hd : X.T.drop pos = 60 :: 61 :: r) (lc : LexC prog w hT hE X bl bs (lexAl X pos (sgn X.T pos) j bl cur ahead)) (jk : j.ok pos) :
    W prog w A (call (.ref 392) [.ref X.l, .int 60 t] []) hE fun v h' => TokV h' v 282 .none ∧ Out prog w hT hE X bl (pos + 2) bs cur ahead h' := by
  refine W_lex (rest := []) (fr := [(Str.ofString "self", some (.ref X.l)), (Str.ofString "sign", some (.int 60 t))]) G up room (k_read_compared _) (c_read_compared _) rfl (b_read_compared _ _) f_read_compared rfl rfl lc ?_
  intro L h S R Q0 q0
  have hd1 := at_next hd
  have e1 : sgn X.T (pos + 1) = 61 := at_sgn hd1
  k_extra "zz"
  k_extra "zt"
theorem read_ne_ (G : GG w hT) (up : Grown hT hE) (room : Room A 3) {t : Tok} (hd : X.T.drop pos = 126 :: 61 :: r) (lc : LexC prog w hT hE X bl bs (lexAl X pos (sgn X.T pos) j bl cur ahead)) (jk : j.ok pos) :
    W prog w A (call (.ref 392) [.ref X.l, .int 126 t] []) hE fun v h' => TokV h' v 283 .none ∧ Out prog w hT hE X bl (pos + 2) bs cur ahead h' := by
  refine W_lex (rest := []) (fr := [(Str.ofString "self", some (.ref X.l)), (Str.ofString "sign", some (.int 126 t))]) G up room (k_read_compared _) (c_read_compared _) rfl (b_read_compared _ _) f_read_compared rfl rfl lc ?_
  intro L h S R Q0 q0
  have hd1 := at_next hd
  have e1 : sgn X.T (pos + 1) = 61 := at_sgn hd1
  k_extra "zz"
  k_extra "zt"
end
section
variable {A : Around} {hE h : Heap} {X : LX} {bl : Addr} {bs r wd : List UInt8} {b : UInt8} {pos : Nat} {sg : Int} {j : LJ} {cur ahead : Value}
theorem drop_word {T : List UInt8} {i : Nat} (hd : T.drop pos = wd ++ r) (hi : i < wd.length) : T.drop (pos + i) = wd[i] :: (wd.drop (i + 1) ++ r) := by
  rw [← List.drop_drop, hd, List.drop_append_of_le_length (Nat.le_of_lt hi), List.drop_eq_getElem_cons hi]; rfl
theorem read_word_ (G : GG w hT) (up : Grown hT hE) (room : Room A 3) {k : Int} {tv : TV} (hd : X.T.drop pos = wd ++ 32 :: r) (hw : ∀ b ∈ wd, isNameZ b.toNat = true) (hz : wd.length ≤ 100)
    (hk : (valueAt X.f wd = none ∧ k = 285 ∧ tv = .str wd) ∨ ((∃ t, valueAt X.f wd = some (.int k t)) ∧ tv = .none)) (lc : LexC prog w hT hE X bl [] (lexAl X pos (sgn X.T pos) j bl cur ahead)) (jk : j.ok pos) :
    W prog w A (call (.ref 406) [.ref X.l] []) hE fun v h' => TokV h' v k tv ∧ Out prog w hT hE X bl (pos + wd.length) wd cur ahead h' := by
  refine W_lex (rest := [Str.ofString "word", Str.ofString "kind"]) (fr := [(Str.ofString "self", some (.ref X.l)), (Str.ofString "word", none), (Str.ofString "kind", none)]) G up room (k_read_word _) (c_read_word _) rfl (b_read_word _) f_read_word rfl rfl lc ?_
  intro L h S R Q0 q0
  k_extra "ww"
  refine CW_down (I := fun n h => ∃ i j bl1, n + i = wd.length ∧ j.ok (pos + i) ∧ LSt prog w hT hE X bl (callEnv fd_read_word L 406) [(Str.ofString "self", some (.ref X.l)), (Str.ofString "word", none), (Str.ofString "kind", none)] bl1 (wd.take i) (lexAl X (pos + i) (sgn X.T (pos + i)) j bl1 cur ahead) h) ?_ ?_ wd.length ⟨0, j, bl, rfl, jk, S⟩
  · clear S jk lc
    rintro n ih h ⟨i, j, bl1, en, jk, S⟩
    have hi : i < wd.length := by omega
    have hdi := drop_word hd hi
    have hn := hw wd[i] (List.getElem_mem hi)
    refine CW_turn fun Q2 q2 => ?_
    rw [at_sgn hdi] at S
    k_extra "ww"
    k_extra "nm"
    rw [hn]
    rw [← at_sgn hdi] at S
    k_extra "ww"
    refine (keep_and_move_ G S.up (R.le (by decide)) hdi (by rw [List.length_take]; omega) S.p.c jk).mono ?_
    k_extra "lx"
    k_extra "ww"
    have e : wd.take i ++ [wd[i]] = wd.take (i + 1) := (List.take_succ_eq_append_getElem hi).symm
    rw [e] at S
    exact ih _ ⟨i + 1, j, bl1, by omega, jk, S⟩
  · clear S jk lc
    rintro h ⟨i, j, bl1, en, jk, S⟩
    have hi : i = wd.length := by omega
    subst hi
    have hdi : X.T.drop (pos + wd.length) = 32 :: r := by rw [← List.drop_drop, hd]; simp
    have es : sgn X.T (pos + wd.length) = 32 := at_sgn hdi
    rw [List.take_length] at S
    have hz2 : wd.length < 15000000 := by omega
    refine CW_turn fun Q2 q2 => ?_
    k_extra "zz"
    k_extra "zz"
    refine D_getm S.p.c.k ?_
    k_extra "zz"
    refine D_get S.p.c.k S.p.c.ks ?_
    rcases hk with ⟨ek, rfl, rfl⟩ | ⟨⟨t, ek⟩, rfl⟩
    · rw [ek]
      k_extra "zz"
      refine (tok_new_ (tv := .str wd) G S.up (R.le (by decide)) ⟨_, rfl⟩).mono ?_
      k_extra "tok"
    · rw [ek]
      k_extra "zz"
      k_extra "zt"
end
section
variable {A : Around} {hE h : Heap} {X : LX} {bl : Addr} {bs r wd : List UInt8} {b : UInt8} {pos : Nat} {sg : Int} {j : LJ} {cur ahead : Value}
theorem read_num12_ (G : GG w hT) (up : Grown hT hE) (room : Room A 5) (hd : X.T.drop pos = 49 :: 50 :: 32 :: r) (lc : LexC prog w hT hE X bl [] (lexAl X pos (sgn X.T pos) j bl cur ahead)) (jk : j.ok pos) :
    W prog w A (call (.ref 413) [.ref X.l] []) hE fun v h' => TokV h' v 284 (.num 12) ∧ Out prog w hT hE X bl (pos + 2) [49, 50] cur ahead h' := by
  refine W_lex (rest := [Str.ofString "value"]) (fr := [(Str.ofString "self", some (.ref X.l)), (Str.ofString "value", none)]) G up room (k_read_numeral _) (c_read_numeral _) rfl (b_read_numeral _) f_read_numeral rfl rfl lc ?_
  intro L h S R Q0 q0
  have hd1 := at_next hd
  have hd2 := at_next hd1
  have e0 : sgn X.T pos = 49 := at_sgn hd
  have e1 : sgn X.T (pos + 1) = 50 := at_sgn hd1
  have e2 : sgn X.T (pos + 1 + 1) = 32 := at_sgn hd2
  k_extra "zz"
  refine (keep_if_f G S.up (R.le (by decide)) x1 (.cons _ _ (.cons _ _ .nil)) (by rw [e2]; decide) S.p.c jk).mono ?_
  k_extra "lx"
  k_extra "zz"
  refine (str_to_number_ (l := [49, 50]) (n := 12) G S.up (R.le (by decide)) S.p.c.m (by decide)).mono ?_
  k_extra "int"
  k_extra "zz"
  refine (tok_new_ (tv := .num 12) G S.up (R.le (by decide)) ⟨_, rfl⟩).mono ?_
  k_extra "tok"
theorem read_num1F_ (G : GG w hT) (up : Grown hT hE) (room : Room A 5) (hd : X.T.drop pos = 48 :: 120 :: 49 :: 70 :: 32 :: r) (lc : LexC prog w hT hE X bl [] (lexAl X pos (sgn X.T pos) j bl cur ahead)) (jk : j.ok pos) :
    W prog w A (call (.ref 413) [.ref X.l] []) hE fun v h' => TokV h' v 284 (.num 31) ∧ Out prog w hT hE X bl (pos + 4) [48, 120, 49, 70] cur ahead h' := by
  refine W_lex (rest := [Str.ofString "value"]) (fr := [(Str.ofString "self", some (.ref X.l)), (Str.ofString "value", none)]) G up room (k_read_numeral _) (c_read_numeral _) rfl (b_read_numeral _) f_read_numeral rfl rfl lc ?_
  intro L h S R Q0 q0
  have hd1 := at_next hd
  have hd2 := at_next hd1
  have hd3 := at_next hd2
  have hd4 := at_next hd3
  have e0 : sgn X.T pos = 48 := at_sgn hd
  have e1 : sgn X.T (pos + 1) = 120 := at_sgn hd1
  have e2 : sgn X.T (pos + 1 + 1) = 49 := at_sgn hd2
  have e3 : sgn X.T (pos + 1 + 1 + 1) = 70 := at_sgn hd3
  have e4 : sgn X.T (pos + 1 + 1 + 1 + 1) = 32 := at_sgn hd4
  k_extra "zz"
  refine (keep_if_f G S.up (R.le (by decide)) x1 (.cons _ _ (.cons _ _ .nil)) (by rw [e1]; decide) S.p.c jk).mono ?_
  k_extra "lx"
  k_extra "zz"
  refine (str_to_number_ (l := [48, 120, 49, 70]) (n := 31) G S.up (R.le (by decide)) S.p.c.m (by decide)).mono ?_
  k_extra "int"
  k_extra "zz"
  refine (tok_new_ (tv := .num 31) G S.up (R.le (by decide)) ⟨_, rfl⟩).mono ?_
  k_extra "tok"
theorem skip_com1_ (G : GG w hT) (up : Grown hT hE) (room : Room A 5) (hd : X.T.drop pos = 45 :: 45 :: 122 :: 10 :: r) (lc : LexC prog w hT hE X bl [] (lexAl X pos (sgn X.T pos) j bl cur ahead)) (jk : j.ok pos) :
    W prog w A (call (.ref 385) [.ref X.l] []) hE fun v h' => v = .none ∧ Out prog w hT hE X bl (pos + 3) [] cur ahead h' := by
  refine W_lex (rest := [Str.ofString "level"]) (fr := [(Str.ofString "self", some (.ref X.l)), (Str.ofString "level", none)]) G up room (k_skip_comment _) (c_skip_comment _) rfl (b_skip_comment _) f_skip_comment rfl rfl lc ?_
  intro L h S R Q0 q0
  have hd1 := at_next hd
  have hd2 := at_next hd1
  have hd3 := at_next hd2
  have e2 : sgn X.T (pos + 1 + 1) = 122 := at_sgn hd2
  have e3 : sgn X.T (pos + 1 + 1 + 1) = 10 := at_sgn hd3
  k_extra "zz"
  exact S.out jk
theorem skip_com2_ (G : GG w hT) (up : Grown hT hE) (room : Room A 5) (hd : X.T.drop pos = 45 :: 45 :: 91 :: 61 :: 91 :: 32 :: 93 :: 93 :: 10 :: 93 :: 61 :: 93 :: r) (lc : LexC prog w hT hE X bl [] (lexAl X pos (sgn X.T pos) j bl cur ahead)) (jk : j.ok pos) :
    W prog w A (call (.ref 385) [.ref X.l] []) hE fun v h' => v = .none ∧ Out prog w hT hE X bl (pos + 12) [] cur ahead h' := by
  refine W_lex (rest := [Str.ofString "level"]) (fr := [(Str.ofString "self", some (.ref X.l)), (Str.ofString "level", none)]) G up room (k_skip_comment _) (c_skip_comment _) rfl (b_skip_comment _) f_skip_comment rfl rfl lc ?_
  intro L h S R Q0 q0
  have hd1 := at_next hd
  have hd2 := at_next hd1
  have hd3 := at_next hd2
  have hd4 := at_next hd3
  have e2 : sgn X.T (pos + 1 + 1) = 91 := at_sgn hd2
  k_extra "zz"
  refine (read_level1_ G S.up (R.le (by decide)) hd2 (by decide) (by decide) S.p.c jk).mono ?_
  k_extra "lv"
  k_extra "zz"
  refine (clear_ G S.up (R.le (by decide)) S.p.c jk).mono ?_
  k_extra "lx"
  k_extra "zz"
  refine (read_long1_ G S.up (R.le (by decide)) hd4 S.p.c jk).mono ?_
  rintro _ h ⟨⟨_, _, rfl⟩, bs1, j, bl1, lc, jk, k, nb⟩
  replace S := S.lex lc k nb
  clear lc k nb
  refine ⟨(fun _ e => nomatch e), ?_⟩
  k_extra "zz"
  refine (clear_ G S.up (R.le (by decide)) S.p.c jk).mono ?_
  k_extra "lx"
  k_extra "zz"
  exact S.out jk
end
inductive Skip (T : List UInt8) (p : Nat) : Nat → Prop
  | sp (r : List UInt8) (hd : T.drop p = 32 :: r) : Skip T p (p + 1)
  | nl (r : List UInt8) (hd : T.drop p = 10 :: r) (hn : isNewlineZ (sgn T (p + 1)) = false) : Skip T p (p + 1)
  | crlf (r : List UInt8) (hd : T.drop p = 13 :: 10 :: r) : Skip T p (p + 2)
  | com1 (r : List UInt8) (hd : T.drop p = 45 :: 45 :: 122 :: 10 :: r) : Skip T p (p + 3)
  | com2 (r : List UInt8) (hd : T.drop p = 45 :: 45 :: 91 :: 61 :: 91 :: 32 :: 93 :: 93 :: 10 :: 93 :: 61 :: 93 :: r) : Skip T p (p + 12)
inductive Skips (T : List UInt8) : Nat → Nat → Nat → Prop
  | zero (p : Nat) : Skips T p 0 p
  | succ (p q n p' : Nat) (a : Skip T p q) (b : Skips T q n p') : Skips T p (n + 1) p'
noncomputable def NoSkip (T : List UInt8) (p : Nat) : Prop := isNewlineZ (sgn T p) = false ∧ isBlankZ (sgn T p) = false ∧ (sgn T p = 45 → sgn T (p + 1) ≠ 45)
inductive Tk (T : List UInt8) (p : Nat) : Int → TV → Nat → Prop
  | eos (hd : T.drop p = []) : Tk T p 287 .none p
  | strn (r : List UInt8) (hd : T.drop p = 34 :: 97 :: 92 :: 110 :: 34 :: r) : Tk T p 286 (.str [97, 10]) (p + 5)
  | strq (r : List UInt8) (hd : T.drop p = 39 :: 92 :: 39 :: 39 :: r) : Tk T p 286 (.str [39]) (p + 4)
  | brk (r : List UInt8) (hd : T.drop p = 91 :: 91 :: 107 :: 10 :: 93 :: 93 :: r) : Tk T p 286 (.str [107, 10]) (p + 6)
  | dots2 (r : List UInt8) (hd : T.drop p = 46 :: 46 :: r) (hs : sgn T (p + 1 + 1) ≠ 46) : Tk T p 278 .none (p + 2)
  | dots3 (r : List UInt8) (hd : T.drop p = 46 :: 46 :: 46 :: r) : Tk T p 279 .none (p + 3)
  | n12 (r : List UInt8) (hd : T.drop p = 49 :: 50 :: 32 :: r) : Tk T p 284 (.num 12) (p + 2)
  | n1F (r : List UInt8) (hd : T.drop p = 48 :: 120 :: 49 :: 70 :: 32 :: r) : Tk T p 284 (.num 31) (p + 4)
  | wx (r : List UInt8) (hd : T.drop p = 120 :: 32 :: r) : Tk T p 285 (.str [120]) (p + 1)
  | wand (r : List UInt8) (hd : T.drop p = 97 :: 110 :: 100 :: 32 :: r) : Tk T p 257 .none (p + 3)
  | we1 (r : List UInt8) (hd : T.drop p = 95 :: 101 :: 49 :: 32 :: r) : Tk T p 285 (.str [95, 101, 49]) (p + 3)
  | minus (r : List UInt8) (hd : T.drop p = 45 :: 32 :: r) : Tk T p 45 .none (p + 1)
  | le (r : List UInt8) (hd : T.drop p = 60 :: 61 :: r) : Tk T p 282 .none (p + 2)
  | ne (r : List UInt8) (hd : T.drop p = 126 :: 61 :: r) : Tk T p 283 .none (p + 2)
  | paren (r : List UInt8) (hd : T.drop p = 40 :: r) : Tk T p 40 .none (p + 1)
theorem noskip_of {T : List UInt8} {p : Nat} {s : Int} (e : sgn T p = s) (h : (!isNewlineZ s && !isBlankZ s && !decide (s = 45)) = true) : NoSkip T p := by
  simp only [Bool.and_eq_true, Bool.not_eq_true', decide_eq_false_iff_not] at h
  exact ⟨by rw [e]; exact h.1.1, by rw [e]; exact h.1.2, fun x => absurd (e.symm.trans x) h.2⟩
theorem Tk.noskip {T : List UInt8} {p p' : Nat} {k : Int} {tv : TV} (t : Tk T p k tv p') : NoSkip T p := by
  cases t with
  | eos hd => exact noskip_of (at_end hd) (by decide)
  | minus r hd => exact ⟨by rw [at_sgn hd]; decide, by rw [at_sgn hd]; decide, fun _ => by rw [at_sgn (at_next hd)]; decide⟩
  | strn r hd => exact noskip_of (at_sgn hd) (by decide)
  | strq r hd => exact noskip_of (at_sgn hd) (by decide)
  | brk r hd => exact noskip_of (at_sgn hd) (by decide)
  | dots2 r hd => exact noskip_of (at_sgn hd) (by decide)
  | dots3 r hd => exact noskip_of (at_sgn hd) (by decide)
  | n12 r hd => exact noskip_of (at_sgn hd) (by decide)
  | n1F r hd => exact noskip_of (at_sgn hd) (by decide)
  | wx r hd => exact noskip_of (at_sgn hd) (by decide)
  | wand r hd => exact noskip_of (at_sgn hd) (by decide)
  | we1 r hd => exact noskip_of (at_sgn hd) (by decide)
  | le r hd => exact noskip_of (at_sgn hd) (by decide)
  | ne r hd => exact noskip_of (at_sgn hd) (by decide)
  | paren r hd => exact noskip_of (at_sgn hd) (by decide)
noncomputable def TOut (prog : Program) (w : World) (hT h : Heap) (X : LX) (bl : Addr) (pos : Nat) (k : Int) (tv : TV) (cur ahead : Value) (v : Value) (h' : Heap) : Prop :=
  TokV h' v k tv ∧ ∃ bs', bs'.length ≤ 100 ∧ Out prog w hT h X bl pos bs' cur ahead h'
theorem rout_ {hE h h' : Heap} {X : LX} {bl0 bl : Addr} {bs0 bs : List UInt8} {al : List (Str × Value)} {env : Env} {fr : Fra} {pos : Nat} {k : Int} {tv : TV} {cur ahead v : Value} (S : LSt prog w hT hE X bl0 env fr bl bs0 al h) (hb : bs.length ≤ 100) (x : TokV h' v k tv ∧ Out prog w hT h X bl pos bs cur ahead h') : TOut prog w hT hE X bl0 pos k tv cur ahead v h' :=
  let ⟨t, j, bl1, lc, jk, kk, nb⟩ := x
  ⟨t, bs, hb, (S.lex lc kk nb).out jk⟩
section
variable {A : Around} {hE h : Heap} {X : LX} {bl : Addr} {bs r wd : List UInt8} {b : UInt8} {pos pos' : Nat} {sg : Int} {j : LJ} {cur ahead : Value}
theorem skip_blank_t (G : GG w hT) (up : Grown hT hE) (room : Room A 6) (sk : Skip X.T pos pos') (lc : LexC prog w hT hE X bl [] (lexAl X pos (sgn X.T pos) j bl cur ahead)) (jk : j.ok pos) :
    W prog w A (call (.ref 371) [.ref X.l] []) hE fun v h' => v = .bool true ∧ Out prog w hT hE X bl pos' [] cur ahead h' := by
  refine W_lex (rest := []) (fr := [(Str.ofString "self", some (.ref X.l))]) G up room (k_skip_blank _) (c_skip_blank _) rfl (b_skip_blank _) f_skip_blank rfl rfl lc ?_
  intro L h S R Q0 q0
  cases sk with
  | sp r hd =>
    have e0 : sgn X.T pos = 32 := at_sgn hd
    k_extra "zz"
    exact S.out jk
  | nl r hd hn =>
    have e0 : sgn X.T pos = 10 := at_sgn hd
    k_extra "zz"
    refine (end_line1_ G S.up (R.le (by decide)) (at_lt hd) hn S.p.c jk).mono ?_
    k_extra "lx"
    k_extra "zz"
    exact S.out jk
  | crlf r hd =>
    have e0 : sgn X.T pos = 13 := at_sgn hd
    have e1 : sgn X.T (pos + 1) = 10 := at_sgn (at_next hd)
    k_extra "zz"
    refine (end_line2_ G S.up (R.le (by decide)) (at_lt hd) (by rw [e1]; decide) (by rw [e1, e0]; decide) S.p.c jk).mono ?_
    k_extra "lx"
    k_extra "zz"
    exact S.out jk
  | com1 r hd =>
    have e0 : sgn X.T pos = 45 := at_sgn hd
    have e1 : sgn X.T (pos + 1) = 45 := at_sgn (at_next hd)
    k_extra "zz"
    refine (sign_behind_ G S.up (R.le (by decide)) S.p.c jk).mono ?_
    k_extra "lv"
    rw [e1]
    k_extra "zz"
    refine (skip_com1_ G S.up (R.le (by decide)) hd S.p.c jk).mono ?_
    k_extra "lx"
    k_extra "zz"
    exact S.out jk
  | com2 r hd =>
    have e0 : sgn X.T pos = 45 := at_sgn hd
    have e1 : sgn X.T (pos + 1) = 45 := at_sgn (at_next hd)
    k_extra "zz"
    refine (sign_behind_ G S.up (R.le (by decide)) S.p.c jk).mono ?_
    k_extra "lv"
    rw [e1]
    k_extra "zz"
    refine (skip_com2_ G S.up (R.le (by decide)) hd S.p.c jk).mono ?_
    k_extra "lx"
    k_extra "zz"
    exact S.out jk
theorem skip_blank_f (G : GG w hT) (up : Grown hT hE) (room : Room A 6) (ns : NoSkip X.T pos) (lc : LexC prog w hT hE X bl [] (lexAl X pos (sgn X.T pos) j bl cur ahead)) (jk : j.ok pos) :
    W prog w A (call (.ref 371) [.ref X.l] []) hE fun v h' => v = .bool false ∧ Out prog w hT hE X bl pos [] cur ahead h' := by
  refine W_lex (rest := []) (fr := [(Str.ofString "self", some (.ref X.l))]) G up room (k_skip_blank _) (c_skip_blank _) rfl (b_skip_blank _) f_skip_blank rfl rfl lc ?_
  intro L h S R Q0 q0
  k_extra "ww"
  k_extra "nl"
  rw [ns.1]
  k_extra "ww"
  k_extra "bk"
  rw [ns.2.1]
  k_extra "ww"
  · refine (sign_behind_ G S.up (R.le (by decide)) S.p.c jk).mono ?_
    k_extra "lv"
    have e := ns.2.2 c
    k_extra "ww"
    · exact absurd (by assumption) e
    · exact S.out jk
  · exact S.out jk
end
section
variable {A : Around} {hE h : Heap} {X : LX} {bl : Addr} {bs r wd : List UInt8} {b : UInt8} {pos pos1 pos' n : Nat} {sg k : Int} {tv : TV} {j : LJ} {cur ahead : Value}
theorem read_ (G : GG w hT) (up : Grown hT hE) (room : Room A 7) (sks : Skips X.T pos n pos1) (tk : Tk X.T pos1 k tv pos') (lc : LexC prog w hT hE X bl bs (lexAl X pos (sgn X.T pos) j bl cur ahead)) (jk : j.ok pos) :
    W prog w A (call (.ref 364) [.ref X.l] []) hE fun v h' => TOut prog w hT hE X bl pos' k tv cur ahead v h' := by
  refine W_lex (rest := [Str.ofString "sign"]) (fr := [(Str.ofString "self", some (.ref X.l)), (Str.ofString "sign", none)]) G up room (k_read _) (c_read _) rfl (b_read _) f_read rfl rfl lc ?_
  intro L h S R Q0 q0
  k_extra "ww"
  refine (clear_ G S.up (R.le (by decide)) S.p.c jk).mono ?_
  k_extra "lx"
  k_extra "ww"
  refine CW_down (I := fun n h => ∃ p j bl1, Skips X.T p n pos1 ∧ j.ok p ∧ LSt prog w hT hE X bl (callEnv fd_read L 364) [(Str.ofString "self", some (.ref X.l)), (Str.ofString "sign", none)] bl1 [] (lexAl X p (sgn X.T p) j bl1 cur ahead) h) ?_ ?_ n ⟨pos, j, bl1, sks, jk, S⟩
  · clear S jk lc sks
    rintro n ih h ⟨p, j, bl1, sks, jk, S⟩
    cases sks with
    | succ _ q _ _ sk sks =>
    refine CW_turn fun Q2 q2 => ?_
    k_extra "ww"
    refine (skip_blank_t G S.up (R.le (by decide)) sk S.p.c jk).mono ?_
    k_extra "lx"
    k_extra "ww"
    exact ih _ ⟨q, j, bl1, sks, jk, S⟩
  · clear S jk lc sks
    rintro h ⟨p, j, bl1, sks, jk, S⟩
    cases sks with
    | zero _ =>
    refine CW_turn fun Q2 q2 => ?_
    k_extra "ww"
    refine (skip_blank_f G S.up (R.le (by decide)) tk.noskip S.p.c jk).mono ?_
    k_extra "lx"
    cases tk with
    | eos hd =>
      have e0 : sgn X.T pos1 = -1 := at_end hd
      k_extra "zz"
      refine (tok_new_ G S.up (R.le (by decide)) TV.is_none).mono ?_
      k_extra "rtok"
    | strn r hd =>
      have e0 : sgn X.T pos1 = 34 := at_sgn hd
      k_extra "zz"
      refine (read_string_n G S.up (R.le (by decide)) hd S.p.c jk).mono ?_
      k_extra "rout"
    | strq r hd =>
      have e0 : sgn X.T pos1 = 39 := at_sgn hd
      k_extra "zz"
      refine (read_string_q G S.up (R.le (by decide)) hd S.p.c jk).mono ?_
      k_extra "rout"
    | brk r hd =>
      have e0 : sgn X.T pos1 = 91 := at_sgn hd
      k_extra "zz"
      refine (read_bracket_ G S.up (R.le (by decide)) hd S.p.c jk).mono ?_
      k_extra "rout"
    | dots2 r hd hs =>
      have e0 : sgn X.T pos1 = 46 := at_sgn hd
      k_extra "zz"
      refine (read_dots2_ G S.up (R.le (by decide)) hd hs S.p.c jk).mono ?_
      k_extra "rout"
    | dots3 r hd =>
      have e0 : sgn X.T pos1 = 46 := at_sgn hd
      k_extra "zz"
      refine (read_dots3_ G S.up (R.le (by decide)) hd S.p.c jk).mono ?_
      k_extra "rout"
    | n12 r hd =>
      have e0 : sgn X.T pos1 = 49 := at_sgn hd
      k_extra "zz"
      refine (read_num12_ G S.up (R.le (by decide)) hd S.p.c jk).mono ?_
      k_extra "rout"
    | n1F r hd =>
      have e0 : sgn X.T pos1 = 48 := at_sgn hd
      k_extra "zz"
      refine (read_num1F_ G S.up (R.le (by decide)) hd S.p.c jk).mono ?_
      k_extra "rout"
    | wx r hd =>
      have e0 : sgn X.T pos1 = 120 := at_sgn hd
      k_extra "zz"
      refine (read_word_ (wd := [120]) G S.up (R.le (by decide)) hd (by decide) (by decide) (.inl ⟨S.p.c.kp.look (by decide +kernel), rfl, rfl⟩) S.p.c jk).mono ?_
      k_extra "rout"
    | wand r hd =>
      have e0 : sgn X.T pos1 = 97 := at_sgn hd
      k_extra "zz"
      refine (read_word_ (wd := [97, 110, 100]) G S.up (R.le (by decide)) hd (by decide) (by decide) (.inr ⟨S.p.c.kp.first, rfl⟩) S.p.c jk).mono ?_
      k_extra "rout"
    | we1 r hd =>
      have e0 : sgn X.T pos1 = 95 := at_sgn hd
      k_extra "zz"
      refine (read_word_ (wd := [95, 101, 49]) G S.up (R.le (by decide)) hd (by decide) (by decide) (.inl ⟨S.p.c.kp.look (by decide +kernel), rfl, rfl⟩) S.p.c jk).mono ?_
      k_extra "rout"
    | minus r hd =>
      have e0 : sgn X.T pos1 = 45 := at_sgn hd
      k_extra "zz"
      refine (tok_new_ G S.up (R.le (by decide)) TV.is_none).mono ?_
      k_extra "rtok"
    | le r hd =>
      have e0 : sgn X.T pos1 = 60 := at_sgn hd
      k_extra "zz"
      refine (read_le_ G S.up (R.le (by decide)) hd S.p.c jk).mono ?_
      k_extra "rout"
    | ne r hd =>
      have e0 : sgn X.T pos1 = 126 := at_sgn hd
      k_extra "zz"
      refine (read_ne_ G S.up (R.le (by decide)) hd S.p.c jk).mono ?_
      k_extra "rout"
    | paren r hd =>
      have e0 : sgn X.T pos1 = 40 := at_sgn hd
      k_extra "zz"
      refine (tok_new_ G S.up (R.le (by decide)) TV.is_none).mono ?_
      k_extra "rtok"
end
noncomputable def NTok (h : Heap) (x : Addr) : Prop := (∀ d, h.get? x ≠ some (instObj 262 d)) ∧ ∀ k t v, ¬ ADict h x (tokAl k t v)
theorem TokAt.keeps {h h' : Heap} {a : Addr} {k : Int} {tv : TV} {F : List Addr} (T : TokAt h a k tv) (K : Keeps h h' F) (n : ∀ x ∈ F, NTok h x) : TokAt h' a k tv := by
  obtain ⟨d, t, v, hv, I⟩ := T
  exact ⟨d, t, v, hv, I.keeps K (fun m => (n _ m).1 _ I.ob) (fun m => (n _ m).2 _ _ _ I.ad)⟩
theorem TokV.keeps {h h' : Heap} {v : Value} {k : Int} {tv : TV} {F : List Addr} (T : TokV h v k tv) (K : Keeps h h' F) (n : ∀ x ∈ F, NTok h x) : TokV h' v k tv := let ⟨a, e, t⟩ := T; ⟨a, e, t.keeps K n⟩
theorem NTok.none {h : Heap} {x : Addr} (e : h.get? x = none) : NTok h x := ⟨(fun d q => by rw [e] at q; cases q), fun k t v D => by obtain ⟨_, _, q, _⟩ := D; rw [e] at q; cases q⟩
theorem NTok.data {h : Heap} {x : Addr} {o : Obj} {es : Array DictEntry} {ep : Nat} {f : Str → Option Value} (q : h.get? x = some o) (hd : o.data = .dict es ep) (hf : ∀ y, nsFind es y = f y) (e : f (Str.ofString "kind") = Option.none) : NTok h x := by
  refine ⟨fun d q' => ?_, fun k t v D => ?_⟩
  · rw [q] at q'
    have := Option.some.inj q'
    subst this
    cases hd
  · obtain ⟨es', ep', q', sk', f', _⟩ := D
    rw [q] at q'
    have := Option.some.inj q'
    subst this
    have e1 : es' = es := by injection hd
    subst e1
    have := (hf _).symm.trans (f' (Str.ofString "kind"))
    rw [e] at this
    exact absurd this (by show Option.none ≠ some (Value.int k t); simp)
theorem NTok.ad {h : Heap} {x : Addr} {al : List (Str × Value)} (D : ADict h x al) (e : al.lookup (Str.ofString "kind") = Option.none) : NTok h x :=
  let ⟨_, _, q, _, f, _⟩ := D; NTok.data q rfl f e
theorem NTok.list {h : Heap} {x : Addr} {vs : List Value} (D : IsL h x vs) : NTok h x := by
  obtain ⟨n, e⟩ := D
  refine ⟨fun d q => ?_, fun k t v ⟨es, ep, q, _⟩ => ?_⟩
  · rw [e] at q; simp at q
  · rw [e] at q; simp [dictO] at q
theorem NTok.buf {h : Heap} {x : Addr} {bs : List UInt8} (D : IsB h x bs) : NTok h x := by
  unfold IsB at D
  refine ⟨fun d q => ?_, fun k t v ⟨es, ep, q, _⟩ => ?_⟩
  · rw [D] at q; simp [baO] at q
  · rw [D] at q; simp [dictO, baO] at q
theorem NTok.ns {h : Heap} {x : Addr} {f : Str → Option Value} (D : h.Ns x f) (e : f (Str.ofString "kind") = Option.none) : NTok h x := by
  obtain ⟨o, es, ep, q, hd, sk, r⟩ := D
  exact NTok.data q hd r e
section
variable {A : Around} {hE h h' : Heap} {X : LX} {bl0 bl bl' : Addr} {bs bs' : List UInt8} {al al' : List (Str × Value)} {env : Env} {fr fr' : Fra} {pos pos1 pos' n : Nat} {sg k : Int} {tv : TV} {j : LJ} {cur ahead : Value}
theorem LexC.ntok (c : LexC prog w hT h X bl bs al) (e : al.lookup (Str.ofString "kind") = none) : ∀ x ∈ [X.dl, bl], NTok h x := fun x m => by
  simp only [List.mem_cons, List.not_mem_nil, or_false] at m
  rcases m with rfl | rfl
  · exact NTok.ad c.i.ad e
  · exact NTok.buf c.b
theorem L_setK {name : Str} {v : Value} {Q : Unit → Heap → Prop} (S : LSt prog w hT hE X bl0 env fr bl bs al h) (G : GG w hT) (ht : takerIn (KK w.params) 465 name = some none) (hz : al.length ≤ 1000) (hd : (al.map (·.1)).Nodup) (hp : Put name v al al')
    (q : ∀ h', Keeps h h' [X.dl, bl] → LSt prog w hT hE X bl0 env fr bl bs al' h' → Q () h') : W prog w A (setAttr (.ref X.l) name v) h Q :=
  W_setPut (S.X G) S.p.c.i (ok_Lexer _) ht hz hd hp fun h' k I => by
    have c := S.p.c
    have n : ∀ x, x ≠ X.dl → x ∉ [X.dl] := fun x n m => n (by simpa using m)
    have k2 : Keeps h h' [X.dl, bl] := k.mono (all1 (.head _))
    exact q h' k2 (S.lex (bl' := bl) (bs' := bs) ⟨I, c.b.keeps k (n _ c.n2.2.1), c.m.keeps k (n _ c.n1.1.symm) (n _ c.n1.2.1.symm), c.k.keeps k (n _ c.n1.2.2.1.symm), c.kp, c.n1, c.n2, c.t1, c.t2, c.tz, c.ks⟩ k2 (.inl rfl))
end
section
theorem tac_mac5 : True := by
  k_with "w2" => (((with_reducible refine' L_setK S G ?ht ?hz ?hd ?hp ?_); (case ht => k_extra "lt"); (case hz => exact Nat.le_of_ble_eq_true rfl); (case hp => k_extra "put"); (case hd => exact nodupB_iff (by kernel_rfl)); (intro h k2 S2); (replace t1 := t1.keeps k2 (S.p.c.ntok rfl)); (replace S := S2); clear S2 k2))
  trivial
section
variable {A : Around} {hE h h' : Heap} {X : LX} {bl0 bl bl' : Addr} {bs bs' : List UInt8} {al al' : List (Str × Value)} {env : Env} {fr fr' : Fra} {pos pos1 pos' n : Nat} {sg k : Int} {tv : TV} {j : LJ} {cur ahead : Value}
theorem lex_next_n (G : GG w hT) (up : Grown hT hE) (room : Room A 8) (sks : Skips X.T pos n pos1) (tk : Tk X.T pos1 k tv pos') (lc : LexC prog w hT hE X bl bs (lexAl X pos (sgn X.T pos) j bl cur .none)) (jk : j.ok pos) :
    W prog w A (call (.ref 287) [.ref X.l] []) hE fun v h' => TokV h' v k tv ∧ ∃ bs', bs'.length ≤ 100 ∧ Out prog w hT hE X bl pos' bs' v .none h' := by
  refine W_lex (rest := []) (fr := [(Str.ofString "self", some (.ref X.l))]) G up room (k_next _) (c_next _) rfl (b_next _) f_next rfl rfl lc ?_
  intro L h S R Q0 q0
  k_extra "ww"
  refine (read_ (j := ⟨_, _, _, _, _, _⟩) G S.up R sks tk S.p.c jk).mono ?_
  rintro _ h ⟨⟨a1, rfl, t1⟩, bs1, hb1, j, bl1, lc, jk, k, nb⟩
  replace S := S.lex lc k nb
  clear lc k nb
  k_extra "ww"
  exact ⟨⟨a1, rfl, t1⟩, _, hb1, S.out6 jk⟩
theorem lex_next_a (G : GG w hT) (up : Grown hT hE) (room : Room A 8) {a : Addr} (hb : bs.length ≤ 100) (T : TokAt hE a k tv) (lc : LexC prog w hT hE X bl bs (lexAl X pos (sgn X.T pos) j bl cur (.ref a))) (jk : j.ok pos) :
    W prog w A (call (.ref 287) [.ref X.l] []) hE fun v h' => v = .ref a ∧ Out prog w hT hE X bl pos bs (.ref a) .none h' := by
  refine W_lex (rest := []) (fr := [(Str.ofString "self", some (.ref X.l))]) G up room (k_next _) (c_next _) rfl (b_next _) f_next rfl rfl lc ?_
  intro L h S R Q0 q0
  k_extra "ww"
  exact ⟨rfl, S.out6 jk⟩
theorem lex_look_n (G : GG w hT) (up : Grown hT hE) (room : Room A 8) (sks : Skips X.T pos n pos1) (tk : Tk X.T pos1 k tv pos') (lc : LexC prog w hT hE X bl bs (lexAl X pos (sgn X.T pos) j bl cur .none)) (jk : j.ok pos) :
    W prog w A (call (.ref 294) [.ref X.l] []) hE fun v h' => TokV h' v k tv ∧ ∃ bs', bs'.length ≤ 100 ∧ Out prog w hT hE X bl pos' bs' cur v h' := by
  refine W_lex (rest := []) (fr := [(Str.ofString "self", some (.ref X.l))]) G up room (k_lookahead _) (c_lookahead _) rfl (b_lookahead _) f_lookahead rfl rfl lc ?_
  intro L h S R Q0 q0
  k_extra "ww"
  refine (read_ G S.up R sks tk S.p.c jk).mono ?_
  rintro _ h ⟨⟨a1, rfl, t1⟩, bs1, hb1, j, bl1, lc, jk, k, nb⟩
  replace S := S.lex lc k nb
  clear lc k nb
  k_extra "ww"
  exact ⟨⟨a1, rfl, t1⟩, _, hb1, S.out6 jk⟩
theorem lex_look_a (G : GG w hT) (up : Grown hT hE) (room : Room A 8) {a : Addr} (hb : bs.length ≤ 100) (lc : LexC prog w hT hE X bl bs (lexAl X pos (sgn X.T pos) j bl cur (.ref a))) (jk : j.ok pos) :
    W prog w A (call (.ref 294) [.ref X.l] []) hE fun v h' => v = .ref a ∧ Out prog w hT hE X bl pos bs cur (.ref a) h' := by
  refine W_lex (rest := []) (fr := [(Str.ofString "self", some (.ref X.l))]) G up room (k_lookahead _) (c_lookahead _) rfl (b_lookahead _) f_lookahead rfl rfl lc ?_
  intro L h S R Q0 q0
  k_extra "ww"
  exact ⟨rfl, S.out jk⟩
end
end
section
variable {A : Around} {K : Frag} {hE h h' : Heap} {F : List Addr} {fr : Fra} {env : Env}
theorem W_fnB {f : Addr} {fd : FuncData} {oc : Value} {od : Option Addr} {osl : Array (Option Value)} {body : List Stmt} {args : List Value} {binds : List (Str × Value)} {rest : List Str} {n : Nat} {P : Addr → Heap → Prop} {Q : Value → Heap → Prop} {ks : List Str}
    (G : Gr K hT) (up : Grown hT h) (room : Room A (n + 1)) (hK : K.lookup f = some ⟨oc, od, .func fd, osl⟩) (hcd : codeIn K fd.code fd.qualname = true) (hbody : fd.body = .stmts body)
    (hbind : ∀ s : Shared, s.heap = h → BindsTo s fd ⟨args, []⟩ binds) (hchk : fnCheck fd ks = true) (hks : binds.map (·.1) ++ rest = ks) (hfr : frOf binds rest = fr)
    (hF : ∀ a ∈ F, hT.get? a = none) (p : ∀ L h1, h.get? L = none → Keeps h h1 [] → P L h1) (ps : ∀ L h1 h2, Keeps h1 h2 [L] → P L h1 → P L h2)
    (H : ∀ L h1, St hT h F (callEnv fd L f) fr (P L) h1 → Room (A.deeper (callEnv fd L f)) n → ∀ Q1 : Flow → Heap → Prop, (∀ fl h2, Q (retv fl) h2 → Q1 fl h2) → W prog w (A.deeper (callEnv fd L f)) (execs body (callEnv fd L f)) h1 Q1) :
    W prog w A (call (.ref f) args []) h Q := by
  have hk : fr.map (·.1) = ks := by rw [← hfr, frOf_keys, hks]
  have ok := fnCheck_ok hchk hk f
  obtain ⟨m1, m2, m3, m4⟩ := fnCheck_more hchk
  have nd : (binds.map (·.1)).Nodup := by
    have := (ok 0).nd
    rw [hk, ← hks] at this
    exact (List.nodup_append.mp this).1
  refine W_enter G up room hK hcd hbody hbind (fun x => hfr ▸ frOf_look nd x) ok hF p ps (fun y hy => ?_) (fun L h1 S R => H L h1 S R _ fun _ _ x => x) m2 m3 m4 m1
  have := (ok 0).loc (y.1, some y.2) (by rw [← hfr]; unfold frOf; exact List.mem_append_left _ (List.mem_map_of_mem (f := fun b : Str × Value => (b.1, some b.2)) hy))
  exact this
structure IPR (L x dx C : Addr) (al : List (Str × Value)) (R : Heap → Prop) (h : Heap) : Prop where
  p : IP L x dx C al h
  r : R h
  st : ∀ h h', Keeps h h' [dx, L] → R h → R h'
theorem IPR.ps {L x dx C : Addr} {al : List (Str × Value)} {R : Heap → Prop} (h h' : Heap) (k : Keeps h h' [L]) (p : IPR L x dx C al R h) : IPR L x dx C al R h' :=
  ⟨p.p.ps _ _ k, p.st _ _ (k.mono (all1 (.tail _ (.head _)))) p.r, p.st⟩
theorem W_setR {x dx C : Addr} {al : List (Str × Value)} {R : Heap → Prop} {name : Str} {v : Value} {Q : Unit → Heap → Prop} (S : St hT hE [dx] env fr (IPR env.locals x dx C al R) h) (G : Gr K hT) (hc : isOk C K = true)
    (ht : takerIn K C name = some none) (hz : al.length ≤ 1000) (q : ∀ h', St hT hE [dx] env fr (IPR env.locals x dx C ((name, v) :: al) R) h' → Q () h') : W prog w A (setAttr (.ref x) name v) h Q :=
  W_setCons (S.X G) S.p.p.i hc ht hz fun h' k I' => q h' (S.step k (fun _ m => .inl m) (by rw [List.mem_singleton]; exact S.p.p.nd)
    ⟨⟨I', S.p.p.nx, S.p.p.nd⟩, S.p.st _ _ (k.mono (all1 (.head _))) S.p.r, S.p.st⟩ IPR.ps)
theorem St.addR {x dx C : Addr} {al : List (Str × Value)} {R R2 : Heap → Prop} (S : St hT hE [dx] env fr (IPR env.locals x dx C al R) h) (k : Keeps h h' []) (r : R2 h') (st : ∀ h h', Keeps h h' [dx, env.locals] → R2 h → R2 h') :
    St hT hE [dx] env fr (IPR env.locals x dx C al fun h => R h ∧ R2 h) h' :=
  have S' := S.same k
  S'.turn ⟨S'.p.p, ⟨S'.p.r, r⟩, fun h h' k q => ⟨S'.p.st _ _ k q.1, st _ _ k q.2⟩⟩ IPR.ps
end
section
variable {A : Around} {hE h : Heap}
noncomputable def limBinds (x : Value) : List (Str × Value) := [(Str.ofString "self", x), (Str.ofString "width", .int 64 210), (Str.ofString "registers", .int 250 211), (Str.ofString "upvalues", .int 60 212), (Str.ofString "local_names", .int 200 213), (Str.ofString "ccalls", .int 40 214), (Str.ofString "frames", .int 200 215), (Str.ofString "stack", .int 2000 216), (Str.ofString "flush", .int 50 217), (Str.ofString "steps", .int 1000000000 218), (Str.ofString "text", .int 1000000 219)]
theorem k_dflt (P : Params) : List.lookup 29 (KK P) = some ⟨.type "tuple", none, .seq #[.int 64 210, .int 250 211, .int 60 212, .int 200 213, .int 40 214, .int 200 215, .int 2000 216, .int 50 217, .int 1000000000 218, .int 1000000 219] 0, #[]⟩ := by kernel_rfl
theorem lim_new_ (G : GG w hT) (up : Grown hT hE) (room : Room A 2) :
    W prog w A (call (.ref 53) [] []) hE fun r h' => (∃ a d, r = .ref a ∧ hE.get? a = none ∧ hE.get? d = none ∧ LimAt h' a d) ∧ Keeps hE h' [] := by
  refine W_make (G.X.keeps up) (mk_Limits _) (m_lim_init _).1 (beq_iff_eq.mp (m_lim_init _).2) fun x dx h1 nx nd k1 I => ?_
  have up1 : Grown hT h1 := fun b o e => k1 b o (up b o e) (fun m => nomatch m)
  refine W_fnB (F := [dx]) (P := fun L => IP L x dx 53 []) (binds := limBinds (.ref x)) (rest := []) (fr := [(Str.ofString "self", some (.ref x)), (Str.ofString "width", some (.int 64 210)), (Str.ofString "registers", some (.int 250 211)), (Str.ofString "upvalues", some (.int 60 212)), (Str.ofString "local_names", some (.int 200 213)), (Str.ofString "ccalls", some (.int 40 214)), (Str.ofString "frames", some (.int 200 215)), (Str.ofString "stack", some (.int 2000 216)), (Str.ofString "flush", some (.int 50 217)), (Str.ofString "steps", some (.int 1000000000 218)), (Str.ofString "text", some (.int 1000000 219))]) G up1 room.make (k_lim_init _) (c_lim_init _) rfl
    (fun s e => BindsTo.of_defaults rfl (by rw [e]; exact up1 _ _ (G.X _ _ (k_dflt _))) rfl rfl rfl) f_lim_init rfl rfl ?_ ?_ (fun L => IP.ps) ?_
  · intro a m
    rw [List.mem_singleton] at m
    subst m
    cases q : hT.get? a with
    | none => rfl
    | some o => rw [up _ _ q] at nd; cases nd
  · exact fun L h2 n2 k2 => ⟨I.keeps k2 List.not_mem_nil List.not_mem_nil, fresh_ne n2 I.some.1, fresh_ne n2 I.some.2⟩
  intro L h S R Q0 q0
  k_extra "ww"
  refine W_setC S G (ok_Limits _) (t_Limits_width _) (Nat.le_of_ble_eq_true rfl) fun h S => ?_
  k_extra "ww"
  refine W_setC S G (ok_Limits _) (t_Limits_registers _) (Nat.le_of_ble_eq_true rfl) fun h S => ?_
  k_extra "ww"
  refine W_setC S G (ok_Limits _) (t_Limits_upvalues _) (Nat.le_of_ble_eq_true rfl) fun h S => ?_
  k_extra "ww"
  refine W_setC S G (ok_Limits _) (t_Limits_local_names _) (Nat.le_of_ble_eq_true rfl) fun h S => ?_
  k_extra "ww"
  refine W_setC S G (ok_Limits _) (t_Limits_ccalls _) (Nat.le_of_ble_eq_true rfl) fun h S => ?_
  k_extra "ww"
  refine W_setC S G (ok_Limits _) (t_Limits_frames _) (Nat.le_of_ble_eq_true rfl) fun h S => ?_
  k_extra "ww"
  refine W_setC S G (ok_Limits _) (t_Limits_stack _) (Nat.le_of_ble_eq_true rfl) fun h S => ?_
  k_extra "ww"
  refine W_setC S G (ok_Limits _) (t_Limits_flush _) (Nat.le_of_ble_eq_true rfl) fun h S => ?_
  k_extra "ww"
  refine W_setC S G (ok_Limits _) (t_Limits_steps _) (Nat.le_of_ble_eq_true rfl) fun h S => ?_
  k_extra "ww"
  refine W_setC S G (ok_Limits _) (t_Limits_text _) (Nat.le_of_ble_eq_true rfl) fun h S => ?_
  k_extra "ww"
  refine ⟨⟨x, dx, rfl, nx, nd, ⟨_, _, _, S.p.i, rfl, rfl⟩⟩, ?_⟩
  exact k1.trans' S.kp fun b m => .inr (by rw [List.mem_singleton] at m; rw [m]; exact nd)
end
section
variable {A : Around} {hE h : Heap}
theorem TokAt.split {a x y : Addr} {k : Int} {tv : TV} (T : TokAt h a k tv) (n1 : NTok h x) (n2 : NTok h y) : ∃ d t v, tv.is v ∧ Inst h a d 262 (tokAl k t v) ∧ a ≠ x ∧ d ≠ x ∧ a ≠ y ∧ d ≠ y := by
  obtain ⟨d, t, v, hv, I⟩ := T
  exact ⟨d, t, v, hv, I, fun e => n1.1 _ (e ▸ I.ob), fun e => n1.2 _ _ _ (e ▸ I.ad), fun e => n2.1 _ (e ▸ I.ob), fun e => n2.2 _ _ _ (e ▸ I.ad)⟩
theorem not2 {a x y : Addr} (h1 : a ≠ x) (h2 : a ≠ y) : a ∉ [x, y] := by simp only [List.mem_cons, List.not_mem_nil, or_false, not_or]; exact ⟨h1, h2⟩
theorem keeps_snoc {h h1 h2 : Heap} {d : Addr} (k1 : Keeps h h1 []) (k2 : Keeps h1 h2 [d]) (nd : h.get? d = none) : Keeps h h2 [] :=
  k1.trans' k2 fun b m => .inr (by rw [List.mem_singleton] at m; rw [m]; exact nd)
inductive LexNew (hE : Heap) (T : List UInt8) (lim dlim : Addr) (r : Value) (h' : Heap) : Prop
  | mk (X : LX) (bl : Addr) (cur : Value) (j : LJ) (er : r = .ref X.l) (eT : X.T = T) (el : X.lim = lim) (lc : LexC prog w hT h' X bl [] (lexAl X 0 (sgn X.T 0) j bl cur .none)) (jk : j.ok 0) (tc : TokV h' cur 287 .none)
    (n1 : hE.get? X.l = none) (n2 : hE.get? X.dl = none) (n3 : hE.get? bl = none) (n4 : hE.get? X.kd = none) (ed : X.dlim = dlim)
theorem lex_new_ (G : GG w hT) (up : Grown hT hE) (room : Room A 4) {T : List UInt8} {t u : Tok} {lim dlim : Addr} (hz : T.length ≤ 900) (LM : LimAt hE lim dlim) :
    W prog w A (call (.ref 465) [.bytes T.toArray t, .bytes [61, 108, 97, 119].toArray u, .ref lim] []) hE fun r h' => LexNew hE T lim dlim r h' ∧ Keeps hE h' [] := by
  refine W_make (G.X.keeps up) (mk_Lexer _) (m_lex_init _).1 (beq_iff_eq.mp (m_lex_init _).2) fun x dx h1 nx nd k1 I => ?_
  have up1 : Grown hT h1 := fun b o e => k1 b o (up b o e) (fun m => nomatch m)
  have LM1 : LimAt h1 lim dlim := LM.keeps k1 List.not_mem_nil List.not_mem_nil
  have ndT : hT.get? dx = none := by
    cases q : hT.get? dx with
    | none => rfl
    | some o => rw [up _ _ q] at nd; cases nd
  have dl1 : dx ≠ lim := by
    rintro rfl
    obtain ⟨_, _, _, I, _⟩ := LM.ex
    rw [I.ob] at nd; cases nd
  have dl2 : dx ≠ dlim := by
    rintro rfl
    obtain ⟨_, _, _, I, _⟩ := LM.ex
    obtain ⟨o, e⟩ := I.ad.some
    rw [e] at nd; cases nd
  refine W_fn (F := [dx]) (P := fun L => IPR L x dx 465 [] (fun h => LimAt h lim dlim)) (rest := []) (fr := [(Str.ofString "self", some (.ref x)), (Str.ofString "text", some (.bytes T.toArray t)), (Str.ofString "chunk", some (.bytes [61, 108, 97, 119].toArray u)), (Str.ofString "limits", some (.ref lim))]) G up1 room.make (k_lex_init _) (c_lex_init _) rfl (b_lex_init _ _ _ _) f_lex_init rfl rfl ?_ ?_ (fun L => IPR.ps) ?_
  · intro a m
    rw [List.mem_singleton] at m
    subst m
    exact ndT
  · intro L h2 n2 k2
    obtain ⟨_, _, _, IL, _⟩ := LM1.ex
    have m1 := fresh_ne n2 IL.some.1
    have m2 := fresh_ne n2 IL.some.2
    exact ⟨⟨I.keeps k2 List.not_mem_nil List.not_mem_nil, fresh_ne n2 I.some.1, fresh_ne n2 I.some.2⟩, LM1.keeps k2 List.not_mem_nil List.not_mem_nil, fun h h' k r => r.keeps k (not2 dl1.symm m1.symm) (not2 dl2.symm m2.symm)⟩
  intro L h S R Q0 q0
  have hl : T.length ≤ 1000000 := by omega
  k_extra "ww"
  refine W_setR S G (ok_Lexer _) (t_Lexer_text _) (Nat.le_of_ble_eq_true rfl) fun h S => ?_
  k_extra "ww"
  refine W_setR S G (ok_Lexer _) (t_Lexer_source _) (Nat.le_of_ble_eq_true rfl) fun h S => ?_
  k_extra "ww"
  refine (chunk_id_ G S.up (R.le (by decide))).mono ?_
  k_extra "int"
  k_extra "ww"
  refine W_setR S G (ok_Lexer _) (t_Lexer_chunk _) (Nat.le_of_ble_eq_true rfl) fun h S => ?_
  k_extra "ww"
  refine W_setR S G (ok_Lexer _) (t_Lexer_limits _) (Nat.le_of_ble_eq_true rfl) fun h S => ?_
  k_extra "ww"
  refine (reserved_kinds_ G S.up (R.le (by decide))).mono ?_
  rintro _ h ⟨⟨kd, f, rfl, nk, mk, kp, ks⟩, k⟩
  have kd1 := fresh_ne nk S.p.p.i.some.2
  have kd2 := S.ne nk
  have kd3 : h1.get? kd = none := S.new nk (by simpa using kd1)
  replace S := S.addR (R2 := fun h => BD prog w h kd f) k mk (fun h h' k r => r.keeps k (not2 kd1 kd2.symm))
  clear mk k nk
  k_extra "ww"
  refine W_setR S G (ok_Lexer _) (t_Lexer_kinds _) (Nat.le_of_ble_eq_true rfl) fun h S => ?_
  k_extra "ww"
  refine W_setR S G (ok_Lexer _) (t_Lexer_at _) (Nat.le_of_ble_eq_true rfl) fun h S => ?_
  k_extra "ww"
  · rw [show (((T.getD (0 : Int).toNat 0).toNat : Nat) : Int) = sgn T 0 from (sgn_lt (by omega)).symm]
    refine W_setR S G (ok_Lexer _) (t_Lexer_sign _) (Nat.le_of_ble_eq_true rfl) fun h S => ?_
    k_extra "ww"
    refine W_setR S G (ok_Lexer _) (t_Lexer_line _) (Nat.le_of_ble_eq_true rfl) fun h S => ?_
    k_extra "ww"
    refine W_setR S G (ok_Lexer _) (t_Lexer_last_line _) (Nat.le_of_ble_eq_true rfl) fun h S => ?_
    k_extra "ww"
    refine BA_new fun bl h nb kb xb => ?_
    have bl1 := fresh_ne nb S.p.p.i.some.2
    have bl2 := S.ne nb
    have bl3 : h1.get? bl = none := S.new nb (by simpa using bl1)
    have bl4 := fresh_ne nb S.p.p.i.some.1
    have bl5 := fresh_ne nb (let ⟨_, _, _, I, _⟩ := S.p.r.1.ex; ⟨_, I.ob⟩ : ∃ o, _ = some o)
    have bl6 := fresh_ne nb (let ⟨_, _, _, I, _⟩ := S.p.r.1.ex; I.ad.some)
    have bl7 := fresh_ne nb S.p.r.2.some
    replace S := S.addR (R2 := fun h => IsB h bl []) kb xb (fun h h' k r => r.keeps k (not2 bl1 bl2.symm))
    clear kb xb nb
    k_extra "ww"
    refine W_setR S G (ok_Lexer _) (t_Lexer_buffer _) (Nat.le_of_ble_eq_true rfl) fun h S => ?_
    k_extra "ww"
    refine (tok_new_ G S.up (R.le (by decide)) TV.is_none).mono ?_
    rintro _ h ⟨⟨a1, rfl, n1, t1⟩, k⟩
    have S' := S.same k
    obtain ⟨d1, t1', v1, hv1, I1, q1, q2, q3, q4⟩ := t1.split (NTok.ad S'.p.p.i.ad rfl) (NTok.ns S'.ns rfl)
    replace S := S.addR (R2 := fun h => Inst h a1 d1 262 (tokAl 287 t1' v1)) k I1 (fun h h' k r => r.keeps k (not2 q1 q3) (not2 q2 q4))
    clear k S'
    k_extra "ww"
    refine W_setR S G (ok_Lexer _) (t_Lexer_current _) (Nat.le_of_ble_eq_true rfl) fun h S => ?_
    k_extra "ww"
    refine W_setR S G (ok_Lexer _) (t_Lexer_ahead _) (Nat.le_of_ble_eq_true rfl) fun h S => ?_
    k_extra "ww"
    have back : ∀ a, h1.get? a = none → hE.get? a = none := fun a e => by
      cases q : hE.get? a with
      | none => rfl
      | some o => rw [k1 _ _ q List.not_mem_nil] at e; cases e
    have blT : hT.get? bl = none := by
      cases q : hT.get? bl with
      | none => rfl
      | some o => rw [up1 _ _ q] at bl3; cases bl3
    refine ⟨⟨⟨x, dx, lim, dlim, kd, f, T, t, _, u⟩, bl, _, ⟨_, _, _, _, _, _⟩, rfl, rfl, rfl, ⟨S.p.p.i, S.p.r.1.2, S.p.r.1.1.1, S.p.r.1.1.2, kp, ⟨dl1, dl2, kd1.symm, I.ne⟩, ⟨bl4, bl1, bl5, bl6, bl7⟩, ndT, blT, hz, ks⟩, ⟨show (0 : Int) ≤ 1 by decide, show (1 : Int) ≤ 0 + 1 by decide⟩, ⟨a1, rfl, d1, t1', v1, hv1, S.p.r.2⟩, nx, nd, back _ bl3, back _ kd3, rfl⟩, keeps_snoc k1 S.kp nd⟩
  · rw [show (-1 : Int) = sgn T 0 from (sgn_ge (by omega)).symm]
    refine W_setR S G (ok_Lexer _) (t_Lexer_sign _) (Nat.le_of_ble_eq_true rfl) fun h S => ?_
    k_extra "ww"
    refine W_setR S G (ok_Lexer _) (t_Lexer_line _) (Nat.le_of_ble_eq_true rfl) fun h S => ?_
    k_extra "ww"
    refine W_setR S G (ok_Lexer _) (t_Lexer_last_line _) (Nat.le_of_ble_eq_true rfl) fun h S => ?_
    k_extra "ww"
    refine BA_new fun bl h nb kb xb => ?_
    have bl1 := fresh_ne nb S.p.p.i.some.2
    have bl2 := S.ne nb
    have bl3 : h1.get? bl = none := S.new nb (by simpa using bl1)
    have bl4 := fresh_ne nb S.p.p.i.some.1
    have bl5 := fresh_ne nb (let ⟨_, _, _, I, _⟩ := S.p.r.1.ex; ⟨_, I.ob⟩ : ∃ o, _ = some o)
    have bl6 := fresh_ne nb (let ⟨_, _, _, I, _⟩ := S.p.r.1.ex; I.ad.some)
    have bl7 := fresh_ne nb S.p.r.2.some
    replace S := S.addR (R2 := fun h => IsB h bl []) kb xb (fun h h' k r => r.keeps k (not2 bl1 bl2.symm))
    clear kb xb nb
    k_extra "ww"
    refine W_setR S G (ok_Lexer _) (t_Lexer_buffer _) (Nat.le_of_ble_eq_true rfl) fun h S => ?_
    k_extra "ww"
    refine (tok_new_ G S.up (R.le (by decide)) TV.is_none).mono ?_
    rintro _ h ⟨⟨a1, rfl, n1, t1⟩, k⟩
    have S' := S.same k
    obtain ⟨d1, t1', v1, hv1, I1, q1, q2, q3, q4⟩ := t1.split (NTok.ad S'.p.p.i.ad rfl) (NTok.ns S'.ns rfl)
    replace S := S.addR (R2 := fun h => Inst h a1 d1 262 (tokAl 287 t1' v1)) k I1 (fun h h' k r => r.keeps k (not2 q1 q3) (not2 q2 q4))
    clear k S'
    k_extra "ww"
    refine W_setR S G (ok_Lexer _) (t_Lexer_current _) (Nat.le_of_ble_eq_true rfl) fun h S => ?_
    k_extra "ww"
    refine W_setR S G (ok_Lexer _) (t_Lexer_ahead _) (Nat.le_of_ble_eq_true rfl) fun h S => ?_
    k_extra "ww"
    have back : ∀ a, h1.get? a = none → hE.get? a = none := fun a e => by
      cases q : hE.get? a with
      | none => rfl
      | some o => rw [k1 _ _ q List.not_mem_nil] at e; cases e
    have blT : hT.get? bl = none := by
      cases q : hT.get? bl with
      | none => rfl
      | some o => rw [up1 _ _ q] at bl3; cases bl3
    refine ⟨⟨⟨x, dx, lim, dlim, kd, f, T, t, _, u⟩, bl, _, ⟨_, _, _, _, _, _⟩, rfl, rfl, rfl, ⟨S.p.p.i, S.p.r.1.2, S.p.r.1.1.1, S.p.r.1.1.2, kp, ⟨dl1, dl2, kd1.symm, I.ne⟩, ⟨bl4, bl1, bl5, bl6, bl7⟩, ndT, blT, hz, ks⟩, ⟨show (0 : Int) ≤ 1 by decide, show (1 : Int) ≤ 0 + 1 by decide⟩, ⟨a1, rfl, d1, t1', v1, hv1, S.p.r.2⟩, nx, nd, back _ bl3, back _ kd3, rfl⟩, keeps_snoc k1 S.kp nd⟩
end
section
theorem tac_mac6 : True := by
  k_with "ra" => (with_reducible first
  | exact a_TokenRow_pairs _ | exact a_TokenRow_at _ | exact a_TokenRow_line _ | exact a_TokenRow_last_line _ | exact a_TokenRow_current _)
  k_with "rt" => (with_reducible first
  | exact t_TokenRow_pairs _ | exact t_TokenRow_at _ | exact t_TokenRow_line _ | exact t_TokenRow_last_line _ | exact t_TokenRow_current _)
  k_with "rm" => (with_reducible first
  | exact m_row_token_at _ | exact m_row_next _ | exact m_row_lookahead _ | exact m_row_error _ | exact m_row_syntax_error _)
  k_with "w2" => (first
  | ((with_reducible refine' R_get S G ?ha ?hl ?hv ?_); (case ha => k_extra "ra"); (case hl => exact rfl); (case hv => exact rfl))
  | ((with_reducible refine' R_getm S G ?hf ?hl ?_); (case hf => k_extra "rm"); (case hl => exact rfl))
  | ((with_reducible refine' R_set S G ?ht ?hz ?hd ?hp ?_); (case ht => k_extra "rt"); (case hz => exact Nat.le_of_ble_eq_true rfl); (case hp => k_extra "put"); (case hd => exact nodupB_iff (by kernel_rfl)); (intro h k2 S2); (try replace t1 := t1.keeps k2 S.p.ntok1); (replace S := S2); clear S2 k2))
  k_with "w_exec" => (((with_reducible refine W_exprR ?_ ?hi ?hs); (case hi => exact rfl); (case hs => exact rfl)))
  trivial
noncomputable def NTup (h : Heap) (x : Addr) : Prop := ∀ vs n, h.get? x ≠ some { cls := .type "tuple", data := .seq vs n }
theorem NTup.data {h : Heap} {x : Addr} {o : Obj} {es : Array DictEntry} {ep : Nat} (q : h.get? x = some o) (hd : o.data = .dict es ep) : NTup h x := fun vs n e => by
  rw [q] at e
  have := Option.some.inj e
  subst this
  cases hd
theorem NTup.ad {h : Heap} {x : Addr} {al : List (Str × Value)} (D : ADict h x al) : NTup h x := let ⟨_, _, q, _⟩ := D; NTup.data q rfl
theorem NTup.ns {h : Heap} {x : Addr} {f : Str → Option Value} (D : h.Ns x f) : NTup h x := let ⟨_, _, _, q, hd, _⟩ := D; NTup.data q hd
theorem NTup.buf {h : Heap} {x : Addr} {bs : List UInt8} (D : IsB h x bs) : NTup h x := fun vs n e => by
  unfold IsB at D
  rw [D] at e
  simp [baO] at e
theorem NTup.list {h : Heap} {x : Addr} {vs : List Value} (D : IsL h x vs) : NTup h x := fun vs n e => by
  obtain ⟨m, D⟩ := D
  rw [D] at e
  simp at e
theorem IsT.keep {h h' : Heap} {a : Addr} {vs : List Value} {F : List Addr} (x : IsT h a vs) (K : Keeps h h' F) (n : ∀ x ∈ F, NTup h x) : IsT h' a vs := x.keeps K fun m => by
  obtain ⟨n', e⟩ := x
  exact n _ m _ _ e
structure DataAt (h : Heap) (vs : List Value) (toks : List (Int × TV)) : Prop where
  len : vs.length = toks.length
  z : toks.length ≤ 1000
  at_ : ∀ (i : Nat) (k : Int) (tv : TV), toks[i]? = some (k, tv) → ∃ (p a : Addr) (ln : Int) (t : Tok), vs[i]? = some (Value.ref p) ∧ IsT h p [Value.ref a, Value.int ln t] ∧ TokAt h a k tv ∧ 0 ≤ ln ∧ ln ≤ 20
theorem DataAt.keeps {h h' : Heap} {vs : List Value} {toks : List (Int × TV)} {F : List Addr} (D : DataAt h vs toks) (K : Keeps h h' F) (n : ∀ x ∈ F, NTok h x ∧ NTup h x) : DataAt h' vs toks :=
  ⟨D.len, D.z, fun i k tv e => let ⟨p, a, ln, t, e1, e2, e3, e4⟩ := D.at_ i k tv e; ⟨p, a, ln, t, e1, e2.keep K fun x m => (n x m).2, e3.keeps K fun x m => (n x m).1, e4⟩⟩
structure RJ where
  ta : Tok
  ln : Int
  tl : Tok
  la : Int
  tla : Tok
noncomputable abbrev rowAl (pl : Addr) (i : Int) (j : RJ) (cur : Value) : List (Str × Value) :=
  [(Str.ofString "current", cur), (Str.ofString "last_line", .int j.la j.tla), (Str.ofString "line", .int j.ln j.tl), (Str.ofString "at", .int i j.ta), (Str.ofString "pairs", .ref pl)]
noncomputable def RJ.ok (j : RJ) : Prop := 0 ≤ j.ln ∧ j.ln ≤ 20
noncomputable def RowAt (h : Heap) (r dr pl : Addr) (i : Int) (cur : Value) : Prop := ∃ j, Inst h r dr 521 (rowAl pl i j cur) ∧ j.ok
section
variable {A : Around} {hE h h' : Heap} {r dr pl : Addr} {al al' : List (Str × Value)} {env : Env} {fr fr' : Fra} {F : List Addr} {k : Int} {tv : TV} {i : Int} {vs : List Value} {toks : List (Int × TV)}
theorem W_exprR {e : PySem.Expr} {pos : Pos} {Q : Flow → Heap → Prop} (H : W prog w A (eval e env) h fun v h1 => Q .next h1)
    (hi : interactive env = false := by rfl) (hs : swapsWith e none pos.line env = Pure.pure false := by rfl) : W prog w A (exec (.Expr e pos) env) h Q := by
  rw [exec_Expr env e pos hi hs]
  exact W.bind (W.standAt (W.bind (H.mono fun v h1 H1 => W.any fun g d tk os QQ EE k => wpAny_dropValue (k _ _ _ H1))))
theorem IP.ntok1 (p : IP env.locals r dr 521 al h) (e : al.lookup (Str.ofString "kind") = none := by rfl) : ∀ x ∈ [dr], NTok h x := fun x m => by
  rw [List.mem_singleton] at m; subst m; exact NTok.ad p.i.ad e
theorem R_get {name : Str} {v : Value} {ex : Bool} {Q : Value → Heap → Prop} (S : St hT hE F env fr (IP env.locals r dr 521 al) h) (G : GG w hT) (ha : findIn (KK w.params) (.ref 521) name = some none) (hl : al.lookup name = some v) (hv : handedIn v = true)
    (q : Q v h) : W prog w A (getAttr (.ref r) name ex) h Q := W_get (S.X G) S.p.i (ok_TokenRow _) ha hl hv q
theorem R_getm {name : Str} {f : Addr} {pl : Sem Bool} {Q : Value × List Value → Heap → Prop} (S : St hT hE F env fr (IP env.locals r dr 521 al) h) (G : GG w hT)
    (hf : findIn (KK w.params) (.ref 521) name = some (some (.ref f)) ∧ isFn (KK w.params) (.ref f) = true) (hl : al.lookup name = none) (q : Q (.ref f, [.ref r]) h) : W prog w A (getMethod (.ref r) name pl) h Q :=
  W_getm (S.X G) S.p.i (ok_TokenRow _) hf.1 hf.2 hl q
theorem R_set {name : Str} {v : Value} {Q : Unit → Heap → Prop} (S : St hT hE [dr] env fr (IP env.locals r dr 521 al) h) (G : GG w hT) (ht : takerIn (KK w.params) 521 name = some none) (hz : al.length ≤ 1000) (hd : (al.map (·.1)).Nodup) (hp : Put name v al al')
    (q : ∀ h', Keeps h h' [dr] → St hT hE [dr] env fr (IP env.locals r dr 521 al') h' → Q () h') : W prog w A (setAttr (.ref r) name v) h Q :=
  W_setPut (S.X G) S.p.i (ok_TokenRow _) ht hz hd hp fun h' k I => q h' k (S.step k (fun _ m => .inl m) (by rw [List.mem_singleton]; exact S.p.nd) ⟨I, S.p.nx, S.p.nd⟩ IP.ps)
noncomputable def tokN (toks : List (Int × TV)) (i : Nat) : Int × TV := toks.getD i (287, .none)
theorem row_token_at_ (G : GG w hT) (up : Grown hT hE) (room : Room A 3) {n : Nat} {t : Tok} (I : Inst hE r dr 521 al) (ha : al.lookup (Str.ofString "pairs") = some (.ref pl)) (xl : IsL hE pl vs) (D : DataAt hE vs toks) :
    W prog w A (call (.ref 490) [.ref r, .int n t] []) hE fun v h' => TokV h' v (tokN toks n).1 (tokN toks n).2 ∧ Keeps hE h' [] := by
  refine W_fn (F := []) (P := fun L => IP L r dr 521 al) (rest := []) (fr := [(Str.ofString "self", some (.ref r)), (Str.ofString "at", some (.int n t))]) G up room (k_row_token_at _) (c_row_token_at _) rfl (b_row_token_at _ _) f_row_token_at rfl rfl no_pF (fun L h2 n2 k2 => ⟨I.keeps k2 List.not_mem_nil List.not_mem_nil, fresh_ne n2 I.some.1, fresh_ne n2 I.some.2⟩) (fun L => IP.ps) ?_
  intro L h S R Q0 q0
  have hz : vs.length ≤ 1000000 := by have := D.len; have := D.z; omega
  k_extra "ww"
  refine R_get S G (a_TokenRow_pairs _) ha rfl ?_
  k_extra "ww"
  refine L_len (xl.keeps S.kp List.not_mem_nil) hz fun _ => ?_
  k_extra "ww"
  · have hn : n < toks.length := by have := D.len; omega
    obtain ⟨p, a, ln, t', e1, e2, e3, _⟩ := D.at_ n (toks[n]).1 (toks[n]).2 (List.getElem?_eq_getElem hn)
    refine R_get S G (a_TokenRow_pairs _) ha rfl ?_
    k_extra "ww"
    refine L_item (j := n) (xl.keeps S.kp List.not_mem_nil) rfl e1 hz ?_ (by with_unfolding_all rfl)
    k_extra "ww"
    refine T_item (j := 0) (e2.keeps S.kp List.not_mem_nil) rfl rfl (Nat.le_of_ble_eq_true rfl) ?_ (by with_unfolding_all rfl)
    have e : tokN toks n = toks[n] := by unfold tokN; rw [List.getD_eq_getElem?_getD, List.getElem?_eq_getElem hn]; rfl
    k_extra "u"
    rw [e]
    exact ⟨⟨a, rfl, e3.keeps S.kp fun x m => nomatch m⟩, S.kp⟩
  · have hn : toks.length ≤ n := by have := D.len; omega
    have e : tokN toks n = (287, .none) := by unfold tokN; rw [List.getD_eq_getElem?_getD, List.getElem?_eq_none hn]; rfl
    refine (tok_new_ G S.up (R.le (by decide)) TV.is_none).mono ?_
    rintro _ h ⟨⟨a1, rfl, n1, t1⟩, k⟩
    replace S := S.same k
    k_extra "u"
    rw [e]
    exact ⟨⟨a1, rfl, t1⟩, S.kp⟩
theorem notIn1 {a x : Addr} (h : a ≠ x) : a ∉ [x] := by simpa using h
theorem row_next_ (G : GG w hT) (up : Grown hT hE) (room : Room A 4) {n : Nat} {j : RJ} {cur : Value} (hi : i + 1 = n) (hn : n ≤ 2000) (I : Inst hE r dr 521 (rowAl pl i j cur)) (jk : j.ok) (xl : IsL hE pl vs) (D : DataAt hE vs toks) (nT : hT.get? dr = none) (npl : pl ≠ dr) :
    W prog w A (call (.ref 497) [.ref r] []) hE fun v h' => (TokV h' v (tokN toks n).1 (tokN toks n).2 ∧ RowAt h' r dr pl n v) ∧ Keeps hE h' [dr] := by
  have N1 : ∀ x ∈ [dr], NTok hE x ∧ NTup hE x := (all1 ⟨NTok.ad I.ad rfl, NTup.ad I.ad⟩)
  refine W_fn (F := [dr]) (P := fun L => IP L r dr 521 (rowAl pl i j cur)) (rest := []) (fr := [(Str.ofString "self", some (.ref r))]) G up room (k_row_next _) (c_row_next _) rfl (b_row_next _) f_row_next rfl rfl ((all1 (nT))) (fun L h2 n2 k2 => ⟨I.keeps k2 List.not_mem_nil List.not_mem_nil, fresh_ne n2 I.some.1, fresh_ne n2 I.some.2⟩) (fun L => IP.ps) ?_
  intro L h S R Q0 q0
  have hz : vs.length ≤ 1000000 := by have := D.len; have := D.z; omega
  k_extra "ww"
  refine L_len (xl.keeps S.kp (notIn1 npl)) hz fun _ => ?_
  rw [hi] at S ⊢
  k_extra "ww"
  · have hn : n < toks.length := by have := D.len; omega
    obtain ⟨p, a, ln, t', e1, e2, e3, l0, l1⟩ := D.at_ n (toks[n]).1 (toks[n]).2 (List.getElem?_eq_getElem hn)
    refine L_item (j := n) (xl.keeps S.kp (notIn1 npl)) rfl e1 hz ?_ (by with_unfolding_all rfl)
    k_extra "ww"
    refine T_item (j := 1) (e2.keep S.kp fun x m => (N1 x m).2) rfl rfl (Nat.le_of_ble_eq_true rfl) ?_ (by with_unfolding_all rfl)
    k_extra "ww"
    refine (row_token_at_ G S.up R S.p.i rfl (xl.keeps S.kp (notIn1 npl)) (D.keeps S.kp N1)).mono ?_
    rintro _ h ⟨⟨a1, rfl, t1⟩, k⟩
    replace S := S.same k
    k_extra "ww"
    exact ⟨⟨⟨a1, rfl, t1⟩, ⟨_, _, _, _, _⟩, S.p.i, l0, l1⟩, S.kp⟩
  · refine (row_token_at_ G S.up R S.p.i rfl (xl.keeps S.kp (notIn1 npl)) (D.keeps S.kp N1)).mono ?_
    rintro _ h ⟨⟨a1, rfl, t1⟩, k⟩
    replace S := S.same k
    k_extra "ww"
    exact ⟨⟨⟨a1, rfl, t1⟩, ⟨_, _, _, _, _⟩, S.p.i, jk.1, jk.2⟩, S.kp⟩
theorem row_look_ (G : GG w hT) (up : Grown hT hE) (room : Room A 4) {n : Nat} {j : RJ} {cur : Value} (hi : i + 1 = n) (I : Inst hE r dr 521 (rowAl pl i j cur)) (xl : IsL hE pl vs) (D : DataAt hE vs toks) :
    W prog w A (call (.ref 504) [.ref r] []) hE fun v h' => TokV h' v (tokN toks n).1 (tokN toks n).2 ∧ Keeps hE h' [] := by
  refine W_fn (F := []) (P := fun L => IP L r dr 521 (rowAl pl i j cur)) (rest := []) (fr := [(Str.ofString "self", some (.ref r))]) G up room (k_row_lookahead _) (c_row_lookahead _) rfl (b_row_lookahead _) f_row_lookahead rfl rfl no_pF (fun L h2 n2 k2 => ⟨I.keeps k2 List.not_mem_nil List.not_mem_nil, fresh_ne n2 I.some.1, fresh_ne n2 I.some.2⟩) (fun L => IP.ps) ?_
  intro L h S R Q0 q0
  k_extra "ww"
  rw [hi]
  refine (row_token_at_ G S.up R S.p.i rfl (xl.keeps S.kp List.not_mem_nil) (D.keeps S.kp fun x m => nomatch m)).mono ?_
  rintro _ h ⟨t1, k⟩
  k_extra "u"; exact ⟨t1, (S.same k).kp⟩
theorem row_new_ (G : GG w hT) (up : Grown hT hE) (room : Room A 6) (xl : IsL hE pl vs) (D : DataAt hE vs toks) :
    W prog w A (call (.ref 521) [.ref pl] []) hE fun v h' => (∃ r dr cur, v = .ref r ∧ RowAt h' r dr pl 0 cur ∧ TokV h' cur (tokN toks 0).1 (tokN toks 0).2 ∧ hE.get? r = none ∧ hE.get? dr = none) ∧ Keeps hE h' [] := by
  refine W_make (G.X.keeps up) (mk_TokenRow _) (m_row_init _).1 (beq_iff_eq.mp (m_row_init _).2) fun x dx h1 nx nd k1 I => ?_
  have up1 : Grown hT h1 := fun b o e => k1 b o (up b o e) (fun m => nomatch m)
  have nT : hT.get? dx = none := by
    cases q : hT.get? dx with
    | none => rfl
    | some o => rw [up _ _ q] at nd; cases nd
  have xl1 := xl.keeps k1 List.not_mem_nil
  have D1 := D.keeps k1 fun x m => nomatch m
  have npl : pl ≠ dx := by rintro rfl; obtain ⟨n, e⟩ := xl; rw [nd] at e; cases e
  have N1 : ∀ x ∈ [dx], NTok h1 x ∧ NTup h1 x := (all1 ⟨NTok.ad I.ad rfl, NTup.ad I.ad⟩)
  refine W_fn (F := [dx]) (P := fun L => IP L x dx 521 []) (rest := []) (fr := [(Str.ofString "self", some (.ref x)), (Str.ofString "pairs", some (.ref pl))]) G up1 room.make (k_row_init _) (c_row_init _) rfl (b_row_init _ _) f_row_init rfl rfl ((all1 (nT))) (fun L h2 n2 k2 => ⟨I.keeps k2 List.not_mem_nil List.not_mem_nil, fresh_ne n2 I.some.1, fresh_ne n2 I.some.2⟩) (fun L => IP.ps) ?_
  intro L h S R Q0 q0
  k_extra "ww"
  refine W_setC S G (ok_TokenRow _) (t_TokenRow_pairs _) (Nat.le_of_ble_eq_true rfl) fun h S => ?_
  k_extra "ww"
  refine W_setC S G (ok_TokenRow _) (t_TokenRow_at _) (Nat.le_of_ble_eq_true rfl) fun h S => ?_
  k_extra "ww"
  refine W_setC S G (ok_TokenRow _) (t_TokenRow_line _) (Nat.le_of_ble_eq_true rfl) fun h S => ?_
  k_extra "ww"
  refine W_setC S G (ok_TokenRow _) (t_TokenRow_last_line _) (Nat.le_of_ble_eq_true rfl) fun h S => ?_
  k_extra "ww"
  refine (tok_new_ G S.up (R.le (by decide)) TV.is_none).mono ?_
  rintro _ h ⟨⟨a1, rfl, n1, t1⟩, k⟩
  replace S := S.same k
  k_extra "ww"
  refine W_setC S G (ok_TokenRow _) (t_TokenRow_current _) (Nat.le_of_ble_eq_true rfl) fun h S => ?_
  k_extra "ww"
  refine (row_next_ (n := 0) (i := -1) (j := ⟨_, _, _, _, _⟩) G S.up R rfl (by decide) S.p.i ⟨show (0 : Int) ≤ 1 by decide, show (1 : Int) ≤ 20 by decide⟩ (xl1.keeps S.kp (notIn1 npl)) (D1.keeps S.kp N1) nT npl).mono ?_
  rintro v h2 ⟨⟨⟨a2, rfl, t2⟩, R2⟩, k2⟩
  obtain ⟨jj, I2, ok2⟩ := R2
  have S' := S.step (P' := IP L x dx 521 (rowAl pl 0 jj (.ref a2))) k2 (fun _ m => .inl m) (notIn1 S.p.nd) ⟨I2, S.p.nx, S.p.nd⟩ IP.ps
  k_extra "ww"
  exact ⟨⟨x, dx, _, rfl, ⟨jj, I2, ok2⟩, ⟨a2, rfl, t2⟩, nx, nd⟩, keeps_snoc k1 S'.kp nd⟩
end
section
variable {A : Around} {K : Frag} {h : Heap}
theorem setItem_exact {E : Value → Shared → Prop} {s : Shared} {l : Addr} {items : Array Value} {k : Int} {t : Tok} {v : Value} {n : Nat} {Q : Unit → Shared → Prop} (ho : s.heap.get? l = some { cls := .type "list", data := .seq items n })
    (h0 : 0 ≤ k) (hfit : k < 2 ^ 63) (hn : k < items.size) (hQ : Q () { s with heap := s.heap.update l (Obj.mapSeq (·.setIfInBounds k.toNat v)) }) : wpAny (model prog w) A (setItem (.ref l) (.int k t) v) Q E s := by
  have hl : s.heap.IsList l items := ⟨_, ho, rfl, n, rfl⟩
  unfold setItem
  try with_reducible refine wpAny_holding ?_
  first | refine wpAny_bind (wpAny_pure ?_) | skip
  refine wpAny_bind (wpAny_sequenceKey hl.typeIs (by decide) ?_)
  refine wpAny_bind (wpAny_callSpecial?_slot (name := Str.ofString "__setitem__") hl.typeIs slot_list_setitem
    (wpAny_call_entry slot_list_setitem hl.typeIs entry_list_setitem ?_ (args_list_setitem _ _ _)))
  show wpAny _ _ (Builtin.List.listSubscript? (.int k t) >>= _) _ _ s
  refine wpAny_bind (wpAny_listSubscript_int (fitsIndex_of h0 hfit) ?_)
  clear hfit
  obtain ⟨j, rfl⟩ := Int.eq_ofNat_of_zero_le h0
  have hj : j < items.size := by omega
  have hx' : items[j]? = some items[j] := Array.getElem?_eq_getElem hj
  show wpAny _ _ ((seqItemAt l j >>= fun r => pure (r.map (j, ·))) >>= _) _ _ s
  refine wpAny_bind (wpAny_bind (wpAny_seqItemAt ho rfl (wpAny_pure ?_)))
  rw [hx']
  show wpAny _ _ (setSeqItemAt l j v >>= _) _ _ s
  refine wpAny_bind (wpAny_setSeqItemAt ho rfl ?_)
  first
    | exact wpAny_bind (wpAny_pure (wpAny_pure ⟨.none, rfl, wpAny_pure hQ⟩))
    | exact wpAny_pure ⟨.none, rfl, wpAny_pure hQ⟩
theorem L_setitem {l : Addr} {vs : List Value} {j : Nat} {k : Int} {t : Tok} {v : Value} {Q : Unit → Heap → Prop} (x : IsL h l vs) (hk : k = j) (hj : j < vs.length) (hz : vs.length ≤ 1000000)
    (q : ∀ h', Keeps h h' [l] → IsL h' l (vs.set j v) → Q () h') : W prog w A (setItem (.ref l) (.int k t) v) h Q := by
  obtain ⟨n, ho⟩ := x
  subst hk
  refine W.any fun g d tk os QQ EE kk => setItem_exact (s := ⟨h, g, d, tk, os⟩) ho (by omega) (by omega) (by simp only [List.size_toArray]; omega) ?_
  refine kk _ _ _ (q _ (Keeps.sameBut (Heap.SameBut.update ..)) ⟨?_, (Heap.get?_update_self _ ho rfl).trans ?_⟩)
  rotate_left
  · rw [← List.setIfInBounds_toArray]; rfl
end
theorem Ints.get {vs : List Value} {ns : List Int} (x : Ints vs ns) : ∀ i, i < vs.length → ∃ k t, vs[i]? = some (Value.int k t) := by
  induction x with
  | nil => intro i h; exact absurd h (Nat.not_lt_zero _)
  | cons n t r ih =>
    intro i h
    cases i with
    | zero => exact ⟨n, t, rfl⟩
    | succ i => exact ih i (by simpa using h)
structure CP (L cup : Addr) (vs : List Value) (h : Heap) : Prop where
  x : IsL h cup vs
  n : L ≠ cup
theorem CP.ps {L cup : Addr} {vs : List Value} (h h' : Heap) (k : Keeps h h' [L]) (p : CP L cup vs h) : CP L cup vs h' := ⟨p.x.keeps k (notIn1 p.n.symm), p.n⟩
theorem St.setC {hE h h' : Heap} {cup : Addr} {env : Env} {fr : Fra} {vs vs' : List Value} (S : St hT hE [cup] env fr (CP env.locals cup vs) h) (k : Keeps h h' [cup]) (x : IsL h' cup vs') : St hT hE [cup] env fr (CP env.locals cup vs') h' :=
  S.step k (fun _ m => .inl m) (notIn1 S.p.n) ⟨x, S.p.n⟩ CP.ps
section
variable {A : Around} {hE h h' : Heap}
theorem IsL.some {a : Addr} {vs : List Value} (x : IsL h a vs) : ∃ o, h.get? a = some o := let ⟨_, e⟩ := x; ⟨_, e⟩
theorem law_sip_ (G : GG w hT) (up : Grown hT hE) (room : Room A 1) {cup sl : Addr} {n : Nat} {t u : Tok} {b : Int} {vs : List Value} {ns : List Int} (hb : 0 < b) (hn : n ≤ 1000) (xc : IsL hE cup [.ref sl, .int n t]) (xs : IsL hE sl vs) (xi : Ints vs ns) (hz : vs.length ≤ 63)
    (ne : sl ≠ cup) (nT : hT.get? cup = none) :
    W prog w A (call (.ref 532) [.ref cup, .int b u] []) hE fun v h' => (∃ (m : Nat) (t : Tok), v = .int m t ∧ (m : Int) < b ∧ ∃ t', IsL h' cup [.ref sl, .int (n + 1 : Nat) t']) ∧ Keeps hE h' [cup] := by
  refine W_fn (F := [cup]) (P := fun L => CP L cup [.ref sl, .int n t]) (rest := [Str.ofString "turn"]) (fr := [(Str.ofString "cup", some (.ref cup)), (Str.ofString "bound", some (.int b u)), (Str.ofString "turn", none)]) G up room (k_law_sip _) (c_law_sip _) rfl (b_law_sip _ _) f_law_sip rfl rfl ((all1 (nT))) (fun L h2 n2 k2 => ⟨xc.keeps k2 List.not_mem_nil, fresh_ne n2 xc.some⟩) (fun L => CP.ps) ?_
  intro L h S R Q0 q0
  have e1 : (n : Int) + 1 = (n + 1 : Nat) := by omega
  have hz2 : vs.length ≤ 1000000 := by omega
  have m1 : IntMulOk 19 ((n + 1 : Nat) : Int) := .of_right (intBits_le_64 (by omega) (by omega))
  have m2 : IntMulOk ((n + 1 : Nat) : Int) ((n + 1 : Nat) : Int) := .of_right (intBits_le_64 (by omega) (by omega))
  have last : ∀ a : Int, ∃ m : Nat, a.fmod b = m ∧ (m : Int) < b := fun a => by
    have h1 := Int.fmod_nonneg_of_pos a hb
    have h2 := Int.fmod_lt_of_pos a hb
    obtain ⟨m, e⟩ := Int.eq_ofNat_of_zero_le h1
    exact ⟨m, e, by omega⟩
  k_extra "ww"
  refine W_setitem ?_
  k_extra "ww"
  refine L_item (j := 1) S.p.x rfl rfl (Nat.le_of_ble_eq_true rfl) ?_ (by with_unfolding_all rfl)
  k_extra "ww"
  refine L_setitem (j := 1) S.p.x rfl (show 1 < 2 by decide) (Nat.le_of_ble_eq_true rfl) fun h k x => ?_
  replace S := S.setC k x
  clear k x
  rw [e1] at S
  k_extra "ww"
  refine L_item (j := 1) S.p.x rfl rfl (Nat.le_of_ble_eq_true rfl) ?_ (by with_unfolding_all rfl)
  k_extra "ww"
  refine L_item (j := 0) S.p.x rfl rfl (Nat.le_of_ble_eq_true rfl) ?_ (by with_unfolding_all rfl)
  k_extra "ww"
  refine L_len (xs.keeps S.kp (notIn1 ne)) hz2 fun _ => ?_
  k_extra "ww"
  · refine L_item (j := 0) S.p.x rfl rfl (Nat.le_of_ble_eq_true rfl) ?_ (by with_unfolding_all rfl)
    k_extra "ww"
    obtain ⟨k, t2, e⟩ := xi.get n (by omega)
    refine L_item (j := n) (xs.keeps S.kp (notIn1 ne)) (by omega) e hz2 ?_ (by with_unfolding_all rfl)
    k_extra "ww"
    refine I_mod (by omega) fun _ => ?_
    obtain ⟨m, em, hm⟩ := last k
    rw [em]
    k_extra "u"; exact ⟨⟨m, _, rfl, hm, _, S.p.x⟩, S.kp⟩
  · refine I_mod (by omega) fun _ => ?_
    obtain ⟨m, em, hm⟩ := last (19 * ((n + 1 : Nat) : Int) + (((n + 1 : Nat) : Int) * ((n + 1 : Nat) : Int)).fdiv 3)
    rw [em]
    k_extra "u"; exact ⟨⟨m, _, rfl, hm, _, S.p.x⟩, S.kp⟩
end
noncomputable def TokX (L : Addr) (h : Heap) (v : Value) (k : Int) (tv : TV) : Prop := ∃ a d t v', v = .ref a ∧ tv.is v' ∧ Inst h a d 262 (tokAl k t v') ∧ L ≠ a ∧ L ≠ d
theorem TokX.v {L : Addr} {h : Heap} {v : Value} {k : Int} {tv : TV} (T : TokX L h v k tv) : TokV h v k tv := let ⟨a, d, t, v', e, hv, I, _⟩ := T; ⟨a, e, d, t, v', hv, I⟩
theorem TokX.keeps {L : Addr} {h h' : Heap} {v : Value} {k : Int} {tv : TV} {F : List Addr} (T : TokX L h v k tv) (K : Keeps h h' F) (n : ∀ x ∈ F, x = L ∨ NTok h x) : TokX L h' v k tv := by
  obtain ⟨a, d, t, v', e, hv, I, n1, n2⟩ := T
  refine ⟨a, d, t, v', e, hv, I.keeps K (fun m => ?_) (fun m => ?_), n1, n2⟩
  · rcases n _ m with q | q
    · exact n1 q.symm
    · exact q.1 _ I.ob
  · rcases n _ m with q | q
    · exact n2 q.symm
    · exact q.2 _ _ _ I.ad
theorem TokV.x {L : Addr} {h : Heap} {v : Value} {k : Int} {tv : TV} (T : TokV h v k tv) (n : NTok h L) : TokX L h v k tv := by
  obtain ⟨a, e, d, t, v', hv, I⟩ := T
  exact ⟨a, d, t, v', e, hv, I, fun q => n.1 _ (q ▸ I.ob), fun q => n.2 _ _ _ (q ▸ I.ad)⟩
structure FoundX (L : Addr) (h : Heap) (vs : List Value) (toks : List (Int × TV)) : Prop where
  len : vs.length = toks.length
  at_ : ∀ (i : Nat) (k : Int) (tv : TV), toks[i]? = some (k, tv) → ∃ v, vs[i]? = some v ∧ TokX L h v k tv
theorem FoundX.keeps {L : Addr} {h h' : Heap} {vs : List Value} {toks : List (Int × TV)} {F : List Addr} (D : FoundX L h vs toks) (K : Keeps h h' F) (n : ∀ x ∈ F, x = L ∨ NTok h x) : FoundX L h' vs toks :=
  ⟨D.len, fun i k tv e => let ⟨v, e1, e2⟩ := D.at_ i k tv e; ⟨v, e1, e2.keeps K n⟩⟩
theorem FoundX.nil {L : Addr} {h : Heap} : FoundX L h [] [] := ⟨rfl, fun i k tv e => nomatch e⟩
theorem FoundX.snoc {L : Addr} {h : Heap} {vs : List Value} {toks : List (Int × TV)} {v : Value} {k : Int} {tv : TV} (D : FoundX L h vs toks) (T : TokX L h v k tv) : FoundX L h (vs ++ [v]) (toks ++ [(k, tv)]) := by
  refine ⟨by simp [D.len], fun i k' tv' e => ?_⟩
  rw [List.getElem?_append] at e ⊢
  rw [D.len]
  split at e
  · rename_i h1
    rw [if_pos h1]
    exact D.at_ i k' tv' e
  · rename_i h1
    rw [if_neg h1]
    have : i - toks.length = 0 := by
      have := (List.getElem?_eq_some_iff.mp e).1
      simp only [List.length_cons, List.length_nil] at this
      omega
    rw [this] at e ⊢
    cases e
    exact ⟨v, rfl, T⟩
inductive Lexes (T : List UInt8) : Nat → List (Int × TV × Nat) → Prop
  | eos (p n : Nat) (s : Skips T p n T.length) : Lexes T p []
  | tok (p n q p' : Nat) (k : Int) (tv : TV) (l : List (Int × TV × Nat)) (s : Skips T p n q) (t : Tk T q k tv p') (hk : k ≠ 287) (r : Lexes T p' l) : Lexes T p ((k, tv, p') :: l)
noncomputable def Told (h : Heap) (v : Value) (k : Int) (tv : TV) : Prop := ∃ a t v', v = .ref a ∧ IsT h a [.int k t, v'] ∧ tv.is v'
section
variable {A : Around} {hE h h' : Heap}
theorem law_told_ (G : GG w hT) (up : Grown hT hE) (room : Room A 1) {v : Value} {k : Int} {tv : TV} (T : TokV hE v k tv) :
    W prog w A (call (.ref 539) [v] []) hE fun r h' => Told h' r k tv ∧ Keeps hE h' [] := by
  obtain ⟨a, rfl, d, t, v', hv, I⟩ := T
  have hin : handedIn v' = true := by
    cases tv with
    | none => rw [show v' = .none from hv]; rfl
    | num n => obtain ⟨t, rfl⟩ := hv; rfl
    | str l => obtain ⟨t, rfl⟩ := hv; rfl
  refine W_fn (F := []) (P := fun L => IP L a d 262 (tokAl k t v')) (rest := []) (fr := [(Str.ofString "token", some (.ref a))]) G up room (k_law_told _) (c_law_told _) rfl (b_law_told _) f_law_told rfl rfl no_pF (fun L h2 n2 k2 => ⟨I.keeps k2 List.not_mem_nil List.not_mem_nil, fresh_ne n2 I.some.1, fresh_ne n2 I.some.2⟩) (fun L => IP.ps) ?_
  intro L h S R Q0 q0
  k_extra "ww"
  refine W_get (S.X G) S.p.i (ok_Token _) (a_Token_kind _) rfl rfl ?_
  k_extra "ww"
  refine W_get (S.X G) S.p.i (ok_Token _) (a_Token_value _) rfl hin ?_
  k_extra "ww"
  exact ⟨⟨a1, _, _, rfl, x1, hv⟩, S.kp⟩
end
section
variable {A : Around} {hE h h' : Heap} {X : LX} {bl : Addr} {bs : List UInt8} {al : List (Str × Value)}
theorem LexC.keepsL {a : Addr} {vs : List Value} (c : LexC prog w hT h X bl bs al) (x : IsL h a vs) (k : Keeps h h' [a]) : LexC prog w hT h' X bl bs al := by
  obtain ⟨n, e⟩ := x
  refine c.keeps k ⟨notIn1 ?_, notIn1 ?_, notIn1 ?_, notIn1 ?_, notIn1 ?_, notIn1 ?_⟩
  · rintro rfl
    have := c.i.ob.symm.trans e
    simp at this
  · rintro rfl
    obtain ⟨es, ep, q, _⟩ := c.i.ad
    have := q.symm.trans e
    simp [dictO] at this
  · rintro rfl
    obtain ⟨_, _, _, I, _⟩ := c.m.ex
    have := I.ob.symm.trans e
    simp at this
  · rintro rfl
    obtain ⟨_, _, _, I, _⟩ := c.m.ex
    obtain ⟨es, ep, q, _⟩ := I.ad
    have := q.symm.trans e
    simp [dictO] at this
  · rintro rfl
    obtain ⟨o, es, ep, q, hd, r⟩ := c.k
    have e2 := Option.some.inj (q.symm.trans e)
    subst e2
    cases r.1
  · rintro rfl
    have := (show h.get? bl = some _ from c.b).symm.trans e
    simp [baO] at this
structure LTP (prog : Program) (w : World) (hT hE : Heap) (X : LX) (L bl : Addr) (bs : List UInt8) (al : List (Str × Value)) (fl : Addr) (fvs : List Value) (pl : Addr) (pvs : List Value) (toks : List (Int × TV)) (h : Heap) : Prop where
  c : LexC prog w hT h X bl bs al
  Ln : L ≠ X.l ∧ L ≠ X.dl ∧ L ≠ X.lim ∧ L ≠ X.dlim ∧ L ≠ X.kd ∧ L ≠ bl
  Lf : L ≠ fl ∧ L ≠ pl ∧ fl ≠ pl
  f : IsL h fl fvs
  p : IsL h pl pvs
  D : FoundX L h fvs toks
  new : hE.get? X.dl = none ∧ hE.get? bl = none ∧ hE.get? fl = none ∧ hE.get? pl = none
theorem LexC.keepsN {L : Addr} (c : LexC prog w hT h X bl bs al) (n : L ≠ X.l ∧ L ≠ X.dl ∧ L ≠ X.lim ∧ L ≠ X.dlim ∧ L ≠ X.kd ∧ L ≠ bl) (k : Keeps h h' [L]) : LexC prog w hT h' X bl bs al :=
  c.keeps k ⟨notIn1 n.1.symm, notIn1 n.2.1.symm, notIn1 n.2.2.1.symm, notIn1 n.2.2.2.1.symm, notIn1 n.2.2.2.2.1.symm, notIn1 n.2.2.2.2.2.symm⟩
theorem LTP.ps {L fl pl : Addr} {fvs pvs : List Value} {toks : List (Int × TV)} (h h' : Heap) (k : Keeps h h' [L]) (p : LTP prog w hT hE X L bl bs al fl fvs pl pvs toks h) : LTP prog w hT hE X L bl bs al fl fvs pl pvs toks h' :=
  ⟨p.c.keepsN p.Ln k, p.Ln, p.Lf, p.f.keeps k (notIn1 p.Lf.1.symm), p.p.keeps k (notIn1 p.Lf.2.1.symm), p.D.keeps k (fun x m => .inl (by simpa using m)), p.new⟩
theorem IsL.sepX {a : Addr} {vs : List Value} (x : IsL h a vs) (c : LexC prog w hT h X bl bs al) : a ∉ [X.dl, bl] := by
  obtain ⟨n, e⟩ := x
  refine not2 ?_ ?_
  · rintro rfl
    obtain ⟨es, ep, q, _⟩ := c.i.ad
    have := q.symm.trans e
    simp [dictO] at this
  · rintro rfl
    have := (show h.get? _ = Option.some _ from c.b).symm.trans e
    simp [baO] at this
theorem LTP.lex {L fl pl bl' : Addr} {bs' : List UInt8} {al' : List (Str × Value)} {fvs pvs : List Value} {toks : List (Int × TV)} (p : LTP prog w hT hE X L bl bs al fl fvs pl pvs toks h) (e : al.lookup (Str.ofString "kind") = none) (hL : ∃ o, h.get? L = some o) (hEh : ∀ a, h.get? a = none → hE.get? a = none) (c : LexC prog w hT h' X bl' bs' al') (k : Keeps h h' [X.dl, bl]) (nb : bl' = bl ∨ h.get? bl' = none) :
    LTP prog w hT hE X L bl' bs' al' fl fvs pl pvs toks h' := by
  refine ⟨c, ⟨p.Ln.1, p.Ln.2.1, p.Ln.2.2.1, p.Ln.2.2.2.1, p.Ln.2.2.2.2.1, ?_⟩, p.Lf, p.f.keeps k (p.f.sepX p.c), p.p.keeps k (p.p.sepX p.c), p.D.keeps k (fun x m => .inr (p.c.ntok e x m)), p.new.1, ?_, p.new.2.2⟩
  · rcases nb with rfl | q
    · exact p.Ln.2.2.2.2.2
    · exact (fresh_ne q hL).symm
  · rcases nb with rfl | q
    · exact p.new.2.1
    · exact hEh _ q
theorem LTP.found {L fl pl : Addr} {fvs pvs : List Value} {toks : List (Int × TV)} {v : Value} {k : Int} {tv : TV} (p : LTP prog w hT hE X L bl bs al fl fvs pl pvs toks h) (T : TokX L h v k tv) (K : Keeps h h' [fl]) (x : IsL h' fl (fvs ++ [v])) :
    LTP prog w hT hE X L bl bs al fl (fvs ++ [v]) pl pvs (toks ++ [(k, tv)]) h' ∧ TokX L h' v k tv := by
  have n : ∀ x ∈ [fl], x = L ∨ NTok h x := (all1 (.inr (NTok.list p.f)))
  exact ⟨⟨p.c.keepsL p.f K, p.Ln, p.Lf, x, p.p.keeps K (notIn1 p.Lf.2.2.symm), (p.D.keeps K n).snoc (T.keeps K n), p.new⟩, T.keeps K n⟩
theorem LTP.place {L fl pl : Addr} {fvs pvs pvs' : List Value} {toks : List (Int × TV)} {v : Value} {k : Int} {tv : TV} (p : LTP prog w hT hE X L bl bs al fl fvs pl pvs toks h) (T : TokX L h v k tv) (K : Keeps h h' [pl]) (x : IsL h' pl pvs') :
    LTP prog w hT hE X L bl bs al fl fvs pl pvs' toks h' ∧ TokX L h' v k tv := by
  have n : ∀ x ∈ [pl], x = L ∨ NTok h x := (all1 (.inr (NTok.list p.p)))
  exact ⟨⟨p.c.keepsL p.p K, p.Ln, p.Lf, p.f.keeps K (notIn1 p.Lf.2.2), x, p.D.keeps K n, p.new⟩, T.keeps K n⟩
end
section
variable {A : Around} {hE h h' : Heap}
theorem Lexes.first {T : List UInt8} {p : Nat} {l : List (Int × TV × Nat)} (x : Lexes T p l) : ∃ n q k tv p', Skips T p n q ∧ Tk T q k tv p' ∧ ((k = 287 ∧ tv = .none ∧ p' = T.length ∧ l = []) ∨ (k ≠ 287 ∧ ∃ l', Lexes T p' l' ∧ l = (k, tv, p') :: l')) := by
  cases x with
  | eos _ n s => exact ⟨n, T.length, 287, .none, T.length, s, .eos (by simp), .inl ⟨rfl, rfl, rfl, rfl⟩⟩
  | tok _ n q p' k tv l s t hk r => exact ⟨n, q, k, tv, p', s, t, .inr ⟨hk, l, r, rfl⟩⟩
noncomputable def toksOf (l : List (Int × TV × Nat)) : List (Int × TV) := l.map fun x => (x.1, x.2.1)
noncomputable def placesOf (l : List (Int × TV × Nat)) : List Int := l.map fun x => (x.2.2 : Int)
noncomputable abbrev ltFr (T : List UInt8) (t : Tok) (X : LX) (fl pl : Addr) (cv : Option Value) : Fra := [(Str.ofString "text", some (.bytes T.toArray t)), (Str.ofString "lexer", some (.ref X.l)), (Str.ofString "found", some (.ref fl)), (Str.ofString "places", some (.ref pl)), (Str.ofString "token", cv)]
structure LTQ (prog : Program) (w : World) (hT hE : Heap) (X : LX) (L bl : Addr) (bs : List UInt8) (al : List (Str × Value)) (fl : Addr) (fvs : List Value) (pl : Addr) (pvs : List Value) (toks : List (Int × TV)) (v : Value) (k : Int) (tv : TV) (h : Heap) : Prop where
  p : LTP prog w hT hE X L bl bs al fl fvs pl pvs toks h
  t : TokX L h v k tv
theorem LTQ.ps {X : LX} {L bl : Addr} {bs : List UInt8} {al : List (Str × Value)} {fl : Addr} {fvs : List Value} {pl : Addr} {pvs : List Value} {toks : List (Int × TV)} {v : Value} {k : Int} {tv : TV} (h h' : Heap) (K : Keeps h h' [L]) (p : LTQ prog w hT hE X L bl bs al fl fvs pl pvs toks v k tv h) : LTQ prog w hT hE X L bl bs al fl fvs pl pvs toks v k tv h' :=
  ⟨p.p.ps _ _ K, p.t.keeps K fun x m => .inl (List.mem_singleton.mp m)⟩
inductive LTI (hE : Heap) (L fl pl : Addr) (t : Tok) (X : LX) (l : List (Int × TV × Nat)) (T : List UInt8) (n : Nat) (h : Heap) : Prop
  | mk (p : Nat) (j : LJ) (bl : Addr) (bs : List UInt8) (v : Value) (k : Int) (tv : TV) (dn : List (Int × TV × Nat)) (fvs pvs : List Value) (hb : bs.length ≤ 100) (jk : j.ok p) (hi : Ints pvs (placesOf dn)) (hn : dn.length + n = l.length)
    (st : (n = 0 ∧ k = 287 ∧ dn = l) ∨ (k ≠ 287 ∧ ∃ l', n = l'.length + 1 ∧ Lexes X.T p l' ∧ dn ++ (k, tv, p) :: l' = l))
    (S : St hT hE [] (callEnv fd_law_tokens L 546) (ltFr T t X fl pl (some v)) (LTQ prog w hT hE X L bl bs (lexAl X p (sgn X.T p) j bl v .none) fl fvs pl pvs (toksOf dn) v k tv) h)
theorem law_tokens_ (G : GG w hT) (up : Grown hT hE) (room : Room A 9) {T : List UInt8} {t : Tok} {l : List (Int × TV × Nat)} (hz : T.length ≤ 900) (hl : l.length ≤ 900) (lx : Lexes T 0 l) :
    W prog w A (call (.ref 546) [.bytes T.toArray t] []) hE fun r h' => (∃ a fl pl fvs pvs, r = .ref a ∧ IsT h' a [.ref fl, .ref pl] ∧ IsL h' fl fvs ∧ (∃ L, FoundX L h' fvs (toksOf l)) ∧ IsL h' pl pvs ∧ Ints pvs (placesOf l) ∧ hE.get? fl = none ∧ hE.get? pl = none) ∧ Keeps hE h' [] := by
  refine W_fn (F := []) (P := fun _ _ => True) (rest := [Str.ofString "lexer", Str.ofString "found", Str.ofString "places", Str.ofString "token"]) (fr := [(Str.ofString "text", some (.bytes T.toArray t)), (Str.ofString "lexer", none), (Str.ofString "found", none), (Str.ofString "places", none), (Str.ofString "token", none)]) G up room (k_law_tokens _) (c_law_tokens _) rfl (b_law_tokens _) f_law_tokens rfl rfl no_pF (fun _ _ _ _ => trivial) (fun _ _ _ _ _ => trivial) ?_
  intro L h S R Q0 q0
  k_extra "ww"
  refine (lim_new_ G S.up (R.le (by decide))).mono ?_
  rintro _ h ⟨⟨lim, dlim, rfl, nl1, nl2, LM⟩, k⟩
  have q1 := S.ne nl1
  have q2 := S.ne nl2
  replace S := S.same k
  clear k
  k_extra "ww"
  refine (lex_new_ G S.up (R.le (by decide)) hz LM).mono ?_
  rintro _ h2 ⟨⟨X, bl, cur, j, rfl, eT, rfl, lc, jk, tc, f1, f2, f3, f4, f5⟩, k⟩
  subst f5
  have ln : L ≠ X.l ∧ L ≠ X.dl ∧ L ≠ X.lim ∧ L ≠ X.dlim ∧ L ≠ X.kd ∧ L ≠ bl := ⟨S.ne f1, S.ne f2, q1, q2, S.ne f4, S.ne f3⟩
  have g2 := S.new f2 List.not_mem_nil
  have g3 := S.new f3 List.not_mem_nil
  replace S := S.step (P' := fun h => LexC prog w hT h X bl [] (lexAl X 0 (sgn X.T 0) j bl cur .none)) k (fun _ m => nomatch m) (fun m => nomatch m) lc (fun h h' k c => c.keepsN ln k)
  clear k
  refine A_cons (W_list (A_nil ⟨Nat.le_of_ble_eq_true rfl, fun fl h3 n3 k3 x3 => ?_⟩)) rfl
  have lf := S.ne n3
  have g4 := S.new n3 List.not_mem_nil
  replace S := S.addL k3 x3 lf
  refine A_cons (W_list (A_nil ⟨Nat.le_of_ble_eq_true rfl, fun pl h4 n4 k4 x4 => ?_⟩)) rfl
  have lp := S.ne n4
  have g5 := S.new n4 List.not_mem_nil
  have fp : fl ≠ pl := (fresh_ne n4 S.p.2.some).symm
  replace S := S.addL k4 x4 lp
  k_extra "ww"
  have n0 : h.Ns L _ := S.ns
  have S3 : St hT hE [] _ (ltFr T t X fl pl none) (fun h => LTP prog w hT hE X L bl [] (lexAl X 0 (sgn X.T 0) j bl cur .none) fl [] pl [] [] h) h := S.turn ⟨S.p.1.1, ln, ⟨lf, lp, fp⟩, S.p.1.2, S.p.2, FoundX.nil, ⟨g2, g3, g4, g5⟩⟩ LTP.ps
  clear S x4 x3 k4 k3 n4 n3 lc
  have S := S3
  clear S3
  refine W_getm (S.X G) S.p.c.i (ok_Lexer _) (m_next _).1 (m_next _).2 rfl ?_
  k_extra "ww"
  obtain ⟨n, q, k, tv, p', sk, tk, lx2⟩ := lx.first
  rw [← eT] at sk tk
  refine (lex_next_n G S.up (R.le (by decide)) sk tk S.p.c jk).mono ?_
  rintro v h5 ⟨t1, bs1, hb1, j, bl1, lc, jk, kk, nb⟩
  have S5 := S.step (P' := fun h => LTP prog w hT hE X L bl1 bs1 (lexAl X p' (sgn X.T p') j bl1 v .none) fl [] pl [] [] h) kk (fun a m => .inr (by
    simp only [List.mem_cons, List.not_mem_nil, or_false] at m
    rcases m with rfl | rfl
    · exact g2
    · exact S.p.new.2.1)) (not2 ln.2.1 S.p.Ln.2.2.2.2.2) (S.p.lex rfl S.locs (fun a e => S.new e List.not_mem_nil) lc kk nb) LTP.ps
  clear S
  have TX := t1.x (NTok.ns S5.ns rfl)
  have S : St hT hE [] _ (ltFr T t X fl pl none) (LTQ prog w hT hE X L bl1 bs1 (lexAl X p' (sgn X.T p') j bl1 v .none) fl [] pl [] [] v k tv) h5 := S5.turn ⟨S5.p, TX⟩ LTQ.ps
  clear S5 TX t1 kk nb lc
  k_extra "ww"
  clear n0 sk tk q n
  refine CW_down (I := LTI hE L fl pl t X l T) ?_ ?_ l.length
      ⟨p', j, bl1, bs1, v, k, tv, [], [], [], hb1, jk, .nil, Nat.zero_add _, ?_, S⟩
  · clear S lx2 hb1 jk j bl1 bs1 v k tv p' h
    rintro n ih h ⟨p, j, bl1, bs1, v, k, tv, dn, fvs, pvs, hb1, jk, hi, hn, st, S⟩
    rcases st with ⟨e, _⟩ | ⟨hk, l', en, lx2, el⟩
    · cases e
    have en' : n = l'.length := by omega
    subst en'
    obtain ⟨a, d, t0, v', rfl, hv, I, m1, m2⟩ := S.p.t
    have hf : fvs.length ≤ 1000000 := by
      have := S.p.p.D.len
      unfold toksOf at this
      rw [List.length_map] at this
      omega
    have hp : pvs.length ≤ 1000000 := by
      have := hi.length
      unfold placesOf at this
      rw [List.length_map] at this
      omega
    refine CW_turn fun Q2 q2 => ?_
    k_extra "ww"
    refine W_get (S.X G) I (ok_Token _) (a_Token_kind _) rfl rfl ?_
    clear I
    k_extra "oo"
    refine L_getm_append S.p.p.f ?_
    k_extra "ww"
    refine L_append S.p.p.f hf fun h2 k2 x2 => ?_
    obtain ⟨p2, t2⟩ := S.p.p.found S.p.t k2 x2
    have S2 := S.step (P' := LTQ prog w hT hE X L bl1 bs1 (lexAl X p (sgn X.T p) j bl1 (.ref a) .none) fl (fvs ++ [.ref a]) pl pvs (toksOf dn ++ [(k, tv)]) (.ref a) k tv) k2 ((all1 (.inr (g4)))) (notIn1 lf) ⟨p2, t2⟩ LTQ.ps
    clear S k2 x2 p2 t2 h
    have S := S2
    clear S2
    k_extra "ww"
    refine L_getm_append S.p.p.p ?_
    k_extra "ww"
    refine W_get (S.X G) S.p.p.c.i (ok_Lexer _) (a_Lexer_at _) rfl rfl ?_
    k_extra "ww"
    refine L_append S.p.p.p hp fun h2 k2 x2 => ?_
    obtain ⟨p2, t2⟩ := S.p.p.place S.p.t k2 x2
    have S2 := S.step (P' := LTQ prog w hT hE X L bl1 bs1 (lexAl X p (sgn X.T p) j bl1 (.ref a) .none) fl (fvs ++ [.ref a]) pl (pvs ++ [.int p j.tA]) (toksOf dn ++ [(k, tv)]) (.ref a) k tv) k2 ((all1 (.inr (g5)))) (notIn1 lp) ⟨p2, t2⟩ LTQ.ps
    clear S k2 x2 p2 t2
    have S := S2
    clear S2
    k_extra "ww"
    refine W_getm (S.X G) S.p.p.c.i (ok_Lexer _) (m_next _).1 (m_next _).2 rfl ?_
    k_extra "ww"
    obtain ⟨n', q, k', tv', p', sk, tk, lx3⟩ := lx2.first
    refine (lex_next_n G S.up (R.le (by decide)) sk tk S.p.p.c jk).mono ?_
    rintro v2 h5 ⟨t1, bs2, hb2, j2, bl2, lc, jk2, kk, nb⟩
    have S5 := S.step (P' := LTP prog w hT hE X L bl2 bs2 (lexAl X p' (sgn X.T p') j2 bl2 v2 .none) fl (fvs ++ [.ref a]) pl (pvs ++ [.int p j.tA]) (toksOf dn ++ [(k, tv)])) kk (fun a m => .inr (by
      simp only [List.mem_cons, List.not_mem_nil, or_false] at m
      rcases m with rfl | rfl
      · exact g2
      · exact S.p.p.new.2.1)) (not2 ln.2.1 S.p.p.Ln.2.2.2.2.2) (S.p.p.lex rfl S.locs (fun a e => S.new e List.not_mem_nil) lc kk nb) LTP.ps
    clear S
    have TX := t1.x (NTok.ns S5.ns rfl)
    have S := S5.turn (P' := LTQ prog w hT hE X L bl2 bs2 (lexAl X p' (sgn X.T p') j2 bl2 v2 .none) fl (fvs ++ [.ref a]) pl (pvs ++ [.int p j.tA]) (toksOf dn ++ [(k, tv)]) v2 k' tv') ⟨S5.p, TX⟩ LTQ.ps
    clear S5 TX t1 kk nb lc
    k_extra "ww"
    have et : toksOf dn ++ [(k, tv)] = toksOf (dn ++ [(k, tv, p)]) := by unfold toksOf; rw [List.map_append]; rfl
    have ep : placesOf dn ++ [(p : Int)] = placesOf (dn ++ [(k, tv, p)]) := by unfold placesOf; rw [List.map_append]; rfl
    have hi2 := hi.snoc p j.tA
    rw [et] at S
    rw [ep] at hi2
    refine ih _ ⟨p', j2, bl2, bs2, v2, k', tv', dn ++ [(k, tv, p)], _, _, hb2, jk2, hi2, by rw [List.length_append]; simp only [List.length_cons, List.length_nil]; omega, ?_, S⟩
    rcases lx3 with ⟨a1, _, _, a4⟩ | ⟨a1, l2, a2, a3⟩
    · subst a4
      exact .inl ⟨rfl, a1, by rw [← el]⟩
    · subst a3
      exact .inr ⟨a1, l2, rfl, a2, by rw [← el]; simp⟩
  · clear S lx2 hb1 jk j bl1 bs1 v k tv p' h
    rintro h ⟨p, j, bl1, bs1, v, k, tv, dn, fvs, pvs, hb1, jk, hi, hn, st, S⟩
    rcases st with ⟨_, rfl, rfl⟩ | ⟨_, l', en, _⟩
    · obtain ⟨a, d, t0, v', rfl, hv, I, m1, m2⟩ := S.p.t
      refine CW_turn fun Q2 q2 => ?_
      k_extra "ww"
      refine W_get (S.X G) I (ok_Token _) (a_Token_kind _) rfl rfl ?_
      clear I
      k_extra "dd"
      exact ⟨⟨a1, fl, pl, fvs, pvs, rfl, x1, S.p.p.f, ⟨L, S.p.p.D⟩, S.p.p.p, hi, g4, g5⟩, S.kp⟩
    · cases en
  · rcases lx2 with ⟨a, _, _, d⟩ | ⟨a, l', b, c⟩
    · exact .inl ⟨by rw [d]; rfl, a, d.symm⟩
    · exact .inr ⟨a, l', by rw [c]; rfl, eT ▸ b, c.symm⟩
end
noncomputable abbrev excMro : List Value := [.ref 74, .type "Exception", .type "BaseException", .type "object"]
noncomputable abbrev lseObj : Obj := excClassObj (Str.ofString "LuaSyntaxError") (Str.ofString "LuaSyntaxError") 87 86 [.ref 74] excMro true [] [] false none none (some (.ref 78)) none (some (.str (Str.ofString "LuaSyntaxError") 300)) (some (.str (Str.ofString "LuaSyntaxError") 308)) (some (.bool true)) "Exception.__new__"
theorem k_lse (P : Params) : List.lookup 87 (KK P) = some lseObj := by kernel_rfl
theorem m_err_init (P : Params) : findIn (KK P) (.ref 87) (Str.ofString "__init__") = some (some (.ref 71)) ∧ isFn (KK P) (.ref 71) = true := ⟨by kernel_rfl, by kernel_rfl⟩
theorem m_err_set (P : Params) : findIn (KK P) (.ref 87) (Str.ofString "__setattr__") = some (some (.builtin "object.__setattr__")) := by kernel_rfl
theorem t_err_value (P : Params) : takerIn (KK P) 87 (Str.ofString "value") = some none := by kernel_rfl
theorem t_err_trace (P : Params) : takerIn (KK P) 87 (Str.ofString "trace") = some none := by kernel_rfl
theorem t_err_is (P : Params) : takerIn (KK P) 87 (Str.ofString "is_in_handler") = some none := by kernel_rfl
noncomputable def excO (t : Addr) (od : Option Addr) : Obj := { cls := .ref 87, dict := od, data := .fields #[.ref t, .none, .none, .none, .bool false, .none] }
section
variable {A : Around} {R : Result → Shared → Prop} {h : Heap} {g : Array GenState} {d : Drawn} {t : Nat} {os : OsState}
theorem exc_check {M : Model} {E : Value → Shared → Prop} {rest : List Value} {Q : Unit → Shared → Prop} (hC : h.get? 87 = some lseObj) (hq : Q () ⟨h, g, d, t, os⟩) : wpAny M A (checkBuiltinCall "Exception.__new__" ⟨.ref 87 :: rest, []⟩) Q E ⟨h, g, d, t, os⟩ := by
  have Fn := F.excBase_Exception
  have hcont : (Value.ref 87 :: excMro).contains (.type "Exception") = true := by decide +kernel
  have hstar := Fn.noStar
  simp only [checkBuiltinCall, Fn.newKind, Fn.newSplit, Fn.newRow]
  repeat (first | refine wpAny_loadPart_at hC ?_ | (refine wpAny_isSubtype_exc hC ?_; rw [hcont]) | refine wpAny_staticBase_exc hC ?_ | refine wpAny_madeBy_exc hC ?_ | simp only [bne_self_eq_false, Bool.false_eq_true, if_false] | wp_step)
  exact hq
theorem exc_new {rest : List Value} (hC : h.get? 87 = some lseObj)
    (hq : R (.ok (.ret (.ref (h.objs.size + 1)))) ⟨(h.push { cls := .type "tuple", data := .seq rest.toArray }).push (excO h.objs.size none), g, d, t, os⟩) (hrest : rest.length ≤ sizeLine) :
    codeAny (model prog w) A (.builtin "Exception.__new__" ⟨.ref 87 :: rest, []⟩) R ⟨h, g, d, t, os⟩ := by
  have Fn := F.excBase_Exception
  have hends := Fn.ends
  have hcB : (Value.ref 87 :: excMro).contains (.type "Exception") = true := by decide +kernel
  have hcA : (Value.ref 87 :: excMro).contains (.type "AttributeError") = false := by decide +kernel
  have hcN : (Value.ref 87 :: excMro).contains (.type "NameError") = false := by decide +kernel
  refine codeAny_builtinAt Fn.entry ?_
  unfold Builtin.«BaseException.__new__»
  refine PySem.wpAt_bind ?_
  show PySem.wpAt _ _ _ (stack >>= _) _ _ _
  refine PySem.wpAt_bind (PySem.wpAt_stack fun p below => PySem.wpAt_of_wpAny ?_)
  wp_walk
  refine PySem.wpAt_of_wpAny ?_
  rw [Fn.owner]
  repeat (first | with_reducible refine wpAny_madeHere_exc Fn.canon hC ?_ | with_reducible refine wpAny_loadPart_at hC ?_ | (with_reducible refine wpAny_isSubtype_exc hC ?_; first | rw [hcB] | rw [hcA] | rw [hcN]) | wp_step)
  show R _ _
  rw [Heap.size_push]
  exact hq
end
section
variable {A : Around} {h : Heap}
theorem Lk_clsE {M : Model} (hC : h.get? 87 = some lseObj) {B : Value} {b : Bool} (hb : (Value.ref 87 :: excMro).contains B = b) : Looks M h (isSubtype (.ref 87) B) b := by
  intro A Q E s k q
  obtain ⟨hh, g, d, tk, os⟩ := s
  refine wpAny_isSubtype_exc (k _ _ hC) ?_
  rw [hb]; exact q
theorem Lk_mroE {M : Model} (hC : h.get? 87 = some lseObj) : Looks M h (mroOf (.ref 87)) (.ref 87 :: excMro) := by
  intro A Q E s k q
  obtain ⟨hh, g, d, tk, os⟩ := s
  exact wpAny_mroOf_exc (k _ _ hC) q
theorem Lk_typeE {M : Model} {e t : Addr} {od : Option Addr} (x : h.get? e = some (excO t od)) : Looks M h (typeOf (.ref e)) (.ref 87) := (Looks.ld x).andThen .now
theorem refuse_exc (self : Value) : refuseLoop self "__setattr__" (.ref 87 :: excMro) = pure () := by
  rw [refuseLoop_ref, refuseLoop_ref]
  exact PySem.F.store_Exception.passes self
theorem inst_exc {e t : Addr} {od : Option Addr} (x : h.get? e = some (excO t od)) (hd : ∀ d, od = some d → ∃ o, h.get? d = some o) : ∃ od', InstAt h e (excO t od) 87 od' := by
  cases od with
  | none => exact ⟨none, x, rfl, rfl, trivial⟩
  | some d => obtain ⟨o, q⟩ := hd d rfl; exact ⟨some o, x, rfl, rfl, q⟩
theorem exc_set {g : Array GenState} {dd : Drawn} {tk : Nat} {os : OsState} {E : Value → Shared → Prop} {e t : Addr} {od : Option Addr} {name : Str} {v : Value} {Q : Unit → Shared → Prop} (X : (KK w.params).In h) (x : h.get? e = some (excO t od)) (hd : ∀ d, od = some d → ∃ o, h.get? d = some o)
    (ht : takerIn (KK w.params) 87 name = some none)
    (H : ∀ b, wpAny (model prog w) A.in1 (PySem.Builtin.ObjectAttr.storeInOwnDict (.ref e) (.ref 87) (.str name tk) name v b) (fun fin s' => ∃ r, fin = PySem.Fin.done (.ret r) ∧ Q () s') (fun e s' => E e s') ⟨h, g, dd, tk + 1, os⟩) :
    wpAny (model prog w) A (setAttr (.ref e) name v) Q E ⟨h, g, dd, tk, os⟩ := by
  obtain ⟨od', I⟩ := inst_exc x hd
  have hC : h.get? 87 = some lseObj := X _ _ (k_lse _)
  refine set_plain (s := ⟨h, g, dd, tk, os⟩) X I (m_err_set _) ?_
  have SF := PySem.F.store_object
  have sub : Looks (model prog w) h (isInstance (.ref e) (.type "object")) true := (Lk_typeE x).andThen (Lk_clsE hC (by decide +kernel))
  refine codeAny_call_builtin SF.slot.plain SF.entry (@check_slot (model prog w) _ _ ⟨h, g, dd, tk + 1, os⟩ "object.__setattr__" "object" "__setattr__" (.ref e) [.str name tk, v] [] _ SF.kind SF.split sub (SF.args (.ref e) (.str name tk) v) ?_)
  obtain ⟨attr, ha, hr⟩ := Option.bind_eq_some_iff.mp ht
  have L3 : Looks (model prog w) h (PySem.Builtin.ObjectAttr.storeTaker? attr) none := by
    cases attr with
    | none => exact .now
    | some a =>
      obtain ⟨b, hb, hr⟩ := Option.map_eq_some_iff.mp hr
      cases b with
      | true => cases hr
      | false => exact (looks_takesIn X hb).andThen .now
  rw [osa_eq, refuse_eq]
  refine wpAny_bind (wpAny_bind ((Lk_typeE x).here (wpAny_bind ((Lk_mroE hC).here ?_))))
  rw [refuse_exc]
  refine wpAny_pure (wpAny_bind ((Lk_typeE x).here (wpAny_bind ((looks_findIn X ha).here (wpAny_bind (L3.here ?_))))))
  refine wpAny_mono (H _) (fun fin s' ⟨r, e, q⟩ => ?_) fun _ _ z => z
  subst e
  exact q
theorem dict_store {g : Array GenState} {dd : Drawn} {tk tk0 : Nat} {os : OsState} {E : Value → Shared → Prop} {d : Addr} {al : List (Str × Value)} {name : Str} {v : Value} {Q : PySem.Fin → Shared → Prop} (D : ADict h d al) (hz : al.length ≤ 1000)
    (q : ∀ h' tk', Keeps h h' [d] → ADict h' d ((name, v) :: al) → Q (.done (.ret .none)) ⟨h', g, dd, tk', os⟩) : wpAny (model prog w) A (PySem.Builtin.ObjectAttr.storeInDict d (.str name tk) name v) Q E ⟨h, g, dd, tk0, os⟩ := by
  obtain ⟨es, ep, e, sk, f, z⟩ := D
  obtain ⟨es', ep', ep1, sk', f', z', zz⟩ := put_obj (es := es) (ep := ep) name (PyData.keyHash w.params name) tk0 v sk
  unfold PySem.Builtin.ObjectAttr.storeInDict PySem.Builtin.ObjectAttr.newKeyGuard
  refine wpAny_bind (wpAny_pure (wpAny_bind ?_))
  unfold nsSet
  refine wpAny_bind (wpAny_bind (wpAny_askSetting (wpAny_pure (wpAny_bind (wpAny_mkText (wpAny_bind (wpAny_loadPart e ?_)))))))
  have hany : es.any (·.refKey) = false := by
    rw [Array.any_eq_false']; intro e he; obtain ⟨n, t, h⟩ := sk e he; simp [DictEntry.refKey, h]
  show wpAny _ _ (if aRefKeyMayBeTheName name es = true then _ else _) _ _ _
  rw [aRefKeyMayBeTheName_eq, aRefKeyMayBeTheNameByArray, hany, Bool.and_false]
  refine wpAny_updatePart e ?_
  have D' : (h.update d (Obj.putName name (PyData.keyHash w.params name) (.str name tk0) v)).get? d = some (dictO es' ep') := by
    rw [Heap.get?_update_self _ e (by rw [ep1]; rfl), ep1]
  refine wpAny_bind (wpAny_lookBehind D' (pastItsLine_dict (by rw [sizeLine_eq]; omega)) ?_)
  have hk : Keeps h (h.update d (Obj.putName name (PyData.keyHash w.params name) (.str name tk0) v)) [d] := fun b o eb nb =>
    (Heap.get?_update_ne _ _ _ _ fun q => nb (by rw [q]; exact List.mem_singleton_self _)).trans eb
  refine wpAny_pure (q _ _ hk ⟨es', ep', D', sk', fun y => ?_, ?_⟩)
  · rw [f', f, List.lookup_cons]
    by_cases hy : y = name
    · subst hy; simp
    · have : (y == name) = false := by simpa using hy
      simp [this, hy]
  · rw [List.length_cons]; omega
theorem W_setE0 {e t : Addr} {name : Str} {v : Value} {Q : Unit → Heap → Prop} (X : (KK w.params).In h) (x : h.get? e = some (excO t none)) (ht : takerIn (KK w.params) 87 name = some none)
    (q : ∀ d h', h.get? d = none → Keeps h h' [e] → h'.get? e = some (excO t (some d)) → ADict h' d [(name, v)] → Q () h') : W prog w A (setAttr (.ref e) name v) h Q := by
  have hC : h.get? 87 = some lseObj := X _ _ (k_lse _)
  refine W.any fun g dd tk os QQ EE k => exc_set X x (fun d e => nomatch e) ht fun b => ?_
  unfold PySem.Builtin.ObjectAttr.storeInOwnDict
  generalize hS : PySem.Builtin.ObjectAttr.storeInDict = sd
  unfold excO at x
  have hp : (h.push emptyDict).get? e = some _ := Heap.get?_push_of_some _ x
  have hne : e ≠ h.objs.size := Nat.ne_of_lt (Heap.lt_size x)
  repeat (first | with_reducible refine wpAny_loadPart_at x ?_ | with_reducible refine wpAny_loadPart_at hC ?_ | wp_step)
  subst hS
  have hd : ((h.push emptyDict).update e fun o => { cls := o.cls, dict := some h.objs.size, data := o.data, slots := o.slots }).get? h.objs.size = some emptyDict :=
    (Heap.get?_update_ne _ _ _ _ hne.symm).trans (push_new rfl)
  have hx : ((h.push emptyDict).update e fun o => { cls := o.cls, dict := some h.objs.size, data := o.data, slots := o.slots }).get? e = some (excO t (some h.objs.size)) :=
    Heap.get?_update_self _ hp rfl
  refine dict_store (ADict.empty hd) (Nat.zero_le _) fun h' tk' k1 D' => ⟨_, rfl, k _ _ _ (q _ _ size_new (fun b o eb nb => ?_) (k1 _ _ hx (notIn1 hne)) D')⟩
  have hb : b ≠ h.objs.size := Nat.ne_of_lt (Heap.lt_size eb)
  exact k1 _ _ ((Heap.get?_update_ne _ _ _ _ (fun q => nb (by rw [q]; exact List.mem_singleton_self _))).trans (Heap.get?_push_of_some _ eb)) (notIn1 hb)
theorem W_setE1 {e t d : Addr} {al : List (Str × Value)} {name : Str} {v : Value} {Q : Unit → Heap → Prop} (X : (KK w.params).In h) (x : h.get? e = some (excO t (some d))) (D : ADict h d al) (hz : al.length ≤ 1000) (ht : takerIn (KK w.params) 87 name = some none)
    (q : ∀ h', Keeps h h' [d] → h'.get? e = some (excO t (some d)) → ADict h' d ((name, v) :: al) → Q () h') : W prog w A (setAttr (.ref e) name v) h Q := by
  have hC : h.get? 87 = some lseObj := X _ _ (k_lse _)
  refine W.any fun g dd tk os QQ EE k => exc_set X x (fun d' e => by cases e; exact D.some) ht fun b => ?_
  unfold PySem.Builtin.ObjectAttr.storeInOwnDict
  generalize hS : PySem.Builtin.ObjectAttr.storeInDict = sd
  have hne : e ≠ d := by
    rintro rfl
    obtain ⟨es, ep, q, _⟩ := D
    have := x.symm.trans q
    simp [excO, dictO] at this
  have x0 := x
  unfold excO at x
  repeat (first | with_reducible refine wpAny_loadPart_at x ?_ | with_reducible refine wpAny_loadPart_at hC ?_ | wp_step)
  subst hS
  exact dict_store D hz fun h' tk' k1 D' => ⟨_, rfl, k _ _ _ (q _ k1 (k1 _ _ x0 (notIn1 hne)) D')⟩
end
section
variable {A : Around} {hE h : Heap}
structure EP0 (L e t : Addr) (h : Heap) : Prop where
  x : h.get? e = some (excO t none)
  n : L ≠ e
theorem EP0.ps {L e t : Addr} (h h' : Heap) (k : Keeps h h' [L]) (p : EP0 L e t h) : EP0 L e t h' := ⟨k _ _ p.x (notIn1 p.n.symm), p.n⟩
structure EP1 (L e t d : Addr) (al : List (Str × Value)) (h : Heap) : Prop where
  x : h.get? e = some (excO t (some d))
  D : ADict h d al
  n : L ≠ e
  m : L ≠ d
theorem EP1.ps {L e t d : Addr} {al : List (Str × Value)} (h h' : Heap) (k : Keeps h h' [L]) (p : EP1 L e t d al h) : EP1 L e t d al h' := ⟨k _ _ p.x (notIn1 p.n.symm), p.D.keeps k (notIn1 p.m.symm), p.n, p.m⟩
theorem err_init_ (G : GG w hT) (up : Grown hT hE) (room : Room A 1) {e t : Addr} {v : Value} (x : hE.get? e = some (excO t none)) (nT : hT.get? e = none) :
    W prog w A (call (.ref 71) [.ref e, v] []) hE fun r h' => r = .none ∧ (∃ d, h'.get? e = some (excO t (some d))) ∧ Keeps hE h' [e] := by
  refine W_fn (F := [e]) (P := fun L => EP0 L e t) (rest := []) (fr := [(Str.ofString "self", some (.ref e)), (Str.ofString "value", some v)]) G up room (k_err_init _) (c_err_init _) rfl (b_err_init _ _) f_err_init rfl rfl ((all1 (nT))) (fun L h2 n2 k2 => ⟨k2 _ _ x List.not_mem_nil, fresh_ne n2 ⟨_, x⟩⟩) (fun L => EP0.ps) ?_
  intro L h S R Q0 q0
  k_extra "ww"
  refine W_setE0 (S.X G) S.p.x (t_err_value _) fun d h2 nd k2 x2 D2 => ?_
  have nd1 := S.new nd (notIn1 (fresh_ne nd ⟨_, S.p.x⟩))
  replace S := S.step (P' := EP1 L e t d [(Str.ofString "value", v)]) k2 (fun _ m => .inl m) (notIn1 S.p.n) ⟨x2, D2, S.p.n, S.ne nd⟩ EP1.ps
  clear k2 x2 D2 nd x
  have dF : ∀ b ∈ [d], b ∈ [e] ∨ hE.get? b = none := (all1 (.inr (nd1)))
  k_extra "u"
  refine W_cons ?_
  refine W_setattr (W_list (A_nil ⟨Nat.le_of_ble_eq_true rfl, fun a1 h3 n3 k3 x3 => ?_⟩)) rfl
  replace S := S.same k3
  k_extra "ww"
  refine W_setE1 (S.X G) S.p.x S.p.D (Nat.le_of_ble_eq_true rfl) (t_err_trace _) fun h4 k4 x4 D4 => ?_
  replace S := S.step (P' := EP1 L e t d [(Str.ofString "trace", .ref a1), (Str.ofString "value", v)]) k4 dF (notIn1 S.p.m) ⟨x4, D4, S.p.n, S.p.m⟩ EP1.ps
  k_extra "ww"
  refine W_setE1 (S.X G) S.p.x S.p.D (Nat.le_of_ble_eq_true rfl) (t_err_is _) fun h5 k5 x5 D5 => ?_
  replace S := S.step (P' := EP1 L e t d [(Str.ofString "is_in_handler", .bool false), (Str.ofString "trace", .ref a1), (Str.ofString "value", v)]) k5 dF (notIn1 S.p.m) ⟨x5, D5, S.p.n, S.p.m⟩ EP1.ps
  k_extra "ww"
  exact ⟨⟨d, S.p.x⟩, S.kp⟩
noncomputable abbrev underE (A : Around) (rest : List Value) : Around := A.under (.builtin "type.__call__" ⟨.ref 87 :: rest, []⟩)
theorem err_new_ (G : GG w hT) (up : Grown hT hE) (room : Room A 2) {v : Value} :
    W prog w A (call (.ref 87) [v] []) hE fun r h' => (∃ e t d, r = .ref e ∧ h'.get? e = some (excO t (some d)) ∧ hE.get? e = none) ∧ Keeps hE h' [] := by
  have X := G.X.keeps up
  have hC : hE.get? 87 = some lseObj := X _ _ (k_lse _)
  have tiC : TI hE (.ref 87) "type" := TI.ref hC rfl
  have hcall : Looks (model prog w) hE (specialOf (.ref 87) (Str.ofString "__call__")) (some (.builtin "type.__call__")) := Lk_special tiC tc_lookup
  have typ : Looks (model prog w) hE (isInstance (.ref 87) (.type "type")) true := Lk_isInst tiC tc_sub
  have made : Looks (model prog w) hE (Bind.madeBy (.ref 87)) (some "Exception.__new__") := by
    intro A Q E s k q
    obtain ⟨hh, g, d, tk, os⟩ := s
    exact wpAny_madeBy_exc (k _ _ hC) q
  refine W.call (CW.tree rfl ?_)
  show W _ _ _ (callAny (.ref 87) ⟨[v], []⟩) _ _
  unfold callAny
  refine W.bind (W.load hC ?_)
  show W _ _ _ (callAny.viaDunder (.ref 87) _) _ _
  unfold callAny.viaDunder
  refine W.bind (W.looks hcall ?_)
  dsimp only
  rw [tc_bind]
  refine W.bind (W.pure (W.bind (W.of_eq (t' := Pure.pure true) rfl (W.pure (W.pure ⟨rfl, ?_⟩)))))
  refine CW.tree rfl ?_
  show W _ _ A.in1 (do checkBuiltinCall "type.__call__" ⟨[.ref 87, v], []⟩; again (.builtin "type.__call__" ⟨[.ref 87, v], []⟩)) _ _
  refine W.bind (W.any fun g d tk os QQ EE k => check_slot tc_kind tc_split typ (tc_args _ _ _) (k _ _ _ (W.pure ⟨Code.quiet_builtin _ (by decide +kernel), CW.builtin (by show dirtyIds.contains "type.__call__" = false; decide +kernel) entry_typeCall ?_⟩)))
  unfold Builtin.«type.__call__»
  dsimp only
  refine W.ite_no (show ¬ ((Value.ref 87 == Value.type "type") = true) from Bool.false_ne_true) ?_
  refine W.bind (W.looks (Lk_mroE hC) ?_)
  refine W.ite_no (show ¬ ((Value.ref 87 :: excMro).isEmpty = true) from Bool.false_ne_true) ?_
  refine W.bind (W.looks made ?_)
  dsimp only
  refine W.bind (W.pure (W.bind (W.holding (W.call (CW.any fun g d tk os QQ k => codeAny_call_builtin_code (Code.quiet_builtin _ PySem.F.excBase_Exception.quiet) (exc_check hC (exc_new hC (k _ _ _ ⟨_, rfl, ?_⟩) (by size_fits))))))))
  have kk : ∀ b o, hE.get? b = some o → ((hE.push { cls := .type "tuple", data := .seq [v].toArray }).push (excO hE.objs.size none)).get? b = some o := fun b o e => Heap.get?_push_of_some _ (Heap.get?_push_of_some _ e)
  have hx : ((hE.push { cls := .type "tuple", data := .seq [v].toArray }).push (excO hE.objs.size none)).get? (hE.objs.size + 1) = some (excO hE.objs.size none) := by
    unfold excO
    heap_get
  have n1 : hE.get? (hE.objs.size + 1) = none := by
    cases q : hE.get? (hE.objs.size + 1) with
    | none => rfl
    | some o => exact absurd (Nat.lt_of_succ_lt (Heap.lt_size q)) (Nat.lt_irrefl _)
  have nT : hT.get? (hE.objs.size + 1) = none := by
    cases q : hT.get? (hE.objs.size + 1) with
    | none => rfl
    | some o => rw [up _ _ q] at n1; cases n1
  have t1 := Lk_typeE (M := model prog w) hx
  refine W.bind (W.looks (t1.andThen (Lk_clsE (kk _ _ hC) (by decide +kernel : _ = true))) ?_)
  refine W.bind (W.holding ?_)
  unfold callSpecial? specialOf
  refine W.bind (W.bind (W.looks t1 (W.looks ((looks_findIn X (m_err_init _).1).keeps kk) ?_)))
  dsimp only
  refine W.holding (W.bind (W.looks ((bind_fn X _ (beq_iff_eq.mp (m_err_init _).2)).keeps kk) (W.bind ?_)))
  have room' : Room (underE A [v]) 1 := ⟨by have := room.1; show A.depth + 1 + 1 < _; omega, by have := room.2.1; show A.units + 1 + 10 * 1 < _; omega, room.2.2⟩
  refine (err_init_ G (fun b o q => kk _ _ (up b o q)) room' hx nT).mono ?_
  rintro r h2 ⟨rfl, ⟨d, xd⟩, k2⟩
  refine W.pure (W.pure ⟨_, rfl, ⟨_, _, d, rfl, xd, n1⟩, fun b o eb nb => k2 _ _ (kk _ _ eb) (notIn1 ?_)⟩)
  rintro rfl
  rw [n1] at eb; cases eb
end
noncomputable def KeepsS (h h' : Heap) (Ls F : List Addr) : Prop := ∀ b o, h.get? b = some o → b ∉ F → (b ∉ Ls → h'.get? b = some o) ∧ ∃ sl, h'.get? b = some { o with slots := sl }
theorem Keeps.s {h h' : Heap} {Ls F : List Addr} (k : Keeps h h' F) : KeepsS h h' Ls F := fun b o e n => ⟨fun _ => k b o e n, o.slots, k b o e n⟩
theorem KeepsS.mono {h h' : Heap} {Ls Ls' F F' : List Addr} (k : KeepsS h h' Ls F) (a : ∀ x ∈ Ls, x ∈ Ls') (b : ∀ x ∈ F, x ∈ F') : KeepsS h h' Ls' F' := fun x o e n =>
  let ⟨k1, k2⟩ := k x o e (fun m => n (b x m)); ⟨fun nl => k1 (fun m => nl (a x m)), k2⟩
theorem KeepsS.trans {h1 h2 h3 : Heap} {Ls F D : List Addr} (a : KeepsS h1 h2 Ls F) (b : KeepsS h2 h3 Ls D) (d : ∀ x ∈ D, x ∈ F ∨ h1.get? x = none) : KeepsS h1 h3 Ls F := fun x o e n => by
  have nd : x ∉ D := fun m => by
    rcases d x m with q | q
    · exact n q
    · rw [e] at q; cases q
  obtain ⟨a1, sl, a2⟩ := a x o e n
  obtain ⟨_, sl2, b2⟩ := b x _ a2 nd
  exact ⟨fun nl => (b x o (a1 nl) nd).1 nl, sl2, b2⟩
structure ExT (h : Heap) (e T : Addr) (fl : Value) : Prop where
  ex : ∃ oe vs oT ts, h.get? e = some oe ∧ oe.cls = .ref 87 ∧ oe.data = .fields vs ∧ vs[1]? = some (.ref T) ∧ h.get? T = some oT ∧ oT.data = .fields ts ∧ ts[3]? = some fl ∧ T ≠ e
noncomputable abbrev frs (l : List Env) : List Addr := l.filterMap (·.frame)
section
variable {M : Model} {A : Around} {E : Value → Shared → Prop} {h : Heap} {g : Array GenState} {d : Drawn} {t : Nat} {os : OsState}
theorem note_tail {base : Heap} {env : Env} {outer : List Env} {L e : Addr} {oe : Obj} {vs : Array Value} {head : Value} {hadNext : Bool} {Q : Unit → Shared → Prop} (hfr : A.frames = some (env :: outer)) (hl : h.FunFrames base (env :: outer)) (hf : env.frame = some L)
    (he : h.get? e = some oe) (hc : oe.cls = .ref 87) (hd : oe.data = .fields vs) (hsz : 1 < vs.size)
    (q : ∀ h' T, h.get? T = none → KeepsS h h' (frs (env :: outer)) [e] → ExT h' e T (rawInt L) → h'.FunFrames base (env :: outer) → Q () ⟨h', g, d, t, os⟩) :
    wpAny M A (do let a ← frameOf env; let pl ← entryPlaceOf L hadNext; let b ← EntryCells.newEntry head a .none (rawInt L) .none pl; setField (.ref e) 1 b) Q E ⟨h, g, d, t, os⟩ := by
  have hene : e ∉ (env :: outer).filterMap (·.frame) := fun hm => by
    obtain ⟨_, o, ho, hnf⟩ := hl.mem hm
    rw [he] at ho; injection ho with ho; subst ho; exact hnf vs hd
  refine wpAny_bind (wpAny_frameOf_fun hfr hl hf fun h₁ hs₁ => ?_)
  refine wpAny_bind (wpAny_entryPlaceOf fun pl hpl => ?_)
  unfold EntryCells.newEntry newFields
  refine wpAny_bind (wpAny_newObj_type ?_ (hpl.sizeOk5 _ _ _ _ _))
  have he₁ : h₁.get? e = some oe := (hs₁.2.1 e hene).trans he
  have he₂ := Heap.get?_push_of_some (h := h₁) { cls := .type "traceback", dict := none, data := .fields ([head, .ref L, .none, rawInt L, .none] ++ (if pl.isEmpty then List.replicate 6 Value.none else pl)).toArray } he₁
  refine wpAny_setField he₂ hd hsz ?_
  have hTe : h₁.objs.size ≠ e := Nat.ne_of_gt (Heap.lt_size he₁)
  have hd₃ := Obj.data_mapFields hd (·.setIfInBounds 1 (Value.ref h₁.objs.size))
  have he₃ := Heap.get?_update_self (Obj.mapFields (·.setIfInBounds 1 (Value.ref h₁.objs.size))) he₂ (Obj.isFreed_of_fields hd₃)
  have hT₃ := (Heap.get?_update_other (h₁.push { cls := .type "traceback", dict := none, data := .fields ([head, .ref L, .none, rawInt L, .none] ++ (if pl.isEmpty then List.replicate 6 Value.none else pl)).toArray })
    (Obj.mapFields (·.setIfInBounds 1 (Value.ref h₁.objs.size))) (Ne.symm hTe)).trans (Heap.get?_push_size h₁ rfl)
  have keep : ∀ b o, b ≠ e → h₁.get? b = some o →
      ((h₁.push { cls := .type "traceback", dict := none, data := .fields ([head, .ref L, .none, rawInt L, .none] ++ (if pl.isEmpty then List.replicate 6 Value.none else pl)).toArray }).update e (Obj.mapFields (·.setIfInBounds 1 (Value.ref h₁.objs.size)))).get? b = some o :=
    fun b o hbe hb => by
      rw [Heap.get?_update_other _ _ (Ne.symm hbe)]
      exact Heap.get?_push_of_some _ hb
  have hT0 : h.get? h₁.objs.size = none := Heap.get?_none_of_le (by rw [hs₁.1]; exact Nat.le_refl _)
  have kS : KeepsS h _ (frs (env :: outer)) [e] := fun b o hb hn => by
    have hbe : b ≠ e := fun q => hn (by rw [q]; exact List.mem_singleton_self _)
    obtain ⟨sl, hs⟩ := hs₁.2.2 b o hb
    exact ⟨fun nl => keep b o hbe ((hs₁.2.1 b nl).trans hb), sl, keep b _ hbe hs⟩
  refine q _ h₁.objs.size hT0 kS ⟨_, _, _, _, he₃, (Obj.cls_mapFields _ _).trans hc, hd₃, by simp [hsz], hT₃, rfl, by first | (simp; done) | (rcases hpl with rfl | ⟨_, _, _, _, _, _, _, rfl⟩ <;> simp), hTe⟩ (hl.of_keeps fun b o hb hnf => ?_)
  obtain ⟨_, sl, hs⟩ := kS b o hb (fun m => by rw [List.mem_singleton] at m; subst m; rw [he] at hb; injection hb with hb; subst hb; exact hnf vs hd)
  exact ⟨_, hs, rfl⟩
theorem note_new {base : Heap} {env : Env} {outer : List Env} {L e : Addr} {oe : Obj} {vs : Array Value} {Q : Unit → Shared → Prop} (hfr : A.frames = some (env :: outer)) (hl : h.FunFrames base (env :: outer)) (hf : env.frame = some L)
    (he : h.get? e = some oe) (hc : oe.cls = .ref 87) (hd : oe.data = .fields vs) (h1 : vs[1]? = some .none)
    (q : ∀ h' T, h.get? T = none → KeepsS h h' (frs (env :: outer)) [e] → ExT h' e T (rawInt L) → h'.FunFrames base (env :: outer) → Q () ⟨h', g, d, t, os⟩) : wpAny M A (noteFrame (.ref e) env) Q E ⟨h, g, d, t, os⟩ := by
  unfold noteFrame
  simp only [hf]
  refine wpAny_bind (wpAny_field he hd h1 ?_)
  rw [if_neg (by decide)]
  exact note_tail hfr hl hf he hc hd (Array.getElem?_eq_some_iff.mp h1).1 q
theorem ExT.set {e T : Addr} {fl fl' : Value} (x : ExT h e T fl) : KeepsS h (h.update T (Obj.mapFields (·.setIfInBounds 3 fl'))) [] [T] ∧ ExT (h.update T (Obj.mapFields (·.setIfInBounds 3 fl'))) e T fl' := by
  obtain ⟨oe, vs, oT, ts, he, hc, hd, h1, hT, hdT, h3, hTe⟩ := x.ex
  have hsz3 : 3 < ts.size := (Array.getElem?_eq_some_iff.mp h3).1
  refine ⟨fun b o hb hn => ?_, ⟨oe, vs, _, _, ?_, hc, hd, h1, Heap.get?_update_self _ hT (Obj.isFreed_of_fields (Obj.data_mapFields hdT _)), Obj.data_mapFields hdT _, by simp [hsz3], hTe⟩⟩
  · have hbT : T ≠ b := fun q => hn (by rw [q]; exact List.mem_singleton_self _)
    have := (Heap.get?_update_other h (Obj.mapFields (·.setIfInBounds 3 fl')) hbT).trans hb
    exact ⟨fun _ => this, o.slots, this⟩
  · rw [Heap.get?_update_other _ _ hTe]; exact he
theorem ExT.frames {base h' : Heap} {e T : Addr} {fl : Value} {Ls : List Addr} {envs : List Env} (x : ExT h e T fl) (hl : h.FunFrames base envs) (k : KeepsS h h' Ls [e, T]) : h'.FunFrames base envs := by
  obtain ⟨oe, vs, oT, ts, he, hc, hd, h1, hT, hdT, h3, hTe⟩ := x.ex
  refine hl.of_keeps fun b o hb hnf => ?_
  obtain ⟨_, sl, hs⟩ := k b o hb (not2 (fun q => by subst q; rw [he] at hb; injection hb with hb; subst hb; exact hnf vs hd) (fun q => by subst q; rw [hT] at hb; injection hb with hb; subst hb; exact hnf ts hdT))
  exact ⟨_, hs, rfl⟩
theorem note_next {base : Heap} {env : Env} {outer : List Env} {L e T : Addr} {Q : Unit → Shared → Prop} (hfr : A.frames = some (env :: outer)) (hl : h.FunFrames base (env :: outer)) (hf : env.frame = some L) (x : ExT h e T .none)
    (q : ∀ h' T', h.get? T' = none → KeepsS h h' (frs (env :: outer)) [e, T] → ExT h' e T' (rawInt L) → h'.FunFrames base (env :: outer) → Q () ⟨h', g, d, t, os⟩) : wpAny M A (noteFrame (.ref e) env) Q E ⟨h, g, d, t, os⟩ := by
  obtain ⟨oe, vs, oT, ts, he, hc, hd, h1, hT, hdT, h3, hTe⟩ := x.ex
  unfold noteFrame
  simp only [hf]
  refine wpAny_bind (wpAny_field he hd h1 ?_)
  rw [if_pos (show (Value.ref T != Value.none) = true from by simp)]
  refine wpAny_bind (wpAny_field hT hdT h3 ?_)
  rw [if_neg (show ¬ ((Value.none == rawInt L) = true) from by simp [rawInt])]
  refine wpAny_bind (wpAny_setField hT hdT (Array.getElem?_eq_some_iff.mp h3).1 ?_)
  obtain ⟨k1, x1⟩ := x.set (fl' := .none)
  have k1' : KeepsS h _ (frs (env :: outer)) [e, T] := k1.mono (fun x m => nomatch m) (fun x m => .tail _ m)
  have hl1 := x.frames hl k1'
  have he1 := (Heap.get?_update_other h (Obj.mapFields (·.setIfInBounds 3 Value.none)) hTe).trans he
  refine note_tail hfr hl1 hf he1 hc hd (Array.getElem?_eq_some_iff.mp h1).1 fun h' T' n k2 x2 hl2 => q h' T' ?_ (k1'.trans k2 (fun x m => .inl (by rw [List.mem_singleton] at m; rw [m]; exact .head _))) x2 hl2
  cases q : h.get? T' with
  | none => rfl
  | some o =>
    exfalso
    by_cases hT' : T' = T
    · subst hT'
      obtain ⟨_, _, _, _, _, _, _, _, z, _⟩ := x1.ex
      rw [z] at n; cases n
    · rw [(k1 _ _ q (notIn1 hT')).1 (fun m => nomatch m)] at n; cases n
theorem flight_none {e T : Addr} {fl : Value} {Q : Unit → Shared → Prop} (x : ExT h e T fl) (q : ∀ h', KeepsS h h' [] [T] → ExT h' e T .none → Q () ⟨h', g, d, t, os⟩) : wpAny M A (setFlight (.ref e) none) Q E ⟨h, g, d, t, os⟩ := by
  obtain ⟨oe, vs, oT, ts, he, hc, hd, h1, hT, hdT, h3, hTe⟩ := x.ex
  obtain ⟨k1, x1⟩ := x.set (fl' := .none)
  unfold setFlight
  refine wpAny_bind (wpAny_field he hd h1 ?_)
  rw [if_pos (show (Value.ref T != Value.none) = true from by simp)]
  exact wpAny_setField hT hdT (Array.getElem?_eq_some_iff.mp h3).1 (q _ k1 x1)
end
noncomputable def WE {α : Type} (prog : Program) (w : World) (A : Around) (t : Sem α) (h : Heap) (Q : α → Heap → Prop) (E : Value → Heap → Prop) : Prop :=
  ∀ (g : Array GenState) (d : Drawn) (tk : Nat) (os : OsState) (QQ : α → Shared → Prop) (EE : Value → Shared → Prop),
    (∀ v h' tk', Q v h' → QQ v ⟨h', g, d, tk', os⟩) → (∀ v h' tk', E v h' → EE v ⟨h', g, d, tk', os⟩) → ∀ Γ p, Γ.In A → Clean Γ → Sem.wp (model prog w) Γ t (fun a _ s' => QQ a s') (fun e _ s' => EE e s') p ⟨h, g, d, tk, os⟩
noncomputable def CWE (prog : Program) (w : World) (A : Around) (c : Code) (h : Heap) (Q : Flow → Heap → Prop) (E : Value → Heap → Prop) : Prop :=
  ∀ (g : Array GenState) (d : Drawn) (tk : Nat) (os : OsState) (QQ : Flow → Shared → Prop) (EE : Value → Shared → Prop),
    (∀ v h' tk', Q v h' → QQ v ⟨h', g, d, tk', os⟩) → (∀ v h' tk', E v h' → EE v ⟨h', g, d, tk', os⟩) → ∀ Γ p, Γ.code = c → Γ.Below A → CleanB Γ.below → wpCode (model prog w) Γ (fun r s' => match r with | .ok f => QQ f s' | .error e => EE e s') p ⟨h, g, d, tk, os⟩
section
variable {A : Around} {env : Env} {h : Heap} {α β : Type}
theorem WE.ofW {t : Sem α} {Q : α → Heap → Prop} {E : Value → Heap → Prop} (H : W prog w A t h Q) : WE prog w A t h Q E :=
  fun g d tk os QQ EE k kE Γ p hΓ hc => Sem.wp_mono _ Γ _ (fun _ _ _ x => x) (fun _ _ _ x => x.elim) _ _ (H g d tk os QQ k Γ p hΓ hc)
theorem WE.any {t : Sem α} {Q : α → Heap → Prop} {E : Value → Heap → Prop} (H : ∀ (g : Array GenState) (d : Drawn) (tk : Nat) (os : OsState) (QQ : α → Shared → Prop) (EE : Value → Shared → Prop),
    (∀ v h' tk', Q v h' → QQ v ⟨h', g, d, tk', os⟩) → (∀ v h' tk', E v h' → EE v ⟨h', g, d, tk', os⟩) → wpAny (model prog w) A t QQ EE ⟨h, g, d, tk, os⟩) : WE prog w A t h Q E :=
  fun g d tk os QQ EE k kE Γ p hΓ _ => H g d tk os QQ EE k kE Γ p hΓ
theorem WE.mono {t : Sem α} {Q Q' : α → Heap → Prop} {E E' : Value → Heap → Prop} (H : WE prog w A t h Q E) (k : ∀ v h', Q v h' → Q' v h') (k2 : ∀ v h', E v h' → E' v h') : WE prog w A t h Q' E' :=
  fun g d tk os QQ EE kk kE => H g d tk os QQ EE (fun v h' tk' q => kk v h' tk' (k v h' q)) fun v h' tk' q => kE v h' tk' (k2 v h' q)
theorem WE.bind {m : Sem α} {f : α → Sem β} {Q : β → Heap → Prop} {E : Value → Heap → Prop} (H : WE prog w A m h (fun a h1 => WE prog w A (f a) h1 Q E) E) : WE prog w A (m >>= f) h Q E :=
  fun g d tk os QQ EE k kE Γ p hΓ hc => by
    rw [Sem.wp_bind']
    exact Sem.wp_mono _ Γ _ (fun a p' s' h' => h' p') (fun _ _ _ x => x) _ _
      (H g d tk os (fun a s' => ∀ p', Sem.wp (model prog w) Γ (f a) (fun a _ s' => QQ a s') (fun e _ s' => EE e s') p' s') EE (fun a h1 tk1 H1 p' => H1 g d tk1 os QQ EE k kE Γ p' hΓ hc) kE Γ p hΓ hc)
theorem WE.keep {vs : List Value} {m : Sem α} {Q : α → Heap → Prop} {E : Value → Heap → Prop} (H : WE prog w A m h Q E) : WE prog w A (m.keep vs) h Q E :=
  fun g d tk os QQ EE k kE Γ p hΓ hc => by rw [Sem.wp_keep]; exact H g d tk os QQ EE k kE Γ p hΓ hc
theorem WE.onRaise {m : Sem α} {f : Value → Sem Unit} {Q : α → Heap → Prop} {E : Value → Heap → Prop} (H : WE prog w A m h Q (fun e h1 => W prog w A (f e) h1 fun _ h2 => E e h2)) : WE prog w A (m.onRaise f) h Q E :=
  fun g d tk os QQ EE k kE Γ p hΓ hc => by
    rw [Sem.wp_onRaise]
    exact Sem.wp_mono _ Γ _ (fun _ _ _ x => x) (fun e p' s' x => x p') _ _ (H g d tk os QQ (fun e s' => ∀ p', Sem.wp (model prog w) Γ (f e) (fun _ _ s'' => EE e s'') (fun e' _ s'' => EE e' s'') p' s') k
      (fun e h1 tk1 H1 p' => Sem.wp_mono _ Γ _ (fun _ _ _ x => x) (fun _ _ _ x => x.elim) _ _ (H1 g d tk1 os (fun _ s'' => EE e s'') (fun _ h2 tk2 q => kE _ _ _ q) Γ p' hΓ hc)) Γ p hΓ hc)
theorem W.attempt {m : Sem α} {Q : Except Value α → Heap → Prop} (H : WE prog w A m h (fun a h1 => Q (.ok a) h1) (fun e h1 => Q (.error e) h1)) : W prog w A m.attempt h Q :=
  fun g d tk os QQ k Γ p hΓ hc => by
    rw [Sem.wp_attempt]
    exact H g d tk os (fun a s' => QQ (.ok a) s') (fun e s' => QQ (.error e) s') (fun a h1 tk1 q => k _ _ _ q) (fun a h1 tk1 q => k _ _ _ q) Γ p hΓ hc
theorem CWE.tree {c : Code} {Q : Flow → Heap → Prop} {E : Value → Heap → Prop} (hd : dirty c = false)
    (H : WE prog w (A.under c) (denote table c) h (fun fin h' => match fin with | .done f => Q f h' | .again c' => c'.quiet = true ∧ CWE prog w A c' h' Q E) E) : CWE prog w A c h Q E :=
  fun g d tk os QQ EE k kE Γ p hc hΓ hb => by
    rw [wpCode_iff_wp, hc]
    refine Sem.wp_mono _ Γ _ (fun fin p' s' h' => ?_) (fun e p' s' x => ?_) _ _ (H g d tk os (fun fin s' => ∀ p', Sem.finPost (model prog w) Γ (fun r s' => match r with | .ok f => QQ f s' | .error e => EE e s') fin p' s') EE (fun fin h1 tk1 H1 p' => ?_) kE Γ p (hc ▸ hΓ.in) ⟨hc ▸ hd, hb⟩)
    · exact h' p'
    · exact x
    · cases fin with
      | done f => exact k _ _ _ H1
      | again c' => exact ⟨H1.1, H1.2 g d tk1 os QQ EE k kE (Γ.goto c') p' rfl (hΓ.goto c') hb⟩
theorem WE.runValue {c : Code} {Q : Value → Heap → Prop} {E : Value → Heap → Prop} (H : CWE prog w A c h (fun f h' => ∃ v, f = .ret v ∧ Q v h') E) : WE prog w A (PySem.runValue c) h Q E :=
  fun g d tk os QQ EE k kE Γ p hΓ hc => by
    rw [Sem.wp_runValue]
    refine wpCode_mono (fun r s' x => ?_) (H g d tk os (fun f s' => ∃ v, f = .ret v ∧ QQ v s') EE (fun f h' tk' ⟨v, e, q⟩ => ⟨v, e, k _ _ _ q⟩) kE _ p rfl (hΓ.enter c none p (by intro x; cases x)) hc.enter)
    cases r with
    | ok f => obtain ⟨v, rfl, q⟩ := x; exact q
    | error e => exact x
theorem WE.call {f : Value} {pos : List Value} {kw : List (Str × Value)} {Q : Value → Heap → Prop} {E : Value → Heap → Prop} (H : CWE prog w A (.call f ⟨pos, kw⟩) h (fun f h' => ∃ v, f = .ret v ∧ Q v h') E) : WE prog w A (PySem.call f pos kw) h Q E := WE.runValue H
theorem W.runH {c : Code} {e : Addr} {Q : Flow → Heap → Prop} (H : CW prog w (A.mark (some (.ref e))) c h Q) : W prog w A (PySem.run c (some (.ref e))) h Q :=
  fun g d tk os QQ k Γ p hΓ hc => by
    rw [Sem.wp_run]
    refine wpCode_mono (fun r s' x => ?_) (H g d tk os QQ k _ p rfl (hΓ.enter c (some (.ref e)) p (by intro x; cases x)) hc.enter)
    cases r <;> exact x
theorem W.runOwnH {c : Code} {e : Addr} {Q : Flow → Heap → Prop} (H : CW prog w (A.mark (some (.ref e))) c h Q) : W prog w A (PySem.runOwn c env (some (.ref e))) h Q := by
  unfold PySem.runOwn
  exact W.onRaise (W.runH H)
theorem WE_cons {st : Stmt} {rest : List Stmt} {Q : Flow → Heap → Prop} {E : Value → Heap → Prop}
    (H : WE prog w A (exec st env) h (fun f h1 => match f with | .next => WE prog w A (execs rest env) h1 Q E | f => Q f h1) E) : WE prog w A (execs (st :: rest) env) h Q E := by
  rw [execs_cons]
  refine WE.bind (H.mono (fun f h1 H1 => ?_) fun _ _ x => x)
  cases f with
  | next => exact H1
  | brk => exact WE.ofW (W.pure H1)
  | cont => exact WE.ofW (W.pure H1)
  | ret v => exact WE.ofW (W.pure H1)
theorem WE_cons1 {st : Stmt} {rest : List Stmt} {Q : Flow → Heap → Prop} {E : Value → Heap → Prop}
    (H : W prog w A (exec st env) h (fun f h1 => f = .next ∧ WE prog w A (execs rest env) h1 Q E)) : WE prog w A (execs (st :: rest) env) h Q E :=
  WE_cons (WE.ofW (H.mono fun f h1 ⟨e, H1⟩ => by subst e; exact H1))
theorem WE_expr {e : PySem.Expr} {pos : Pos} {Q : Flow → Heap → Prop} {E : Value → Heap → Prop} (H : WE prog w A (eval e env) h (fun v h1 => False) E)
    (hi : interactive env = false := by rfl) (hs : swapsWith e none pos.line env = Pure.pure false := by rfl) : WE prog w A (exec (.Expr e pos) env) h Q E := by
  rw [exec_Expr env e pos hi hs]
  exact WE.bind (WE.ofW (W.standAt (WE.bind (H.mono (fun v h1 H1 => H1.elim) fun _ _ x => x))))
theorem WE_meth {o : PySem.Expr} {name : Str} {apos pos : Pos} {args : List PySem.Expr} {pl : Sem Bool} {Q : Value → Heap → Prop} {E : Value → Heap → Prop}
    (H : W prog w A (eval o env) h fun ov h1 => W prog w A (getMethod ov name pl) h1 fun fx h2 => WE prog w A (callWith pos fx.1 fx.2 (backTo pos (starEach args env)) []) h2 Q E)
    (he : eval (.Call (.Attribute o name apos) args [] pos) env = (do
      let ov ← eval o env
      standAt apos.atName
      let (f, first) ← holding [ov] (getMethod ov name pl)
      callWith pos f first (backTo pos (starEach args env)) []) := by rfl) : WE prog w A (eval (.Call (.Attribute o name apos) args [] pos) env) h Q E := by
  rw [he]
  exact WE.bind (WE.ofW (H.mono fun ov h1 H1 => WE.bind (WE.ofW (W.standAt (WE.bind (WE.ofW (W.holding (H1.mono fun fx h2 H2 => H2))))))))
theorem WE_callWith {K : Frag} {f : Value} {first : List Value} {args : List (Bool × Sem Value)} {pos : Pos} {Q : Value → Heap → Prop} {E : Value → Heap → Prop} (hplain : (args.any (·.1)) = false) (hk : KeepOK K f)
    (H : W prog w A (evalArgs f true args []) h fun a h1 => K.In h1 ∧ WE prog w A (call f (first ++ a.pos) a.kw) h1 (fun _ _ => False) E) : WE prog w A (callWith pos f first args []) h Q E := by
  unfold callWith
  refine WE.bind (WE.ofW (W.holding (H.mono fun a h1 H1 => WE.bind (WE.ofW (W.standAt ?_)))))
  obtain ⟨k, hk', L⟩ := keepOK_looks (M := model prog w) hk _ H1.1
  simp only [hplain, List.any_nil, Bool.or_false]
  refine WE.bind (WE.ofW (W.looks L ?_))
  have no : ∀ {β : Type} {t : Sem Value} {f : Value → Sem β} {Q : β → Heap → Prop}, WE prog w A t h1 (fun _ _ => False) E → WE prog w A (t >>= f) h1 Q E :=
    fun ht => WE.bind (ht.mono (fun r h2 q => q.elim) fun _ _ x => x)
  have marked (mk : Value) : WE prog w A (callMarked mk f (first ++ a.pos) a.kw) h1 (fun _ _ => False) E := by unfold callMarked; exact WE.keep H1.2
  rcases hk' with rfl | rfl | rfl <;> dsimp only <;> first | exact no H1.2 | (split <;> first | exact no H1.2 | exact no (marked _))
theorem WE_with {K : Frag} {f : Value} {first : List Value} {e : PySem.Expr} {rest : List PySem.Expr} {pos pos' : Pos} {Q : Value → Heap → Prop} {E : Value → Heap → Prop} (G : Gr K hT) (hk : KeepOK K f)
    (H : W prog w A (spliced (backTo pos' (starEach (e :: rest) env))) h fun vs h1 => Grown hT h1 ∧ WE prog w A (call f (first ++ vs) []) h1 (fun _ _ => False) E)
    (he : starEach (e :: rest) env = (false, eval e env) :: starEach rest env := by rfl) (hp : (backTo pos' (starEach rest env)).any (·.1) = false := by rfl) :
    WE prog w A (callWith pos f first (backTo pos' (starEach (e :: rest) env)) []) h Q E := by
  rw [he] at H ⊢
  refine WE_callWith (by show (false || (backTo pos' (starEach rest env)).any (·.1)) = false; rw [hp]; rfl) hk ?_
  unfold evalArgs
  show W _ _ _ (spliced (backTo pos' ((false, eval e env) :: starEach rest env)) >>= _) _ _
  refine W.bind (H.mono fun vs h1 H1 => ?_)
  refine W.holding ?_
  exact W.bind (W.pure (W.bind (W.pure (W.pure ⟨G.X.keeps H1.1, H1.2⟩))))
theorem WE_raise {x : PySem.Expr} {pos : Pos} {Q : Flow → Heap → Prop} {E : Value → Heap → Prop} (hh : A.handled = none)
    (H : W prog w A (eval x env) h fun v h1 => ∃ e t od, v = .ref e ∧ h1.get? e = some (excO t od) ∧ h1.get? 87 = some lseObj ∧ E (.ref e) h1) : WE prog w A (exec (.Raise (some x) none pos) env) h Q E := by
  rw [arm_exec_Raise]
  refine WE.bind (WE.ofW (W.standAt ?_))
  unfold raiseStmt
  refine WE.bind (WE.bind (WE.ofW (H.mono fun v h1 ⟨e, t, od, ev, he, hC, hE⟩ => WE.bind (WE.ofW (W.standAt (WE.ofW (W.pure ?_)))))))
  subst ev
  unfold excO at he
  refine WE.any fun g d tk os QQ EE k kE => ?_
  have b1 : (Value.ref 87 :: excMro).contains (.type "BaseException") = true := by decide +kernel
  have b2 : (Value.ref 87 :: excMro).contains (.type "type") = false := by decide +kernel
  repeat (first | with_reducible refine wpAny_loadPart_at he ?_ | with_reducible refine wpAny_loadPart_at hC ?_ | (with_reducible refine wpAny_isSubtype_exc hC ?_; first | rw [b1] | rw [b2]) | wp_step)
  exact wpAny_raiseNew_none hh (kE _ _ _ hE)
end
structure Flies (hT h0 h : Heap) (outer : List Env) (a : Addr) : Prop where
  ex : ∃ T, ExT h a T .none ∧ h0.get? T = none
  new : h0.get? a = none
  ff : h.FunFrames hT outer
  k : KeepsS h0 h (frs outer) []
theorem FunFrames_keeps {h h' : Heap} {l : List Env} (ff : h.FunFrames hT l) (k : Keeps h h' []) : h'.FunFrames hT l := ff.of_keeps fun b o e _ => ⟨o, k _ _ e List.not_mem_nil, rfl⟩
section
variable {A : Around} {hE h h' h1 h2 : Heap} {env : Env} {fr : Fra} {P : Heap → Prop} {outer : List Env} {a : Addr}
theorem St.ff (S : St hT hE [] env fr P h) (ff : hE.FunFrames hT outer) (hf : env.frame = some env.locals) : h.FunFrames hT (env :: outer) := by
  obtain ⟨o, es, ep, e, hd, r⟩ := S.ns
  refine ⟨by rw [S.ok.kind]; decide, ⟨env.locals, o, hf, ?_, e, fun vs q => by rw [hd] at q; cases q⟩, FunFrames_keeps ff S.kp⟩
  cases q : hT.get? env.locals with
  | none => rfl
  | some o => have := S.fL; rw [S.tE _ _ q] at this; cases this
theorem St.notL (S : St hT hE [] env fr P h) {b : Addr} {o : Obj} (e : hE.get? b = some o) : b ≠ env.locals := by rintro rfl; rw [S.fL] at e; cases e
theorem leave_first {t : Addr} {od : Option Addr} (S : St hT hE [] env fr P h) (ff : hE.FunFrames hT outer) (hf : env.frame = some env.locals) (hfr : A.frames = some (env :: outer)) (x : h.get? a = some (excO t od)) (n : hE.get? a = none) :
    W prog w A (leaving env (.ref a)) h fun _ h3 => Flies hT hE h3 outer a := by
  unfold leaving
  refine W.any fun g d tk os QQ EE k => wpAny_bind (note_new hfr (S.ff ff hf) hf x rfl rfl rfl fun h1 T nT k1 x1 ff1 => flight_none x1 fun h3 k3 x3 => k _ _ _ ?_)
  have nT0 : hE.get? T = none := by
    cases q : hE.get? T with
    | none => rfl
    | some o => rw [S.kp _ _ q List.not_mem_nil] at nT; cases nT
  have kk : KeepsS hE h3 (frs (env :: outer)) [] := ((S.kp.s).trans k1 ((all1 (.inr (n))))).trans (k3.mono (fun x m => nomatch m) fun x m => m) ((all1 (.inr (nT0))))
  refine ⟨⟨T, x3, nT0⟩, n, (x1.frames ff1 (k3.mono (Ls' := []) (fun x m => m) fun x m => .tail _ m)).2.2, fun b o e _ => ?_⟩
  obtain ⟨q1, q2⟩ := kk b o e List.not_mem_nil
  refine ⟨fun nl => q1 fun m => ?_, q2⟩
  unfold frs at m
  rw [List.filterMap_cons, hf] at m
  rcases List.mem_cons.mp m with q | q
  · exact S.notL e q
  · exact nl q
theorem leave_next (S : St hT hE [] env fr P h) (ff : hE.FunFrames hT outer) (hf : env.frame = some env.locals) (hfr : A.frames = some (env :: outer)) (F : Flies hT h h2 (env :: outer) a) :
    W prog w A (leaving env (.ref a)) h2 fun _ h3 => Flies hT hE h3 outer a := by
  obtain ⟨T, x, nT⟩ := F.ex
  unfold leaving
  have back : ∀ b, h.get? b = none → hE.get? b = none := fun b e => by
    cases q : hE.get? b with
    | none => rfl
    | some o => rw [S.kp _ _ q List.not_mem_nil] at e; cases e
  refine W.any fun g d tk os QQ EE k => wpAny_bind (note_next hfr F.ff hf x fun h1 T1 nT1 k1 x1 ff1 => flight_none x1 fun h3 k3 x3 => k _ _ _ ?_)
  have k0 : KeepsS hE h2 (frs (env :: outer)) [] := (S.kp.s).trans F.k (fun b m => nomatch m)
  have nT0 : hE.get? T1 = none := by
    cases q : hE.get? T1 with
    | none => rfl
    | some o => obtain ⟨_, sl, z⟩ := k0 _ _ q List.not_mem_nil; rw [z] at nT1; cases nT1
  have kk : KeepsS hE h3 (frs (env :: outer)) [] := (k0.trans k1 (fun b m => .inr (by
    simp only [List.mem_cons, List.not_mem_nil, or_false] at m
    rcases m with rfl | rfl
    · exact back _ F.new
    · exact back _ nT))).trans (k3.mono (fun x m => nomatch m) fun x m => m) ((all1 (.inr (nT0))))
  refine ⟨⟨T1, x3, nT0⟩, back _ F.new, (x1.frames ff1 (k3.mono (Ls' := []) (fun x m => m) fun x m => .tail _ m)).2.2, fun b o e _ => ?_⟩
  obtain ⟨q1, q2⟩ := kk b o e List.not_mem_nil
  refine ⟨fun nl => q1 fun m => ?_, q2⟩
  unfold frs at m
  rw [List.filterMap_cons, hf] at m
  rcases List.mem_cons.mp m with q | q
  · exact S.notL e q
  · exact nl q
noncomputable def Rsd (hT hE : Heap) (env : Env) (outer : List Env) (v : Value) (h2 : Heap) : Prop :=
  ∃ a, v = .ref a ∧ ((∃ t od fr P, St hT hE [] env fr P h2 ∧ h2.get? a = some (excO t od) ∧ hE.get? a = none) ∨ (∃ h1 fr P, St hT hE [] env fr P h1 ∧ Flies hT h1 h2 (env :: outer) a))
theorem Rsd.leave {v : Value} (r : Rsd hT hE env outer v h2) (ff : hE.FunFrames hT outer) (hf : env.frame = some env.locals) (hfr : A.frames = some (env :: outer)) : W prog w A (leaving env v) h2 fun _ h3 => ∃ a, v = .ref a ∧ Flies hT hE h3 outer a := by
  obtain ⟨a, rfl, ⟨t, od, fr, P, S, x, n⟩ | ⟨h1, fr, P, S, F⟩⟩ := r
  · exact (leave_first S ff hf hfr x n).mono fun _ h3 q => ⟨a, rfl, q⟩
  · exact (leave_next S ff hf hfr F).mono fun _ h3 q => ⟨a, rfl, q⟩
theorem WE_fn {f : Addr} {fd : FuncData} {oc : Value} {od : Option Addr} {osl : Array (Option Value)} {body : List Stmt} {args : List Value} {binds : List (Str × Value)} {rest : List Str} {n : Nat} {P : Addr → Heap → Prop} {ks : List Str}
    (G : GG w hT) (up : Grown hT h) (room : Room A (n + 1)) (hK : (KK w.params).lookup f = some ⟨oc, od, .func fd, osl⟩) (hcd : codeIn (KK w.params) fd.code fd.qualname = true) (hbody : fd.body = .stmts body)
    (hbind : bindArgs fd ⟨args, []⟩ = pure binds) (hchk : fnCheck fd ks = true) (hks : binds.map (·.1) ++ rest = ks) (hfr : frOf binds rest = fr)
    (p : ∀ L h1, h.get? L = none → Keeps h h1 [] → P L h1) (ps : ∀ L h1 h2, Keeps h1 h2 [L] → P L h1 → P L h2) (hA : A.frames = some outer) (ff : h.FunFrames hT outer)
    (H : ∀ L h1, St hT h [] (callEnv fd L f) fr (P L) h1 → Room (A.deeper (callEnv fd L f)) n → (A.deeper (callEnv fd L f)).frames = some (callEnv fd L f :: outer) → h1.FunFrames hT (callEnv fd L f :: outer) →
      WE prog w (A.deeper (callEnv fd L f)) (execs body (callEnv fd L f)) h1 (fun _ _ => False) (Rsd hT h (callEnv fd L f) outer)) :
    WE prog w A (call (.ref f) args []) h (fun _ _ => False) (fun v h3 => ∃ a, v = .ref a ∧ Flies hT h h3 outer a) := by
  have hk : fr.map (·.1) = ks := by rw [← hfr, frOf_keys, hks]
  have ok := fnCheck_ok hchk hk f
  obtain ⟨m1, m2, m3, m4⟩ := fnCheck_more hchk
  have nd : (binds.map (·.1)).Nodup := by
    have := (ok 0).nd
    rw [hk, ← hks] at this
    exact (List.nodup_append.mp this).1
  have hl : ∀ y ∈ binds, fd.scope.names.lookup y.1 = some .local := fun y hy =>
    (ok 0).loc (y.1, some y.2) (by rw [← hfr]; unfold frOf; exact List.mem_append_left _ (List.mem_map_of_mem (f := fun b : Str × Value => (b.1, some b.2)) hy))
  refine WE.call (CWE.tree rfl ?_)
  show WE _ _ A.in1 (callAny (.ref f) ⟨args, []⟩) _ _ _
  have hfo : h.get? f = some ⟨oc, od, .func fd, osl⟩ := up _ _ (G.X _ _ hK)
  have e0 : h.get? h.objs.size = none := size_new
  obtain ⟨c, oc', vs, tq, hc, hoc, hdc, hq⟩ := codeRec_of (G.X.keeps up) hcd
  unfold callAny
  refine WE.bind (WE.ofW (W.load hfo ?_))
  simp only [callFunction, m3, m4, hbody, hc]
  refine WE.bind (m := field (.ref c) 1) (WE.ofW (W.any fun _ _ tk _ _ _ k => wpAny_field hoc hdc hq (k _ h tk ?_)))
  refine WE.bind (WE.ofW (W.pure (WE.bind (WE.ofW (W.any fun g d tk os QQ EE k => (BindsTo.of_eq (s := ⟨h, g, d, tk, os⟩) hbind) _ _ _ _ (k _ h tk ?_))))))
  refine WE.bind (WE.ofW (W.any fun g d tk os QQ EE k => wpAny_newFunctionEnv m2 hl (fun h1 hns hs => k _ _ _ ?_) m1))
  have hk1 : ∀ b o, h.get? b = some o → h1.get? b = some o := fun b o e => hs.extBut b o (Nat.ne_of_lt (Heap.lt_size e)) (Heap.get?_push_of_some _ e)
  have hlim := (G.lim.keeps up).fresh _ hs
  refine WE.bind (WE.ofW (W.any fun g d tk os QQ EE k => wpAny_enterFrame hlim (by have := room.1; show A.depth < _; omega) (k _ _ _ (WE.ofW (W.pure ⟨rfl, ?_⟩)))))
  have S : St hT h [] (callEnv fd h.objs.size f) fr (P h.objs.size) h1 := ⟨by
      have e : (fun x => binds.reverse.lookup x) = fun x => (fr.lookup x).join := funext fun x => hfr ▸ frOf_look nd x
      rw [e] at hns; exact hns, ok _, fun b o e _ => hk1 b o e, e0, fun b o e => hk1 b o (up b o e), up, fun _ m => (nomatch m), p _ _ e0 fun b o e _ => hk1 b o e, ps _⟩
  have hA' : (A.deeper (callEnv fd h.objs.size f)).frames = some (callEnv fd h.objs.size f :: outer) := by show A.frames.map _ = _; rw [hA]; rfl
  have fin := H _ h1 S room.deeper hA' (S.ff ff rfl)
  have ee : newEnv fd.scope h.objs.size fd.globals fd.closure (fd.qualname ++ ".<locals>.") (some f) (.ref c) none fd.builtins = callEnv fd h.objs.size f := by unfold callEnv; rw [hc]
  rw [ee]
  refine CWE.tree rfl ?_
  show WE _ _ (A.deeper (callEnv fd h.objs.size f)) (do point; match ← (execs body (callEnv fd h.objs.size f)).onRaise (leaving (callEnv fd h.objs.size f)) with | .ret v => ret v | _ => ret .none) _ _ _
  refine WE.bind (WE.ofW (W.point (WE.bind (WE.onRaise (fin.mono (fun fl h2 q => q.elim) fun v h2 r => ?_)))))
  exact r.leave ff rfl hA'
end
section
open Builtin
theorem enc_case {n : Nat} (b : List UInt8) (hb : b.length ≤ 2) (e : ∀ t, «str.encode» ⟨[.str (Str.ofString (toString (n : Int))) t], []⟩ = (do ret (← mkBytes b.toArray))) : ∃ b : List UInt8, b.length ≤ 2 ∧ ∀ t, «str.encode» ⟨[.str (Str.ofString (toString (n : Int))) t], []⟩ = (do ret (← mkBytes b.toArray)) := ⟨b, hb, e⟩
theorem enc_small : ∀ n : Nat, n ≤ 20 → ∃ b : List UInt8, b.length ≤ 2 ∧ ∀ t, «str.encode» ⟨[.str (Str.ofString (toString (n : Int))) t], []⟩ = (do ret (← mkBytes b.toArray))
  | 0, _ => enc_case [48] (by decide) fun t => by kernel_rfl
  | 1, _ => enc_case [49] (by decide) fun t => by kernel_rfl
  | 2, _ => enc_case [50] (by decide) fun t => by kernel_rfl
  | 3, _ => enc_case [51] (by decide) fun t => by kernel_rfl
  | 4, _ => enc_case [52] (by decide) fun t => by kernel_rfl
  | 5, _ => enc_case [53] (by decide) fun t => by kernel_rfl
  | 6, _ => enc_case [54] (by decide) fun t => by kernel_rfl
  | 7, _ => enc_case [55] (by decide) fun t => by kernel_rfl
  | 8, _ => enc_case [56] (by decide) fun t => by kernel_rfl
  | 9, _ => enc_case [57] (by decide) fun t => by kernel_rfl
  | 10, _ => enc_case [49, 48] (by decide) fun t => by kernel_rfl
  | 11, _ => enc_case [49, 49] (by decide) fun t => by kernel_rfl
  | 12, _ => enc_case [49, 50] (by decide) fun t => by kernel_rfl
  | 13, _ => enc_case [49, 51] (by decide) fun t => by kernel_rfl
  | 14, _ => enc_case [49, 52] (by decide) fun t => by kernel_rfl
  | 15, _ => enc_case [49, 53] (by decide) fun t => by kernel_rfl
  | 16, _ => enc_case [49, 54] (by decide) fun t => by kernel_rfl
  | 17, _ => enc_case [49, 55] (by decide) fun t => by kernel_rfl
  | 18, _ => enc_case [49, 56] (by decide) fun t => by kernel_rfl
  | 19, _ => enc_case [49, 57] (by decide) fun t => by kernel_rfl
  | 20, _ => enc_case [50, 48] (by decide) fun t => by kernel_rfl
  | n + 21, h => absurd h (by omega)
end
section
variable {A : Around} {h : Heap}
theorem TI.str {x : Str} {t : Tok} : TI h (.str x t) "str" := fun s _ => typeIs_str s x t
theorem S_str {n : Int} {t : Tok} {Q : Value → Heap → Prop} (h0 : 0 ≤ n) (h1 : n ≤ 20) (q : ∀ t, Q (.str (Str.ofString (toString n)) t) h) : W prog w A (call (.type "str") [.int n t] []) h Q :=
  W.any fun g d tk os QQ EE k => str_of_int_fit (N := 100) (by rw [if_neg (by omega)]; omega) (by decide) fun _ => k _ _ _ (q _)
theorem S_getm_encode {x : Str} {t : Tok} {pl : Sem Bool} {Q : Value × List Value → Heap → Prop} (q : Q (.builtin "str.encode", [.str x t]) h) : W prog w A (getMethod (.str x t) (Str.ofString "encode") pl) h Q :=
  W_getmB TI.str (fun _ e => nomatch e) PySem.F.plainAttrs_str PySem.F.slot_str_encode PySem.F.type_str_encode q
theorem S_encode {n : Int} {t : Tok} {Q : Value → Heap → Prop} (h0 : 0 ≤ n) (h1 : n ≤ 20) (q : ∀ (b : List UInt8) t, b.length ≤ 2 → Q (.bytes b.toArray t) h) : W prog w A (call (.builtin "str.encode") [.str (Str.ofString (toString n)) t] []) h Q := by
  obtain ⟨m, rfl⟩ := Int.eq_ofNat_of_zero_le h0
  obtain ⟨b, hb, e⟩ := enc_small m (by omega)
  refine W_bi PySem.F.slot_str_encode TI.str (by decide +kernel) PySem.F.entry_str_encode (PySem.F.args_str_encode_1 _) ?_
  rw [e]
  exact W.any fun g d tk os QQ EE k => wpAny_bind (wpAny_mkBytes (wpAny_pure (k _ _ _ ⟨_, rfl, q b _ hb⟩)) (by simp only [List.size_toArray]; rw [sizeLine_eq]; omega))
end
theorem tac_mac7 : True := by
  k_with "w2" => (first
  | ((with_reducible refine' W_get (S.X G) S.p.c.i (ok_Lexer _) ?ha ?hl ?hv ?_); (case ha => k_extra "la"); (case hl => exact rfl); (case hv => exact rfl))
  | ((with_reducible refine' W_getm2 (S.X G) S.p.c.i (ok_Lexer _) ?hf ?hl ?_); (case hf => k_extra "lm"); (case hl => exact rfl))
  | ((with_reducible refine C_isf ?hp ?he ?_); (case hp => exact rfl); (case he => exact rfl))
  | ((with_reducible refine C_isnf ?hp ?he ?_); (case hp => exact rfl); (case he => exact rfl))
  | ((with_reducible refine BA_bytes S.p.c.b ?hz (fun _ => ?_)); (case hz => first | assumption | omega))
  | ((with_reducible refine B_add ?hla ?hlb (fun _ => ?_)); (case hla => first | assumption | omega | decide | (simp only [List.length_append, List.length_cons, List.length_nil]; omega)); (case hlb => first | assumption | omega | decide | (simp only [List.length_append, List.length_cons, List.length_nil]; omega))))
  trivial
theorem kk_lse (P : Params) : KeepOK (KK P) (.ref 87) := .inl (by kernel_rfl)
theorem textZ_len (l : List UInt8) : (textZ l).length ≤ l.length := by
  unfold textZ
  induction l with
  | nil => exact Nat.le_refl _
  | cons b r ih =>
    rw [List.takeWhile_cons]
    split
    · simp only [List.length_cons]; omega
    · exact Nat.zero_le _
section
variable {A : Around} {K : Frag} {hE h h' : Heap} {X : LX} {bl : Addr} {bs : List UInt8} {al : List (Str × Value)} {pos : Nat} {j : LJ} {cur ahead : Value} {outer : List Env}
theorem W_getm2 {x dx C f : Addr} {al : List (Str × Value)} {name : Str} {pl : Sem Bool} {Q : Value × List Value → Heap → Prop} (X : K.In h) (I : Inst h x dx C al) (hc : isOk C K = true)
    (hf : findIn K (.ref C) name = some (some (.ref f)) ∧ isFn K (.ref f) = true) (hl : al.lookup name = none) (q : Q (.ref f, [.ref x]) h) : W prog w A (getMethod (.ref x) name pl) h Q := W_getm X I hc hf.1 hf.2 hl q
structure LQ (prog : Program) (w : World) (hT : Heap) (X : LX) (L bl : Addr) (bs : List UInt8) (al : List (Str × Value)) (h : Heap) : Prop where
  c : LexC prog w hT h X bl bs al
  n : L ≠ X.l ∧ L ≠ X.dl ∧ L ≠ X.lim ∧ L ≠ X.dlim ∧ L ≠ X.kd ∧ L ≠ bl
theorem LQ.ps {L : Addr} (h h' : Heap) (k : Keeps h h' [L]) (p : LQ prog w hT X L bl bs al h) : LQ prog w hT X L bl bs al h' := ⟨p.c.keepsN p.n k, p.n⟩
theorem LQ.in (lc : LexC prog w hT h X bl bs al) {L : Addr} {h1 : Heap} (n1 : h.get? L = none) (k1 : Keeps h h1 []) : LQ prog w hT X L bl bs al h1 :=
  ⟨lc.keeps k1 ⟨List.not_mem_nil, List.not_mem_nil, List.not_mem_nil, List.not_mem_nil, List.not_mem_nil, List.not_mem_nil⟩, let ⟨a1, a2, a3, a4, a5, a6⟩ := lc.has; ⟨fresh_ne n1 a1, fresh_ne n1 a2, fresh_ne n1 a3, fresh_ne n1 a4, fresh_ne n1 a5, fresh_ne n1 a6⟩⟩
noncomputable def OkKind (n : Int) : Prop := n = 45 ∨ n = 40 ∨ (257 ≤ n ∧ n ≤ 287)
theorem near_text_ (G : GG w hT) (up : Grown hT hE) (room : Room A 4) {n : Int} {t : Tok} (hn : OkKind n) (hb : bs.length ≤ 100) (lc : LexC prog w hT hE X bl bs (lexAl X pos (sgn X.T pos) j bl cur ahead)) :
    W prog w A (call (.ref 315) [.ref X.l, .int n t] []) hE fun v h' => aText v ∧ Keeps hE h' [] := by
  refine W_fn (F := []) (P := fun L => LQ prog w hT X L bl bs (lexAl X pos (sgn X.T pos) j bl cur ahead)) (rest := []) (fr := [(Str.ofString "self", some (.ref X.l)), (Str.ofString "kind", some (.int n t))]) G up room (k_near_text _) (c_near_text _) rfl (b_near_text _ _) f_near_text rfl rfl no_pF (fun L h1 n1 k1 => LQ.in lc n1 k1) (fun L => LQ.ps) ?_
  intro L h S R Q0 q0
  have hz : bs.length < 15000000 := by omega
  k_extra "ww"
  · refine (c_text_ G S.up (R.le (by decide)) (by omega)).mono ?_
    k_extra "int"
    k_extra "u"; exact ⟨⟨_, _, rfl, Nat.le_trans (textZ_len bs) (by omega)⟩, S.kp⟩
  · refine (token_text_ G S.up R hn).mono ?_
    rintro v h ⟨a, k⟩
    k_extra "u"; exact ⟨a, (S.same k).kp⟩
theorem lex_error_ (G : GG w hT) (up : Grown hT hE) (room : Room A 5) {n : Int} {t u : Tok} (hn : OkKind n) (hb : bs.length ≤ 100) (hp : pos ≤ 1000) (lc : LexC prog w hT hE X bl bs (lexAl X pos (sgn X.T pos) j bl cur ahead)) (jk : j.ok pos) (hA : A.frames = some outer) (ff : hE.FunFrames hT outer) :
    WE prog w A (call (.ref 301) [.ref X.l, .bytes [110, 111, 110, 101].toArray u, .int n t] []) hE (fun _ _ => False) (fun v h3 => ∃ a, v = .ref a ∧ Flies hT hE h3 outer a) := by
  refine WE_fn (P := fun L => LQ prog w hT X L bl bs (lexAl X pos (sgn X.T pos) j bl cur ahead)) (rest := [Str.ofString "message"]) (fr := [(Str.ofString "self", some (.ref X.l)), (Str.ofString "text", some (.bytes [110, 111, 110, 101].toArray u)), (Str.ofString "kind", some (.int n t)), (Str.ofString "message", none)]) G up room (k_error _) (c_error _) rfl (b_error _ _ _) f_error rfl rfl (fun L h1 n1 k1 => LQ.in lc n1 k1) (fun L => LQ.ps) hA ff ?_
  intro L h S R hA' ff'
  have j1 := jk.1
  have j2 := jk.2
  have hn0 : n ≠ 0 := by unfold OkKind at hn; omega
  refine WE_cons1 ?_
  k_extra "ww"
  refine (to_text_ G S.up (R.le (by decide)) j1 (by omega)).mono ?_
  rintro _ h ⟨⟨l1, t1, rfl, hl1⟩, k⟩
  replace S := S.same k
  clear k
  k_extra "ww"
  refine ⟨rfl, WE_cons1 ?_⟩
  k_extra "oo"
  refine (near_text_ G S.up (R.le (by decide)) hn hb S.p.c).mono ?_
  rintro _ h ⟨⟨l2, t2, rfl, hl2⟩, k⟩
  replace S := S.same k
  clear k
  k_extra "oo"
  refine ⟨rfl, WE_cons (WE_raise R.hh ?_)⟩
  k_extra "ww"
  refine W_w1 G (kk_lse _) ?_
  k_extra "ww"
  refine (err_new_ G S.up (R.le (by decide))).mono ?_
  rintro _ h3 ⟨⟨e, t3, d, rfl, x, ne⟩, k⟩
  exact ⟨e, t3, some d, rfl, x, k _ _ (S.X G _ _ (k_lse _)) List.not_mem_nil, e, rfl, .inl ⟨t3, some d, _, _, S.same k, x, S.new ne List.not_mem_nil⟩⟩
theorem lex_synerr_ (G : GG w hT) (up : Grown hT hE) (room : Room A 6) {n : Int} {tv : TV} {u : Tok} (hn : OkKind n) (hb : bs.length ≤ 100) (hp : pos ≤ 1000) (T : TokV hE cur n tv) (lc : LexC prog w hT hE X bl bs (lexAl X pos (sgn X.T pos) j bl cur ahead)) (jk : j.ok pos) (hA : A.frames = some outer) (ff : hE.FunFrames hT outer) :
    WE prog w A (call (.ref 308) [.ref X.l, .bytes [110, 111, 110, 101].toArray u] []) hE (fun _ _ => False) (fun v h3 => ∃ a, v = .ref a ∧ Flies hT hE h3 outer a) := by
  obtain ⟨a, rfl, d, t, v', hv, I⟩ := T
  refine WE_fn (P := fun L => LQ prog w hT X L bl bs (lexAl X pos (sgn X.T pos) j bl (.ref a) ahead)) (rest := []) (fr := [(Str.ofString "self", some (.ref X.l)), (Str.ofString "text", some (.bytes [110, 111, 110, 101].toArray u))]) G up room (k_syntax_error _) (c_syntax_error _) rfl (b_syntax_error _ _) f_syntax_error rfl rfl (fun L h1 n1 k1 => LQ.in lc n1 k1) (fun L => LQ.ps) hA ff ?_
  intro L h S R hA' ff'
  refine WE_cons (WE_expr (WE_meth ?_))
  k_extra "ww"
  refine WE_with G (kk_error _) ?_
  k_extra "ww"
  refine W_get (S.X G) (I.keeps S.kp List.not_mem_nil List.not_mem_nil) (ok_Token _) (a_Token_kind _) rfl rfl ?_
  k_extra "ww"
  refine (lex_error_ G S.up R hn hb hp S.p.c jk hA' (S.ff ff rfl)).mono (fun _ _ q => q.elim) ?_
  rintro v h3 ⟨e, rfl, F⟩
  exact ⟨e, rfl, .inr ⟨_, _, _, S, F⟩⟩
end
section
variable {A : Around} {K : Frag} {hE h h' : Heap} {r dr pl : Addr} {i : Int} {j : RJ} {cur : Value} {outer : List Env} {env : Env} {fr : Fra}
theorem row_error_ (G : GG w hT) (up : Grown hT hE) (room : Room A 4) {n : Int} {t u : Tok} (hn : OkKind n) (I : Inst hE r dr 521 (rowAl pl i j cur)) (jk : j.ok) (hA : A.frames = some outer) (ff : hE.FunFrames hT outer) :
    WE prog w A (call (.ref 511) [.ref r, .bytes [110, 111, 110, 101].toArray u, .int n t] []) hE (fun _ _ => False) (fun v h3 => ∃ a, v = .ref a ∧ Flies hT hE h3 outer a) := by
  refine WE_fn (P := fun L => IP L r dr 521 (rowAl pl i j cur)) (rest := [Str.ofString "told"]) (fr := [(Str.ofString "self", some (.ref r)), (Str.ofString "text", some (.bytes [110, 111, 110, 101].toArray u)), (Str.ofString "kind", some (.int n t)), (Str.ofString "told", none)]) G up room (k_row_error _) (c_row_error _) rfl (b_row_error _ _ _) f_row_error rfl rfl (fun L h2 n2 k2 => ⟨I.keeps k2 List.not_mem_nil List.not_mem_nil, fresh_ne n2 I.some.1, fresh_ne n2 I.some.2⟩) (fun L => IP.ps) hA ff ?_
  intro L h S R hA' ff'
  have hn0 : n ≠ 0 := by unfold OkKind at hn; omega
  refine WE_cons1 ?_
  k_extra "oo"
  refine (token_text_ G S.up R hn).mono ?_
  rintro _ h ⟨⟨l1, t1, rfl, hl1⟩, k⟩
  replace S := S.same k
  clear k
  k_extra "ww"
  refine ⟨rfl, WE_cons (WE_raise R.hh ?_)⟩
  k_extra "ww"
  refine W_w1 G (kk_lse _) ?_
  k_extra "ww"
  refine S_str jk.1 jk.2 fun _ => ?_
  k_extra "ww"
  refine S_getm_encode ?_
  k_extra "ww"
  refine S_encode jk.1 jk.2 fun b _ hb => ?_
  k_extra "ww"
  refine (err_new_ G S.up (R.le (by decide))).mono ?_
  rintro _ h3 ⟨⟨e, t3, d, rfl, x, ne⟩, k⟩
  exact ⟨e, t3, some d, rfl, x, k _ _ (S.X G _ _ (k_lse _)) List.not_mem_nil, e, rfl, .inl ⟨t3, some d, _, _, S.same k, x, S.new ne List.not_mem_nil⟩⟩
theorem row_synerr_ (G : GG w hT) (up : Grown hT hE) (room : Room A 6) {n : Int} {tv : TV} {u : Tok} (hn : OkKind n) (T : TokV hE cur n tv) (I : Inst hE r dr 521 (rowAl pl i j cur)) (jk : j.ok) (hA : A.frames = some outer) (ff : hE.FunFrames hT outer) :
    WE prog w A (call (.ref 518) [.ref r, .bytes [110, 111, 110, 101].toArray u] []) hE (fun _ _ => False) (fun v h3 => ∃ a, v = .ref a ∧ Flies hT hE h3 outer a) := by
  obtain ⟨a, rfl, d, t, v', hv, IT⟩ := T
  refine WE_fn (P := fun L => IP L r dr 521 (rowAl pl i j (.ref a))) (rest := []) (fr := [(Str.ofString "self", some (.ref r)), (Str.ofString "text", some (.bytes [110, 111, 110, 101].toArray u))]) G up room (k_row_syntax_error _) (c_row_syntax_error _) rfl (b_row_syntax_error _ _) f_row_syntax_error rfl rfl (fun L h2 n2 k2 => ⟨I.keeps k2 List.not_mem_nil List.not_mem_nil, fresh_ne n2 I.some.1, fresh_ne n2 I.some.2⟩) (fun L => IP.ps) hA ff ?_
  intro L h S R hA' ff'
  refine WE_cons (WE_expr (WE_meth ?_))
  k_extra "ww"
  refine WE_with G (kk_row_error _) ?_
  k_extra "ww"
  refine W_get (S.X G) (IT.keeps S.kp List.not_mem_nil List.not_mem_nil) (ok_Token _) (a_Token_kind _) rfl rfl ?_
  k_extra "ww"
  refine (row_error_ G S.up (R.le (by decide)) hn S.p.i jk hA' (S.ff ff rfl)).mono (fun _ _ q => q.elim) ?_
  rintro v h3 ⟨e, rfl, F⟩
  exact ⟨e, rfl, .inr ⟨_, _, _, S, F⟩⟩
theorem W_try {body orelse : List Stmt} {h₀ : ExceptHandler} {hs : List ExceptHandler} {pos : Pos} {Q : Flow → Heap → Prop}
    (H : WE prog w A (execs body env) h (fun _ _ => False) (fun e h1 => W prog w A (noteFrame e env) h1 fun _ h2 => W prog w A (setFlight e none) h2 fun _ h3 => W prog w A (handleBy e env (h₀ :: hs)) h3 Q)) : W prog w A (exec (.Try body (h₀ :: hs) orelse [] pos) env) h Q := by
  rw [arm_exec_Try]
  refine W.bind (W.standAt ?_)
  unfold tryStmt
  simp only [List.isEmpty_nil, if_true, List.isEmpty_cons, Bool.false_and, Bool.false_eq_true, if_false]
  refine W.bind (W.attempt (H.mono (fun f h1 q => q.elim) fun e h1 h₁ => ?_))
  exact W.bind (h₁.mono fun _ _ h₂ => W.bind h₂)
theorem W_handle {e : Addr} {t : PySem.Expr} {b₀ : Stmt} {body : List Stmt} {pos : Pos} {rest : List ExceptHandler} {Q : Flow → Heap → Prop}
    (H : W prog w (A.mark (some (.ref e))) (eval t env) h fun c h1 => W prog w (A.mark (some (.ref e))) (excMatches (.ref e) c) h1 fun b h2 => b = true ∧
      W prog w (A.mark (some (.ref e))) (setFlight (.ref e) none) h2 fun _ h3 => W prog w (A.mark (some (.ref e))) (execs (b₀ :: body) env) h3 Q) :
    W prog w A (handleBy (.ref e) env (.ExceptHandler (some t) none (b₀ :: body) pos :: rest)) h Q := by
  rw [handleBy]
  have T : CW prog w (A.mark (some (.ref e))) (.handlers (.ref e) [.ExceptHandler (some t) none [] pos] env) h fun f h2 => f = .brk ∧ W prog w (A.mark (some (.ref e))) (setFlight (.ref e) none) h2 fun _ h3 => W prog w (A.mark (some (.ref e))) (execs (b₀ :: body) env) h3 Q := by
    refine CW.tree rfl ?_
    show W _ _ (A.mark (some (.ref e))) (do return Fin.done (← (handleWith (.ref e) env [.ExceptHandler (some t) none [] pos]).onRaise (fun x => do noteFrame x env; theTreesLotGoes x))) _ _
    refine W.bind (W.onRaise ?_)
    unfold handleWith
    refine W.bind (W.standAt (W.bind (H.mono fun c h1 H1 => W.bind (W.standAt (W.bind (H1.mono fun b h2 ⟨eb, H2⟩ => ?_))))))
    subst eb
    exact W.pure (W.pure ⟨rfl, H2⟩)
  refine W.bind (W.holding (W.runOwnH (T.mono fun f h2 ⟨ef, H2⟩ => ?_)))
  subst ef
  refine W.bind (W.pure ?_)
  simp only [Bool.not_true, Bool.false_eq_true, if_false]
  refine W.bind (W.holding (W.runOwnH (CW.tree rfl ?_)))
  show W _ _ (A.mark (some (.ref e))) (do return Fin.done (← (handleWith (.ref e) env [.ExceptHandler none none (b₀ :: body) pos]).onRaise (fun x => do noteFrame x env; theTreesLotGoes x))) _ _
  refine W.bind (W.onRaise ?_)
  unfold handleWith
  exact W.bind (W.standAt (W.bind (H2.mono fun _ h3 H3 => H3.mono fun f h4 q => W.pure (W.pure q))))
theorem exc_match {e T : Addr} {fl : Value} {Q : Bool → Heap → Prop} (hC : h.get? 87 = some lseObj) (x : ExT h e T fl) (q : Q true h) : W prog w A (excMatches (.ref e) (.ref 87)) h Q := by
  obtain ⟨oe, vs, oT, ts, he, hc, hd, h1, hT, hdT, h3, hTe⟩ := x.ex
  refine W.any fun g d tk os QQ EE k => ?_
  have b1 : (Value.ref 87 :: excMro).contains (.type "BaseException") = true := by decide +kernel
  have b2 : (Value.ref 87 :: excMro).contains (.ref 87) = true := by decide +kernel
  have b3 : isSubtype (.type "type") (.type "tuple") = pure false := by rw [isSubtype_type]; kernel_rfl
  have b4 : isSubtype (.type "type") (.type "type") = pure true := tc_sub
  have b5 : lseObj.cls = .type "type" := rfl
  unfold excMatches
  repeat (first | (with_reducible refine wpAny_loadPart_at he ?_; rw [hc]) | (with_reducible refine wpAny_loadPart_at hC ?_; rw [b5]) | (with_reducible refine wpAny_isSubtype_exc hC ?_; first | rw [b1] | rw [b2]) | wp_step)
  exact k _ _ _ q
theorem W_globO {x : Str} {pos : Pos} {v : Value} {Q : Value → Heap → Prop} (ok : FrOK env fr) (up : Grown hT h) (G : Gr K hT) (hv : GV K x v) (hx : env.kindOf x = some .globalImplicit) (q : Q v h) : W prog w A (eval (.Name x pos) env) h Q :=
  W.any fun g d tk os QQ EE k => by
    obtain ⟨mg, hg⟩ := G.g
    obtain ⟨mb, hb, bb⟩ := G.b
    refine Name_function_global ok.kind hx ?_ hv.1
    rcases hv.2 with e | ⟨e1, e2, e3⟩
    · exact loadGlobal_global (mg := mg) (by rw [ok.glob]; exact hg.keeps up) (mg_of G.X hg e) (k _ _ _ q)
    · exact loadGlobal_builtin (mg := mg) (mb := mb) (by rw [ok.glob]; exact hg.keeps up) (mg_none_of G.X hg e1) (by rw [ok.blt]; exact hb.keeps up) ((bb x e3).trans e2) (k _ _ _ q)
theorem g_LSE (P : Params) : GV (KK P) (Str.ofString "LuaSyntaxError") (.ref 87) := ⟨by kernel_rfl, .inl (by kernel_rfl)⟩
theorem KeepsS.grown {l : List Env} {F : List Addr} (k : KeepsS h h' (frs l) F) (up : Grown hT h) (ff : h.FunFrames hT l) (hF : ∀ a ∈ F, hT.get? a = none) : Grown hT h' := fun b o e =>
  (k b o (up b o e) (fun m => by rw [hF b m] at e; cases e)).1 fun m => by rw [(ff.mem m).1] at e; cases e
theorem law_refused_g (G : GG w hT) (up : Grown hT hE) (room : Room A 7) {rd f : Addr} (hkk : KeepOK (KK w.params) (.ref f)) (hA : A.frames = some outer) (ff : hE.FunFrames hT outer)
    (hget : ∀ (A : Around) (pl : Sem Bool) (h1 : Heap) (Q : Value × List Value → Heap → Prop), Grown hT h1 → Keeps hE h1 [] → Q (.ref f, [.ref rd]) h1 → W prog w A (getMethod (.ref rd) (Str.ofString "syntax_error") pl) h1 Q)
    (herr : ∀ (A : Around) (h1 : Heap) (outer : List Env) (u : Tok), Grown hT h1 → Room A 6 → Keeps hE h1 [] → A.frames = some outer → h1.FunFrames hT outer → WE prog w A (call (.ref f) [.ref rd, .bytes [110, 111, 110, 101].toArray u] []) h1 (fun _ _ => False) (fun v h3 => ∃ a, v = .ref a ∧ Flies hT h1 h3 outer a)) :
    W prog w A (call (.ref 553) [.ref rd] []) hE fun v h' => v = .bool true ∧ KeepsS hE h' (frs outer) [] := by
  refine W_fn (F := []) (P := fun _ _ => True) (rest := []) (fr := [(Str.ofString "reader", some (.ref rd))]) G up room (k_law_refused _) (c_law_refused _) rfl (b_law_refused _) f_law_refused rfl rfl no_pF (fun _ _ _ _ => trivial) (fun _ _ _ _ _ => trivial) ?_
  intro L h S R Q0 q0
  have hA' : (A.deeper (callEnv fd_law_refused L 553)).frames = some (callEnv fd_law_refused L 553 :: outer) := by show A.frames.map _ = _; rw [hA]; rfl
  have ff' := S.ff ff rfl
  refine W_cons (W_try (WE_cons (WE_expr (WE_meth ?_))))
  k_extra "ww"
  refine hget _ _ _ _ S.up S.kp ?_
  refine WE_with G hkk ?_
  k_extra "ww"
  refine (herr _ _ _ _ S.up R S.kp hA' ff').mono (fun _ _ q => q.elim) ?_
  rintro v h1 ⟨a, rfl, F⟩
  obtain ⟨T, x, nT⟩ := F.ex
  refine W.any fun g d tk os QQ EE k => note_next hA' F.ff rfl x fun h2 T2 nT2 k2 x2 ff2 => k _ _ _ ?_
  have nT2' : h.get? T2 = none := by
    cases q : h.get? T2 with
    | none => rfl
    | some o => obtain ⟨_, sl, z⟩ := F.k _ _ q List.not_mem_nil; rw [z] at nT2; cases nT2
  have K2 : KeepsS h h2 (frs (callEnv fd_law_refused L 553 :: outer)) [] := F.k.trans k2 (fun b m => .inr (by
    simp only [List.mem_cons, List.not_mem_nil, or_false] at m
    rcases m with rfl | rfl
    · exact F.new
    · exact nT))
  refine W.any fun g d tk os QQ EE k => flight_none x2 fun h3 k3 x3 => k _ _ _ ?_
  have K3 : KeepsS h h3 (frs (callEnv fd_law_refused L 553 :: outer)) [] := K2.trans (k3.mono (fun x m => nomatch m) fun x m => m) ((all1 (.inr (nT2'))))
  have up3 : Grown hT h3 := K3.grown S.up ff' (fun a m => nomatch m)
  refine W_handle (W_globO S.ok up3 G (g_LSE _) (by kernel_rfl) (exc_match (up3 _ _ (G.X _ _ (k_lse _))) x3 ⟨rfl, ?_⟩))
  refine W.any fun g d tk os QQ EE k => flight_none x3 fun h4 k4 x4 => k _ _ _ ?_
  have K4 : KeepsS h h4 (frs (callEnv fd_law_refused L 553 :: outer)) [] := K3.trans (k4.mono (fun x m => nomatch m) fun x m => m) ((all1 (.inr (nT2'))))
  refine W_cons (W_ret (W_bool (q0 _ _ ⟨rfl, fun b o e _ => ?_⟩)))
  obtain ⟨q1, q2⟩ := ((S.kp.s (Ls := frs (callEnv fd_law_refused L 553 :: outer))).trans K4 (fun b m => nomatch m)) b o e List.not_mem_nil
  refine ⟨fun nl => q1 fun m => ?_, q2⟩
  rcases List.mem_cons.mp m with q | q
  · exact S.notL e q
  · exact nl q
theorem law_refused_row (G : GG w hT) (up : Grown hT hE) (room : Room A 7) {n : Int} {tv : TV} (hn : OkKind n) (T : TokV hE cur n tv) (I : Inst hE r dr 521 (rowAl pl i j cur)) (jk : j.ok) (hA : A.frames = some outer) (ff : hE.FunFrames hT outer) :
    W prog w A (call (.ref 553) [.ref r] []) hE fun v h' => v = .bool true ∧ KeepsS hE h' (frs outer) [] :=
  law_refused_g G up room (kk_row_syntax_error _) hA ff
    (fun A pl h1 Q up1 k q => W_getm (G.X.keeps up1) (I.keeps k List.not_mem_nil List.not_mem_nil) (ok_TokenRow _) (m_row_syntax_error _).1 (m_row_syntax_error _).2 rfl q)
    (fun A h1 outer u up1 R k hA ff => row_synerr_ G up1 R hn (T.keeps k fun x m => nomatch m) (I.keeps k List.not_mem_nil List.not_mem_nil) jk hA ff)
theorem law_refused_lex {X : LX} {bl : Addr} {bs : List UInt8} {pos : Nat} {j : LJ} {ahead : Value} (G : GG w hT) (up : Grown hT hE) (room : Room A 7) {n : Int} {tv : TV} (hn : OkKind n) (hb : bs.length ≤ 100) (hp : pos ≤ 1000) (T : TokV hE cur n tv) (lc : LexC prog w hT hE X bl bs (lexAl X pos (sgn X.T pos) j bl cur ahead)) (jk : j.ok pos)
    (hA : A.frames = some outer) (ff : hE.FunFrames hT outer) :
    W prog w A (call (.ref 553) [.ref X.l] []) hE fun v h' => v = .bool true ∧ KeepsS hE h' (frs outer) [] :=
  have nn : ∀ a : Addr, a ∉ ([] : List Addr) := fun _ => List.not_mem_nil
  law_refused_g G up room (kk_syntax_error _) hA ff
    (fun A pl h1 Q up1 k q => W_getm (G.X.keeps up1) (lc.i.keeps k List.not_mem_nil List.not_mem_nil) (ok_Lexer _) (m_syntax_error _).1 (m_syntax_error _).2 rfl q)
    (fun A h1 outer u up1 R k hA ff => lex_synerr_ G up1 R hn hb hp (T.keeps k fun x m => nomatch m) (lc.keeps k ⟨nn _, nn _, nn _, nn _, nn _, nn _⟩) jk hA ff)
end
end
section
variable {A : Around} {h : Heap} {Q : Value → Heap → Prop}
theorem mul_exact {E : Value → Shared → Prop} {s : Shared} {l : Addr} {items : Array Value} {k : Nat} {x : Int} {u : Tok} {Q : Value → Shared → Prop} (hl : s.heap.get? l = some { cls := .type "list", dict := none, data := .seq items k, slots := #[] })
    (hlo : -(2 ^ 63 : Int) ≤ x) (hhi : x < 2 ^ 63) (hsz : items.size * x.toNat ≤ 2 ^ 24)
    (h : Q (.ref s.heap.objs.size) { s with heap := s.heap.push { cls := .type "list", data := .seq (List.foldl (fun x1 x2 => x1 ++ x2) #[] (List.replicate (if items.isEmpty = true then 0 else x.toNat) items)) } }) :
    wpAny (model prog w) A (binaryOp .Mult (.ref l) (.int x u)) Q E s :=
  wpAny_binaryOp_repeat_ref (T := "list") (U := "int") (by decide) ⟨_, hl, rfl⟩ (fun s' => typeIs_int s' x u) noFill_list_mul F.fills_int_mul F.slot_int_rmul repeat_list F.slot_int_index.lookup
    (call_meets F.slot_int_rmul (typeIs_int s x u) F.entry_int_rmul (F.args_int_rmul_2 _ _) (int___rmul___int_list x u l items k)
      ⟨hl, rfl, ⟨_, hl, rfl⟩, call_meets F.slot_list_mul ⟨_, hl, rfl⟩ F.entry_list_mul (F.args_list_mul_2 _ _)
        (AutoListH.list___mul___list_int_3 l items k x u (by simp [Builtin.List.listFitsIndex]; omega) (by omega) (by simp [Builtin.List.listTooLong, sizeLine]; omega))
        ⟨hl, h⟩⟩)
theorem foldl_rep (vs : List Value) : ∀ (m : Nat) (acc : List Value), List.foldl (fun x1 x2 : Array Value => x1 ++ x2) acc.toArray (List.replicate m vs.toArray) = (acc ++ (List.replicate m vs).flatten).toArray := by
  intro m
  induction m with
  | zero => intro acc; simp
  | succ m ih => intro acc; rw [List.replicate_succ, List.foldl_cons, List.append_toArray, ih]; simp [List.replicate_succ]
theorem L_mul {l : Addr} {vs : List Value} {x : Int} {n : Nat} {u : Tok} (xl : IsL h l vs) (hx : x = n) (hn : n ≤ 1000) (hv : vs ≠ []) (hz : vs.length ≤ 10)
    (q : ∀ a h', h.get? a = none → Keeps h h' [] → IsL h' a ((List.replicate n vs).flatten) → Q (.ref a) h') : W prog w A (binaryOp .Mult (.ref l) (.int x u)) h Q := by
  obtain ⟨k, hl⟩ := xl
  have hs : vs.toArray.size * x.toNat ≤ 2 ^ 24 := by
    have : vs.length * n ≤ 10 * 1000 := Nat.mul_le_mul hz hn
    rw [hx, List.size_toArray, Int.toNat_natCast]
    omega
  refine W.any fun g d tk os QQ EE kk => mul_exact (s := ⟨h, g, d, tk, os⟩) hl (by omega) (by omega) hs (kk _ _ _ (q _ _ size_new Keeps.push ⟨0, (push_new rfl).trans ?_⟩))
  have e1 : vs.toArray.isEmpty = false := by simp [hv]
  rw [e1, hx, Int.toNat_natCast]
  have := foldl_rep vs n []
  rw [List.nil_append] at this
  rw [if_neg Bool.false_ne_true]
  exact congrArg (fun z => some ({ cls := Value.type "list", data := Data.seq z } : Obj)) this
theorem L_cat {l b : Addr} {vs ws : List Value} (x : IsL h l vs) (y : IsL h b ws) (hz : vs.length + ws.length ≤ 100000) (q : ∀ a h', h.get? a = none → Keeps h h' [] → IsL h' a (vs ++ ws) → Q (.ref a) h') : W prog w A (binaryOp .Add (.ref l) (.ref b)) h Q := by
  obtain ⟨n, ho⟩ := x
  obtain ⟨n2, ho2⟩ := y
  have e : vs.toArray ++ ws.toArray = (vs ++ ws).toArray := by simp
  refine W.any fun g d tk os QQ EE k => concat_meets ⟨_, ho, rfl⟩ ⟨_, ho2, rfl⟩ noFill_list_add seq_list_add PySem.F.slot_list_add PySem.F.entry_list_add (PySem.F.args_list_add_2 _ _) (list_addW l b vs.toArray ws.toArray n n2 none none #[] #[] (by simp only [List.size_toArray]; rw [sizeLine_eq]; omega)) ⟨ho, ho2, ?_⟩
  rw [e]
  exact k _ _ _ (q _ _ size_new Keeps.push ⟨0, push_new rfl⟩)
theorem R_range {n : Int} {t : Tok} (q : ∀ a t1 t2, h.get? a = none → ∀ h', Keeps h h' [] → IsRange h' a 0 n 1 t1 t t2 → Q (.ref a) h') : W prog w A (call (.type "range") [.int n t] []) h Q :=
  W.any fun g d tk os QQ EE k => call_range_1 (s := ⟨h, g, d, tk, os⟩) (k _ _ _ (q _ _ _ size_new _ Keeps.push (IsRange.new h 0 n 1 _ t _)))
theorem P_range {r : Addr} {n : Nat} {t1 t t2 : Tok} (x : IsRange h r 0 n 1 t1 t t2) (hn : n ≤ 100000) (q : ∀ it h', h.get? it = none → Keeps h h' [] → IsRangeIter h' it 0 n 1 → Q (.ref it) h') : W prog w A (pyIter (.ref r)) h Q :=
  W.any fun g d tk os QQ EE k => wpAny_pyIter_range (s := ⟨h, g, d, tk, os⟩) x (small_one (by decide) (by decide) (by omega) (by omega)) (k _ _ _ (q _ _ size_new Keeps.push (by
    have : Builtin.Range.rangeSize 0 (n : Int) 1 = n := by rw [rangeSize_one]; split <;> omega
    rw [this]
    exact push_new rfl)))
theorem tv_eq {A : Around} {s : Shared} {tv : TV} {v v' : Value} (h1 : tv.is v) (h2 : tv.is v') : SeqAt.EqAt A s v v' true := by
  cases tv with
  | none =>
    rw [show v = .none from h1, show v' = .none from h2]
    intro prog w E Q hq
    unfold eqBool
    refine wpAny_holding ?_
    exact wpAny_bind (wpAny_rule (wpAny_pure hq))
  | num n =>
    obtain ⟨t, rfl⟩ := h1
    obtain ⟨u, rfl⟩ := h2
    have := SeqAt.EqAt.int_int (A := A) (s := s) n t n u
    simpa using this
  | str l =>
    obtain ⟨t, rfl⟩ := h1
    obtain ⟨u, rfl⟩ := h2
    intro prog w E Q hq
    refine eqBool_bytes ?_
    simpa using hq
theorem told_eq {A : Around} {v v' : Value} {k : Int} {tv : TV} {s : Shared} (hs : s.heap = h) (hu : A.units < cLine) (h1 : Told h v k tv) (h2 : Told h v' k tv) : SeqAt.EqAt A s v v' true := by
  obtain ⟨a, t, x, rfl, i1, e1⟩ := h1
  obtain ⟨b, u, y, rfl, i2, e2⟩ := h2
  by_cases hab : a = b
  · subst hab
    intro prog w E Q hq
    unfold eqBool
    refine wpAny_holding ?_
    rw [if_pos (by simp)]
    exact wpAny_bind (wpAny_rule (wpAny_pure hq))
  · subst hs
    refine SeqAt.EqAt.of_refs hab ?_
    have := SeqAt.RcAt.tuples (A := A) (s := s) (e := fun _ => true) i1.isTuple i2.isTuple hu (fun j h1 h2 => ?_)
    · exact (show ((List.range (min (#[Value.int k t, x] : Array Value).size (#[Value.int k u, y] : Array Value).size)).all (fun _ => true) && (#[Value.int k t, x] : Array Value).size == (#[Value.int k u, y] : Array Value).size) = true from rfl) ▸ this
    · match j with
      | 0 => simpa using SeqAt.EqAt.int_int (A := A.in1) (s := s) k t k u
      | 1 => exact tv_eq e1 e2
      | j + 2 => simp at h1; omega
theorem C_neLL {a b : Addr} {vs ws : List Value} (x1 : IsL h a vs) (x2 : IsL h b ws) (hl : vs.length = ws.length) (hu : A.units + 5 < cLine) (he : ∀ (i : Nat) (v v' : Value), vs[i]? = some v → ws[i]? = some v' → ∃ k tv, Told h v k tv ∧ Told h v' k tv)
    (q : Q (.bool false) h) : W prog w A (compareOp .NotEq (.ref a) (.ref b)) h Q :=
  W.any fun g d tk os QQ EE k => by
    have := SeqAt.RcNeAt.lists (A := A) (s := ⟨h, g, d, tk, os⟩) (e := fun _ => true) x1.isList x2.isList (by simpa using hl) (by omega) (fun j h1 h2 => by
      obtain ⟨kk, tv, e1, e2⟩ := he j _ _ (List.getElem?_eq_getElem (by simpa using h1)) (List.getElem?_eq_getElem (by simpa using h2))
      exact told_eq (A := A.in1) rfl (by show A.units + 1 < cLine; omega) e1 e2)
    refine this prog w EE QQ ?_
    have e : (!(List.range vs.toArray.size).all fun _ => true) = false := by simp
    rw [e]
    exact k _ _ _ q
end
section
open Builtin
variable {A : Around} {h : Heap}
theorem Lk_take {M : Model} {b : Array UInt8} {t : Tok} {id : String} : Looks M h (Bytes.takeBufferQuiet? id (.bytes b t) 0) (some (b, none)) := by
  intro A Q E s k q
  obtain ⟨hh, g, d, tk, os⟩ := s
  have L1 := (Lk_special (h := hh) (M := M) (v := .bytes b t) TI.bytes FA.look_bb)
  have L2 := Lk_ownBuf (h := hh) (M := M) (v := .bytes b t) (name := "__buffer__") TI.bytes FA.look_bb F.sub_bytes_bytes
  have L4 : ∀ full, Looks M hh (Bytes.buffer? id (.bytes b t) full) (some b) := fun full => Lk_buffer
  unfold Bytes.takeBufferQuiet? Bytes.takeBuffer?
  refine wpAny_bind (wpAny_attempt ?_)
  have LL := L4 ((0 : Int) == Bytes.fullReadOnly)
  repeat lk
  exact q
theorem W_forInL {γ σ : Type} {f : γ → σ → Sem (ForInStep σ)} {Q : σ → Heap → Prop} (I : List γ → σ → Prop) (step : ∀ x rest s, I (x :: rest) s → W prog w A (f x s) h fun r h' => h' = h ∧ ∃ s', r = .yield s' ∧ I rest s') (fin : ∀ s, I [] s → Q s h)
    (l : List γ) (s : σ) (hI : I l s) : W prog w A (forIn l s f) h Q := by
  induction l generalizing s with
  | nil => rw [List.forIn_nil]; exact W.pure (fin s hI)
  | cons x rest ih =>
    rw [List.forIn_cons]
    refine W.bind ((step x rest s hI).mono fun r h' ⟨e, s', er, hI'⟩ => ?_)
    subst e
    subst er
    exact ih s' hI'
theorem W_letGo {l k : List Value} {Q : Unit → Heap → Prop} (q : Q () h) : W prog w A (letGo l k) h Q := W.any fun g d tk os QQ EE kk => wpAny_letGo (kk _ _ _ q)
theorem W_joinLetGo {tk : List (Value × Option Value)} {k : List Value} {Q : Unit → Heap → Prop} (hn : ∀ p ∈ tk, p.2 = none) (q : Q () h) : W prog w A (Bytes.joinLetGo tk k) h Q := by
  induction tk with
  | nil => exact W.pure q
  | cons p rest ih =>
    obtain ⟨x, w'⟩ := p
    have : w' = none := hn (x, w') (.head _)
    subst this
    unfold Bytes.joinLetGo
    exact W.bind (W_letGo (ih fun p m => hn p (.tail _ m)))
noncomputable abbrev bvals (pts : List (List UInt8 × Tok)) : List Value := pts.map fun p => .bytes p.1.toArray p.2
noncomputable def joinL (sep : List UInt8) : List (List UInt8) → List UInt8
  | [] => []
  | p :: r => p ++ (r.map (sep ++ ·)).flatten
theorem joined_from (sep : List UInt8) : ∀ (r : List (List UInt8)) (k : Nat) (acc : List UInt8),
    ((r.map (·.toArray)).zipIdx (k + 1)).foldl (fun out (x : Array UInt8 × Nat) => (if x.2 > 0 then out ++ sep.toArray else out) ++ x.1) acc.toArray = (acc ++ (r.map (sep ++ ·)).flatten).toArray := by
  intro r
  induction r with
  | nil => intro k acc; simp
  | cons p r ih =>
    intro k acc
    rw [List.map_cons, List.zipIdx_cons, List.foldl_cons]
    have e : ((if (p.toArray, k + 1).2 > 0 then acc.toArray ++ sep.toArray else acc.toArray) ++ (p.toArray, k + 1).1) = (acc ++ sep ++ p).toArray := by simp
    rw [e, ih]
    simp
theorem joined_eq (sep : List UInt8) (ps : List (List UInt8)) : Bytes.joined sep.toArray (ps.map (·.toArray)) = (joinL sep ps).toArray := by
  cases ps with
  | nil => rfl
  | cons p r =>
    unfold Bytes.joined joinL
    rw [List.map_cons, List.zipIdx_cons, List.foldl_cons]
    have e : ((if (0 : Nat) > 0 then (#[] : Array UInt8) ++ sep.toArray else #[]) ++ p.toArray) = p.toArray := by simp
    show List.foldl _ ((if (0 : Nat) > 0 then (#[] : Array UInt8) ++ sep.toArray else #[]) ++ p.toArray) _ = _
    rw [e]
    exact joined_from sep r 0 p
theorem joinL_len {sep : List UInt8} {ps : List (List UInt8)} {m : Nat} (hs : sep.length ≤ m) (hp : ∀ p ∈ ps, p.length ≤ m) : (joinL sep ps).length ≤ 2 * m * ps.length := by
  have gen : ∀ r : List (List UInt8), (∀ p ∈ r, p.length ≤ m) → ((r.map (sep ++ ·)).flatten).length ≤ 2 * m * r.length := by
    intro r
    induction r with
    | nil => intro _; exact Nat.zero_le _
    | cons p r ih =>
      intro h
      have h1 := ih fun q hq => h q (.tail _ hq)
      have h2 := h p (.head _)
      rw [List.map_cons, List.flatten_cons, List.length_append, List.length_append, List.length_cons, Nat.mul_succ]
      omega
  cases ps with
  | nil => exact Nat.zero_le _
  | cons p r =>
    have h1 := gen r fun q hq => hp q (.tail _ hq)
    have h2 := hp p (.head _)
    unfold joinL
    rw [List.length_append, List.length_cons, Nat.mul_succ]
    omega
theorem sum_le {ps : List (List UInt8)} {m : Nat} : ∀ (a : Nat), (∀ p ∈ ps, p.length ≤ m) → (ps.map (·.toArray)).foldl (fun (x1 : Nat) (x2 : Array UInt8) => x1 + x2.size) a ≤ a + m * ps.length := by
  induction ps with
  | nil => intro a _; exact Nat.le_refl _
  | cons p r ih =>
    intro a h
    have h2 := h p (.head _)
    have h1 := ih (a + p.length) fun q hq => h q (.tail _ hq)
    rw [List.map_cons, List.foldl_cons, List.length_cons, Nat.mul_succ]
    simp only [List.size_toArray]
    omega
theorem match_two {β : Type} {arr : Array Value} {f : Value → β} {g : β} : arr.size ≠ 1 → (match arr with | #[x] => f x | _ => g) = g := by
  intro n
  obtain ⟨l⟩ := arr
  rcases l with _ | ⟨x, _ | ⟨y, r⟩⟩
  · rfl
  · exact absurd rfl n
  · rfl
theorem B_join {sep : List UInt8} {t : Tok} {a : Addr} {pts : List (List UInt8 × Tok)} {Q : Value → Heap → Prop} (x : IsL h a (bvals pts)) (h2 : 2 ≤ pts.length) (h20 : pts.length ≤ 20)
    (hs : sep.length ≤ 100) (hp : ∀ p ∈ pts, p.1.length ≤ 100) (q : ∀ t, Q (.bytes (joinL sep (pts.map (·.1))).toArray t) h) : W prog w A (call (.builtin "bytes.join") [.bytes sep.toArray t, .ref a] []) h Q := by
  refine W_bi FA.slot_join TI.bytes (by decide +kernel) FA.entry_join (FA.args_join _ _) ?_
  unfold Builtin.«bytes.join» Bytes.joinM
  have L1 : Looks (model prog w) h (typeOf (.ref a)) (.type "list") := Lk_typeOf x.ti
  have L2 : Looks (model prog w) h (seqItems? (.ref a)) (some (bvals pts).toArray) := by
    obtain ⟨n, e⟩ := x
    exact fun A Q E s k q => wpAny_seqItems (k _ _ e) rfl q
  refine W.bind (W.of_eq (t' := Pure.pure (Value.bytes sep.toArray t, Value.ref a)) rfl (W.pure ?_))
  dsimp only
  refine W.ite_yes rfl ?_
  refine W.bind ?_
  unfold Bytes.joinItems
  refine W.bind (W.looks L1 (W.ite_yes rfl (W.pure ?_)))
  refine W.bind (W.looks L2 ?_)
  dsimp only
  refine W.ite_yes rfl ?_
  have hsz : (bvals pts).toArray.size = pts.length := by simp [bvals]
  refine W.of_eq (match_two (by rw [hsz]; omega)) ?_
  rw [Std.Legacy.Range.forIn_eq_forIn_range']
  have hsz2 : ([:(bvals pts).toArray.size] : Std.Legacy.Range).size = pts.length := by simp [Std.Legacy.Range.size, bvals]
  rw [hsz2]
  refine W.bind (W_forInL (fun l s => ∃ i, i ≤ pts.length ∧ l = List.range' i (pts.length - i) 1 ∧ s = ((((pts.take i).map (·.1.toArray)).toArray : Array (Array UInt8)), (pts.take i).map fun p => (Value.bytes p.1.toArray p.2, (none : Option Value)))) ?_ ?_ _ _ ⟨0, Nat.zero_le _, by rw [Nat.sub_zero], rfl⟩)
  · rintro i' rest s ⟨i, hi, el, rfl⟩
    have hlt : i < pts.length := by
      rcases Nat.lt_or_ge i pts.length with h' | h'
      · exact h'
      · rw [show pts.length - i = 0 by omega] at el; simp at el
    obtain ⟨n, hn⟩ : ∃ n, pts.length - i = n + 1 := ⟨pts.length - i - 1, by omega⟩
    rw [hn, List.range'_succ] at el
    obtain ⟨rfl, rfl⟩ := List.cons.inj el
    refine W.bind (W.looks L2 ?_)
    dsimp only
    have hx : (bvals pts).toArray.getD i' .none = .bytes pts[i'].1.toArray pts[i'].2 := by simp [bvals, hlt]
    have hheap : (((pts.take i').map fun p => (Value.bytes p.1.toArray p.2, (none : Option Value))).any fun x => x.fst.onHeap) = false := by
      rw [List.any_eq_false]
      intro p hp
      obtain ⟨q', _, rfl⟩ := List.mem_map.mp hp
      exact Bool.false_ne_true
    rw [hx]
    refine W.ite_no (by rw [hheap]; decide) ?_
    refine W.bind (W.holding (W.looks Lk_take ?_))
    dsimp only
    refine W.bind (W.looks L2 ?_)
    dsimp only
    refine W.ite_no (by simp) (W.pure ⟨rfl, _, rfl, i' + 1, hlt, by congr 1; omega, ?_⟩)
    rw [List.take_succ_eq_append_getElem hlt]
    simp only [List.map_append, List.map_cons, List.map_nil, List.push_toArray]
  · rintro s ⟨i, hi, el, rfl⟩
    have : i = pts.length := by
      rcases Nat.lt_or_ge i pts.length with h' | h'
      · obtain ⟨n, hn⟩ : ∃ n, pts.length - i = n + 1 := ⟨pts.length - i - 1, by omega⟩
        rw [hn, List.range'_succ] at el; cases el
      · omega
    subst this
    rw [List.take_length]
    dsimp only
    have Lp : Looks (model prog w) h (Bytes.payload (.bytes sep.toArray t)) sep.toArray := .now
    refine W.bind (W.looks Lp ?_)
    have hmm : pts.map (fun p => p.1.toArray) = (pts.map (·.1)).map (·.toArray) := by rw [List.map_map]; rfl
    have hp' : ∀ p ∈ pts.map (·.1), p.length ≤ 100 := fun p hm => by
      obtain ⟨x, hx, rfl⟩ := List.mem_map.mp hm
      exact hp x hx
    have hlen : (pts.map (·.1)).length = pts.length := List.length_map ..
    rw [hmm]
    have hs1 : sep.length * (pts.length - 1) ≤ 100 * 20 := Nat.mul_le_mul hs (by omega)
    refine W.ite_no ?_ ?_
    · simp only [Bytes.tooLong, decide_eq_true_eq, List.size_toArray, List.length_map, List.foldl_toArray']
      have := sum_le (ps := pts.map (·.1)) (m := 100) (sep.length * (pts.length - 1)) hp'
      rw [hlen] at this
      rw [sizeLine_eq]
      have h3 : 100 * pts.length ≤ 100 * 20 := Nat.mul_le_mul_left _ h20
      omega
    have hj := joinL_len (sep := sep) (ps := pts.map (·.1)) (m := 100) hs hp'
    rw [hlen] at hj
    have h4 : 2 * 100 * pts.length ≤ 2 * 100 * 20 := Nat.mul_le_mul_left _ h20
    refine W.bind (m := mkBytes _) (W.any fun g d tk os QQ EE k => wpAny_mkBytes (k _ _ _ ?_) (by rw [joined_eq, List.size_toArray, sizeLine_eq]; omega))
    refine W.bind (W.holding (W.point (W.bind (W_joinLetGo (fun p hm => by obtain ⟨q', _, rfl⟩ := List.mem_map.mp hm; rfl) (W.pure ⟨_, rfl, ?_⟩)))))
    rw [joined_eq]
    exact q _
end
theorem tokN_drop {toks : List (Int × TV)} {a : Nat} : tokN toks a = (toks.drop a).headD (287, .none) := by
  unfold tokN
  rw [List.getD_eq_getElem?_getD, List.headD_eq_head?_getD, List.head?_drop]
structure RowR (prog : Program) (w : World) (hT : Heap) (toks : List (Int × TV)) (h : Heap) (r dr pl : Addr) (i off a : Nat) (cur : Value) (vs : List Value) (tk : List (Int × TV)) : Prop where
  R : RowAt h r dr pl i cur
  xl : IsL h pl vs
  D : DataAt h vs tk
  eq : ∀ n, tokN tk n = tokN toks (off + n)
  ia : off + i = a
  T : TokV h cur (tokN toks a).1 (tokN toks a).2
  top : hT.get? dr = none
  z : i ≤ 1000
structure LexR (prog : Program) (w : World) (hT : Heap) (toks : List (Int × TV)) (h : Heap) (X : LX) (bl : Addr) (bs : List UInt8) (pos : Nat) (j : LJ) (cur ahead : Value) (a : Nat) : Prop where
  c : LexC prog w hT h X bl bs (lexAl X pos (sgn X.T pos) j bl cur ahead)
  jk : j.ok pos
  hb : bs.length ≤ 100
  hp : pos ≤ X.T.length
  T : TokV h cur (tokN toks a).1 (tokN toks a).2
  st : (ahead = .none ∧ (∃ l, Lexes X.T pos l ∧ toksOf l = toks.drop (a + 1)) ∧ (toks.length ≤ a → pos = X.T.length)) ∨
    (∃ b, ahead = .ref b ∧ TokAt h b (tokN toks (a + 1)).1 (tokN toks (a + 1)).2 ∧ (∃ l, Lexes X.T pos l ∧ toksOf l = toks.drop (a + 2)) ∧ (toks.length ≤ a + 1 → pos = X.T.length))
inductive Reader (prog : Program) (w : World) (hT : Heap) (oz : Value → Nat ⊕ List UInt8) (toks : List (Int × TV)) (h : Heap) : Value → Nat → List Addr → List Addr → Prop
  | row (r dr pl : Addr) (i off a : Nat) (cur : Value) (vs : List Value) (tk : List (Int × TV)) (x : RowR prog w hT toks h r dr pl i off a cur vs tk) (ho : oz (.ref r) = .inl off) : Reader prog w hT oz toks h (.ref r) a [r, dr, pl] [dr]
  | lex (X : LX) (bl : Addr) (bs : List UInt8) (pos : Nat) (j : LJ) (cur ahead : Value) (a : Nat) (x : LexR prog w hT toks h X bl bs pos j cur ahead a) (ho : oz (.ref X.l) = .inr X.T) : Reader prog w hT oz toks h (.ref X.l) a [X.l, X.dl, X.lim, X.dlim, X.kd, bl] [X.dl, bl]
section
variable {A : Around} {hE h h' : Heap} {oz : Value → Nat ⊕ List UInt8} {toks : List (Int × TV)} {v : Value} {a : Nat} {D M F : List Addr}
theorem notin_of {F : List Addr} {x : Addr} {D : List Addr} (m : x ∈ D) (n : ∀ y ∈ F, y ∉ D) : x ∉ F := fun q => n x q m
theorem Reader.keeps (R : Reader prog w hT oz toks h v a D M) (K : Keeps h h' F) (n : ∀ x ∈ F, NTok h x ∧ NTup h x ∧ x ∉ D) : Reader prog w hT oz toks h' v a D M := by
  have n1 : ∀ x ∈ F, NTok h x := fun x m => (n x m).1
  have n2 : ∀ x ∈ F, NTok h x ∧ NTup h x := fun x m => ⟨(n x m).1, (n x m).2.1⟩
  have n3 : ∀ x ∈ F, x ∉ D := fun x m => (n x m).2.2
  cases R with
  | row r dr pl i off a cur vs tk x ho =>
    obtain ⟨j, I, jk⟩ := x.R
    exact .row r dr pl i off _ cur vs tk ⟨⟨j, I.keeps K (notin_of (by simp) n3) (notin_of (by simp) n3), jk⟩, x.xl.keeps K (notin_of (by simp) n3), x.D.keeps K n2, x.eq, x.ia, x.T.keeps K n1, x.top, x.z⟩ ho
  | lex X bl bs pos j cur ahead a x ho =>
    refine .lex X bl bs pos j cur ahead _ ⟨x.c.keeps K ⟨notin_of (by simp) n3, notin_of (by simp) n3, notin_of (by simp) n3, notin_of (by simp) n3, notin_of (by simp) n3, notin_of (by simp) n3⟩, x.jk, x.hb, x.hp, x.T.keeps K n1, ?_⟩ ho
    rcases x.st with q | ⟨b, e, t, q⟩
    · exact .inl q
    · exact .inr ⟨b, e, t.keeps K n1, q⟩
theorem Reader.has (R : Reader prog w hT oz toks h v a D M) : ∀ x ∈ D, ∃ o, h.get? x = some o := by
  cases R with
  | row r dr pl i off a cur vs tk x ho =>
    obtain ⟨j, I, jk⟩ := x.R
    intro y m
    simp only [List.mem_cons, List.not_mem_nil, or_false] at m
    rcases m with rfl | rfl | rfl
    · exact I.some.1
    · exact I.some.2
    · exact x.xl.some
  | lex X bl bs pos j cur ahead a x ho =>
    obtain ⟨a1, a2, a3, a4, a5, a6⟩ := x.c.has
    intro y m
    simp only [List.mem_cons, List.not_mem_nil, or_false] at m
    rcases m with rfl | rfl | rfl | rfl | rfl | rfl <;> assumption
theorem Reader.sub (R : Reader prog w hT oz toks h v a D M) : ∀ x ∈ M, x ∈ D := by
  cases R <;> intro y m <;> simp only [List.mem_cons, List.not_mem_nil, or_false] at m ⊢
  · exact .inr (.inl m)
  · rcases m with rfl | rfl
    · exact .inr (.inl rfl)
    · exact .inr (.inr (.inr (.inr (.inr rfl))))
theorem Reader.top (R : Reader prog w hT oz toks h v a D M) : ∀ x ∈ M, hT.get? x = none := by
  cases R with
  | row r dr pl i off a cur vs tk x ho => intro y m; rw [List.mem_singleton] at m; subst m; exact x.top
  | lex X bl bs pos j cur ahead a x ho =>
    intro y m
    simp only [List.mem_cons, List.not_mem_nil, or_false] at m
    rcases m with rfl | rfl
    · exact x.c.t1
    · exact x.c.t2
theorem Reader.al (R : Reader prog w hT oz toks h v a D M) : ∀ x ∈ M, NTok h x ∧ NTup h x ∧ ∀ vs, ¬ IsL h x vs := by
  cases R with
  | row r dr pl i off a cur vs tk x ho =>
    obtain ⟨j, I, jk⟩ := x.R
    intro y m
    rw [List.mem_singleton] at m
    subst m
    refine ⟨NTok.ad I.ad rfl, NTup.ad I.ad, fun vs ⟨n, e⟩ => ?_⟩
    obtain ⟨es, ep, q, _⟩ := I.ad
    have := q.symm.trans e
    simp [dictO] at this
  | lex X bl bs pos j cur ahead a x ho =>
    intro y m
    have hn := x.c.ntok rfl y (by simpa using m)
    refine ⟨hn, ?_, fun vs xl => xl.sepX x.c (by simpa using m)⟩
    simp only [List.mem_cons, List.not_mem_nil, or_false] at m
    rcases m with rfl | rfl
    · exact NTup.ad x.c.i.ad
    · exact NTup.buf x.c.b
theorem Reader.current (R : Reader prog w hT oz toks h v a D M) (G : GG w hT) (up : Grown hT h) {Q : Value → Heap → Prop} (q : ∀ c, TokV h c (tokN toks a).1 (tokN toks a).2 → Q c h) : W prog w A (getAttr v (Str.ofString "current") true) h Q := by
  cases R with
  | row r dr pl i off a cur vs tk x ho =>
    obtain ⟨j, I, jk⟩ := x.R
    obtain ⟨c, rfl, _⟩ := id x.T
    exact W_get (G.X.keeps up) I (ok_TokenRow _) (a_TokenRow_current _) rfl rfl (q _ x.T)
  | lex X bl bs pos j cur ahead a x ho =>
    obtain ⟨c, rfl, _⟩ := id x.T
    exact W_get (G.X.keeps up) x.c.i (ok_Lexer _) (a_Lexer_current _) rfl rfl (q _ x.T)
noncomputable def ROut (prog : Program) (w : World) (hT : Heap) (oz : Value → Nat ⊕ List UInt8) (toks : List (Int × TV)) (h : Heap) (v : Value) (b a : Nat) (D M : List Addr) (r : Value) (h' : Heap) : Prop :=
  TokV h' r (tokN toks b).1 (tokN toks b).2 ∧ ∃ D' M', Reader prog w hT oz toks h' v a D' M' ∧ Keeps h h' M ∧ (∀ x ∈ D', x ∈ D ∨ h.get? x = none) ∧ (∀ x ∈ M', x ∈ M ∨ h.get? x = none)
theorem lex_out {X : LX} {bl bl' : Addr} (nb : bl' = bl ∨ h.get? bl' = none) : (∀ x ∈ [X.l, X.dl, X.lim, X.dlim, X.kd, bl'], x ∈ [X.l, X.dl, X.lim, X.dlim, X.kd, bl] ∨ h.get? x = none) ∧ (∀ x ∈ [X.dl, bl'], x ∈ [X.dl, bl] ∨ h.get? x = none) := by
  constructor
  · intro x m
    simp only [List.mem_cons, List.not_mem_nil, or_false] at m ⊢
    rcases m with h1 | h1 | h1 | h1 | h1 | h1
    · exact .inl (.inl h1)
    · exact .inl (.inr (.inl h1))
    · exact .inl (.inr (.inr (.inl h1)))
    · exact .inl (.inr (.inr (.inr (.inl h1))))
    · exact .inl (.inr (.inr (.inr (.inr (.inl h1)))))
    · subst h1
      rcases nb with rfl | e
      · exact .inl (.inr (.inr (.inr (.inr (.inr rfl)))))
      · exact .inr e
  · intro x m
    simp only [List.mem_cons, List.not_mem_nil, or_false] at m ⊢
    rcases m with h1 | h1
    · exact .inl (.inl h1)
    · subst h1
      rcases nb with rfl | e
      · exact .inl (.inr rfl)
      · exact .inr e
theorem Tk.bound {T : List UInt8} {p p' : Nat} {k : Int} {tv : TV} (t : Tk T p k tv p') (hk : k ≠ 287) : p' ≤ T.length := by
  cases t with
  | eos hd => exact absurd rfl hk
  | _ =>
    rename_i hd
    have := congrArg List.length (by assumption : T.drop p = _)
    simp only [List.length_drop, List.length_cons] at this
    omega
theorem toksOf_first {T : List UInt8} {p a : Nat} {l : List (Int × TV × Nat)} (x : Lexes T p l) (e : toksOf l = toks.drop a) : ∃ n q k tv p', Skips T p n q ∧ Tk T q k tv p' ∧ tokN toks a = (k, tv) ∧ (∃ l', Lexes T p' l' ∧ toksOf l' = toks.drop (a + 1)) ∧ (toks.length ≤ a → p' = T.length) ∧ p' ≤ T.length := by
  obtain ⟨n, q, k, tv, p', s, t, st⟩ := x.first
  refine ⟨n, q, k, tv, p', s, t, ?_⟩
  rcases st with ⟨rfl, rfl, rfl, rfl⟩ | ⟨hk, l', b, rfl⟩
  · have e' : toks.drop a = [] := e.symm
    refine ⟨by rw [tokN_drop, e']; rfl, ⟨[], .eos _ 0 (.zero _), ?_⟩, fun _ => rfl, Nat.le_refl _⟩
    rw [← List.drop_drop, e']; rfl
  · have e' : toks.drop a = (k, tv) :: toksOf l' := e.symm
    refine ⟨by rw [tokN_drop, e']; rfl, ⟨l', b, ?_⟩, fun h => ?_, t.bound hk⟩
    · rw [← List.drop_drop, e']; rfl
    · rw [List.drop_eq_nil_of_le h] at e'; cases e'
end
section
variable {A : Around} {hE h h' : Heap} {oz : Value → Nat ⊕ List UInt8} {toks : List (Int × TV)} {v : Value} {a : Nat} {D M F : List Addr}
theorem Reader.next (R : Reader prog w hT oz toks h v a D M) (G : GG w hT) (up : Grown hT h) (room : Room A 8) (ha : a ≤ 900) : ∃ f, KeepOK (KK w.params) (.ref f) ∧ (∀ (A : Around) (pl : Sem Bool) (Q : Value × List Value → Heap → Prop), Q (.ref f, [v]) h → W prog w A (getMethod v (Str.ofString "next") pl) h Q) ∧
    W prog w A (call (.ref f) [v] []) h fun r h' => ROut prog w hT oz toks h v (a + 1) (a + 1) D M r h' := by
  cases R with
  | row r dr pl i off a cur vs tk x ho =>
    obtain ⟨j, I, jk⟩ := x.R
    refine ⟨497, kk_row_next _, fun A pl Q q => W_getm (G.X.keeps up) I (ok_TokenRow _) (m_row_next _).1 (m_row_next _).2 rfl q, ?_⟩
    have npl : pl ≠ dr := by
      rintro rfl
      obtain ⟨n, e⟩ := x.xl
      obtain ⟨es, ep, q, _⟩ := I.ad
      have := q.symm.trans e
      simp [dictO] at this
    have hia := x.ia
    refine (row_next_ (n := i + 1) G up (room.le (by decide)) rfl (by omega) I jk x.xl x.D x.top npl).mono ?_
    rintro r2 h2 ⟨⟨t2, R2⟩, k⟩
    have e1 := x.eq (i + 1)
    rw [show off + (i + 1) = a + 1 by omega] at e1
    rw [e1] at t2
    have N1 : ∀ x ∈ [dr], NTok h x ∧ NTup h x := (all1 ⟨NTok.ad I.ad rfl, NTup.ad I.ad⟩)
    exact ⟨t2, _, _, .row r dr pl (i + 1) off _ r2 vs tk ⟨R2, x.xl.keeps k (notIn1 npl), x.D.keeps k N1, x.eq, by omega, t2, x.top, by omega⟩ ho, k, fun y m => .inl m, fun y m => .inl m⟩
  | lex X bl bs pos j cur ahead a x ho =>
    refine ⟨287, kk_next _, fun A pl Q q => W_getm (G.X.keeps up) x.c.i (ok_Lexer _) (m_next _).1 (m_next _).2 rfl q, ?_⟩
    rcases x.st with ⟨rfl, ⟨l, lx, el⟩, fin⟩ | ⟨b, rfl, tb, ⟨l, lx, el⟩, fin⟩
    · obtain ⟨n, q, k, tv, p', sk, tk, e1, ⟨l', lx', el'⟩, fin', hle⟩ := toksOf_first lx el
      refine (lex_next_n G up room sk tk x.c x.jk).mono ?_
      rintro r h2 ⟨t2, bs2, hb2, j2, bl2, lc, jk2, kk, nb⟩
      have t2' : TokV h2 r (tokN toks (a + 1)).1 (tokN toks (a + 1)).2 := by rw [e1]; exact t2
      obtain ⟨o1, o2⟩ := lex_out (h := h) (X := X) nb
      exact ⟨t2', _, _, .lex X bl2 bs2 p' j2 r .none _ ⟨lc, jk2, hb2, hle, t2', .inl ⟨rfl, ⟨l', lx', el'⟩, fun hh => fin' hh⟩⟩ ho, kk, o1, o2⟩
    · refine (lex_next_a G up room x.hb tb x.c x.jk).mono ?_
      rintro r h2 ⟨rfl, j2, bl2, lc, jk2, kk, nb⟩
      have tb' : TokV h2 (.ref b) (tokN toks (a + 1)).1 (tokN toks (a + 1)).2 := ⟨b, rfl, tb.keeps kk (x.c.ntok rfl)⟩
      obtain ⟨o1, o2⟩ := lex_out (h := h) (X := X) nb
      exact ⟨tb', _, _, .lex X bl2 bs pos j2 (.ref b) .none _ ⟨lc, jk2, x.hb, x.hp, tb', .inl ⟨rfl, ⟨l, lx, el⟩, fin⟩⟩ ho, kk, o1, o2⟩
theorem Reader.look (R : Reader prog w hT oz toks h v a D M) (G : GG w hT) (up : Grown hT h) (room : Room A 8) (ha : a ≤ 900) : ∃ f, KeepOK (KK w.params) (.ref f) ∧ (∀ (A : Around) (pl : Sem Bool) (Q : Value × List Value → Heap → Prop), Q (.ref f, [v]) h → W prog w A (getMethod v (Str.ofString "lookahead") pl) h Q) ∧
    W prog w A (call (.ref f) [v] []) h fun r h' => ROut prog w hT oz toks h v (a + 1) a D M r h' := by
  have R0 := R
  cases R with
  | row r dr pl i off a cur vs tk x ho =>
    obtain ⟨j, I, jk⟩ := x.R
    refine ⟨504, kk_row_lookahead _, fun A pl Q q => W_getm (G.X.keeps up) I (ok_TokenRow _) (m_row_lookahead _).1 (m_row_lookahead _).2 rfl q, ?_⟩
    have hia := x.ia
    refine (row_look_ (n := i + 1) G up (room.le (by decide)) rfl I x.xl x.D).mono ?_
    rintro r2 h2 ⟨t2, k⟩
    have e1 := x.eq (i + 1)
    rw [show off + (i + 1) = a + 1 by omega] at e1
    rw [e1] at t2
    exact ⟨t2, _, _, R0.keeps k (fun x m => nomatch m), k.nil, fun y m => .inl m, fun y m => .inl m⟩
  | lex X bl bs pos j cur ahead a x ho =>
    refine ⟨294, kk_lookahead _, fun A pl Q q => W_getm (G.X.keeps up) x.c.i (ok_Lexer _) (m_lookahead _).1 (m_lookahead _).2 rfl q, ?_⟩
    rcases x.st with ⟨rfl, ⟨l, lx, el⟩, fin⟩ | ⟨b, rfl, tb, ⟨l, lx, el⟩, fin⟩
    · obtain ⟨n, q, k, tv, p', sk, tk, e1, ⟨l', lx', el'⟩, fin', hle⟩ := toksOf_first lx el
      refine (lex_look_n G up room sk tk x.c x.jk).mono ?_
      rintro r h2 ⟨t2, bs2, hb2, j2, bl2, lc, jk2, kk, nb⟩
      have t2' : TokV h2 r (tokN toks (a + 1)).1 (tokN toks (a + 1)).2 := by rw [e1]; exact t2
      obtain ⟨o1, o2⟩ := lex_out (h := h) (X := X) nb
      obtain ⟨b, rfl, tb⟩ := id t2'
      exact ⟨t2', _, _, .lex X bl2 bs2 p' j2 cur (.ref b) _ ⟨lc, jk2, hb2, hle, x.T.keeps kk (x.c.ntok rfl), .inr ⟨b, rfl, tb, ⟨l', lx', el'⟩, fun hh => fin' hh⟩⟩ ho, kk, o1, o2⟩
    · refine (lex_look_a G up room x.hb x.c x.jk).mono ?_
      rintro r h2 ⟨rfl, j2, bl2, lc, jk2, kk, nb⟩
      have tb' : TokAt h2 b (tokN toks (a + 1)).1 (tokN toks (a + 1)).2 := tb.keeps kk (x.c.ntok rfl)
      obtain ⟨o1, o2⟩ := lex_out (h := h) (X := X) nb
      exact ⟨⟨b, rfl, tb'⟩, _, _, .lex X bl2 bs pos j2 cur (.ref b) _ ⟨lc, jk2, x.hb, x.hp, x.T.keeps kk (x.c.ntok rfl), .inr ⟨b, rfl, tb', ⟨l, lx, el⟩, fin⟩⟩ ho, kk, o1, o2⟩
theorem Reader.refused (R : Reader prog w hT oz toks h v a D M) (G : GG w hT) (up : Grown hT h) (room : Room A 7) (ok : OkKind (tokN toks a).1) {outer : List Env} (hA : A.frames = some outer) (ff : h.FunFrames hT outer) :
    W prog w A (call (.ref 553) [v] []) h fun r h' => r = .bool true ∧ KeepsS h h' (frs outer) [] := by
  cases R with
  | row r dr pl i off a cur vs tk x ho =>
    obtain ⟨j, I, jk⟩ := x.R
    exact law_refused_row G up room ok x.T I jk hA ff
  | lex X bl bs pos j cur ahead a x ho =>
    exact law_refused_lex G up room ok x.hb (by have := x.hp; have := x.c.tz; omega) x.T x.c x.jk hA ff
end
noncomputable abbrev compEnv (scope : Scope) (names : List (Str × NameKind)) (env : Env) (Lc : Addr) (cl : List (Str × Addr)) : Env :=
  { scope := { scope with names := names }, locals := Lc, globals := env.globals, cells := cl, qual := env.qual, func := none, code := env.code, frame := env.frame, builtins := env.builtins }
section
variable {A : Around} {env : Env} {h : Heap}
theorem CW_compturn {elt target iter : PySem.Expr} {scope : Scope} {pos : Pos} {it acc : Value} {Q : Flow → Heap → Prop}
    (H : W prog w A (pyNext it) h fun r h1 => match r with
      | none => Q .next h1
      | some v => W prog w A (letOwnedTupleGo target it v) h1 fun _ h2 => W prog w A (assign target env v) h2 fun _ h3 => W prog w A (eval elt env) h3 fun x h4 => W prog w A (call (.builtin "list.append") [acc, x] []) h4 fun _ h5 =>
          CW prog w A (.compLoop (.ListComp elt [⟨target, iter, [], 0⟩] scope pos) 0 it acc env) h5 Q) :
    CW prog w A (.compLoop (.ListComp elt [⟨target, iter, [], 0⟩] scope pos) 0 it acc env) h Q := by
  refine CW.tree rfl ?_
  show W _ _ A ((compTurn (.ListComp elt [⟨target, iter, [], 0⟩] scope pos) 0 it acc env).onRaise (fun x => do noteFrame x env; theTreesLotGoes x)) _ _
  refine W.onRaise ?_
  rw [compTurn_list1]
  refine W.bind (W.standAt (W.bind (H.mono fun r h1 H1 => ?_)))
  cases r with
  | none => exact W.pure H1
  | some v => exact W.bind (H1.mono fun _ h2 H2 => W.bind (H2.mono fun _ h3 H3 => W.bind (W.bind (H3.mono fun x h4 H4 => W.bind (H4.mono fun _ h5 H5 => W.pure (W.pure ⟨rfl, H5⟩))))))
theorem CW_compstart {elt target iter : PySem.Expr} {scope : Scope} {pos : Pos} {it acc : Value} {Q : Flow → Heap → Prop} (hit : W prog w A (pyIter it) h fun v h1 => v = it ∧ h1 = h)
    (H : CW prog w A (.compLoop (.ListComp elt [⟨target, iter, [], 0⟩] scope pos) 0 it acc env) h Q) : CW prog w A (.compStart (.ListComp elt [⟨target, iter, [], 0⟩] scope pos) 0 it acc env) h Q := by
  refine CW.tree rfl ?_
  show W _ _ A ((compStart (.ListComp elt [⟨target, iter, [], 0⟩] scope pos) 0 it acc env).onRaise (fun x => do noteFrame x env; standAt theWindowsPlace)) _ _
  refine W.onRaise ?_
  unfold compStart
  show W prog w A (ask >>= _) h _
  refine W.bind (W.any fun g d tk os QQ EE k => wpAny_askSetting (k _ _ _ ?_))
  split
  · exact W.pure ⟨rfl, H⟩
  · refine W.bind (W.any fun _ _ tk _ _ _ k => wpAny_rule (k () h tk ?_))
    show W prog w A (standAt iter.pos >>= _) h _
    refine W.bind (W.standAt (W.bind (hit.mono fun v h1 ⟨e1, e2⟩ => ?_)))
    subst e1
    subst e2
    exact W.pure ⟨rfl, H⟩
theorem W_letGoC {cenv : Env} {cellsOf : List (Str × NameKind) → List Value} {m : Str → Option Value} (hkind : cenv.scope.kind = .function) {vs : List (Str × NameKind)} {Q : Unit → Heap → Prop} (hv : ∀ x ∈ vs, x.2 = .local → cenv.kindOf x.1 = some .local) (hn : h.Ns cenv.locals m)
    (q : ∀ h', Keeps h h' [cenv.locals] → Q () h') : W prog w A (comprehension.letGo cenv cellsOf vs) h Q :=
  W.any fun g d tk os QQ EE k => wpAny_comp_letGo hkind vs ⟨h, g, d, tk, os⟩ m hv hn fun h' m' _ hs => k _ _ _ (q h' (Keeps.sameBut hs))
theorem W_listcomp {elt target iter : PySem.Expr} {scope : Scope} {pos : Pos} {Q : Value → Heap → Prop} {cl : List (Str × Addr)} {names : List (Str × NameKind)} (hcl : closureFor scope env = Pure.pure cl) (hnc : ∀ x ∈ scope.names, x.2 ≠ .cell)
    (hnm : (scope.names.map fun x => if (x.2 == .free && env.scope.kind == .function && env.kindOf x.1 == some .cell) = true then (x.1, NameKind.cell) else (x.1, x.2)) = names)
    (hkind : scope.kind = .function) (hnames : ∀ x ∈ scope.names, x.2 = .local → names.lookup x.1 = some .local) (hfree : ∀ x ∈ names, x.2 ≠ .free)
    (H : W prog w A (eval iter env) h fun xv h1 => W prog w A (pyIter xv) h1 fun it h2 => ∀ acc Lc h3, h2.get? acc = none → h2.get? Lc = none → acc ≠ Lc → Keeps h2 h3 [] → IsL h3 acc [] → h3.Ns Lc (fun _ => none) →
      W prog w A (pyIter it) h3 (fun v h' => v = it ∧ h' = h3) ∧
      CW prog w A (.compLoop (.ListComp elt [⟨target, iter, [], 0⟩] scope pos) 0 it (.ref acc) (compEnv scope names env Lc cl)) h3 fun _ h4 => ∃ m, h4.Ns Lc m ∧ ∀ h5, Keeps h4 h5 [Lc] → Q (.ref acc) h5)
    (hs : ∀ x, foldedSetIterable iter env x = Pure.pure x := by intro _; rfl) :
    W prog w A (eval (.ListComp elt [⟨target, iter, [], 0⟩] scope pos) env) h Q := by
  subst hnm
  rw [eval_ListComp]
  unfold comprehension
  rw [hcl]
  refine W.bind (H.mono fun xv h1 H1 => W.bind (W.standAt ?_))
  show W prog w A (foldedSetIterable iter env xv >>= _) h1 _
  rw [hs]
  refine W.bind (W.pure (W.bind (W.holding (H1.mono fun it h2 H2 => ?_))))
  show W prog w A (newList [] >>= _) h2 _
  refine W.bind (L_newL (Nat.zero_le _) fun acc h3 n3 k3 x3 => W.bind (W.pure (W.bind ?_)))
  unfold newFunctionEnv
  refine W.bind (W.any fun g d tk os QQ EE k => wpAny_alloc' (k _ _ _ ?_))
  dsimp only [Option.isSome, if_true]
  rw [forIn_yield_id cl (fun x hx c => by
    obtain ⟨n, kind⟩ := x
    have : (kind == NameKind.cell) = false := by simpa using hnc _ hx
    simp only [this, Bool.false_eq_true, if_false])]
  refine W.bind (W.pure (W.bind (W.pure (W.pure ?_))))
  have nL : h3.get? h3.objs.size = none := size_new
  have kL : Keeps h3 (h3.push { cls := .type "dict", data := .dict #[] }) [] := Keeps.push
  have nsL : (h3.push { cls := .type "dict", data := .dict #[] }).Ns h3.objs.size (fun _ => none) := ⟨_, #[], _, push_new rfl, rfl, fun e he => absurd he (by simp), fun _ => rfl⟩
  have nL2 : h2.get? h3.objs.size = none := by
    cases q : h2.get? h3.objs.size with
    | none => rfl
    | some o => rw [k3 _ _ q List.not_mem_nil] at nL; cases nL
  have ne : acc ≠ h3.objs.size := by
    rintro rfl
    obtain ⟨o, e⟩ := x3.some
    rw [nL] at e; cases e
  obtain ⟨hit, hloop⟩ := H2 acc h3.objs.size _ n3 nL2 ne (k3.trans kL) (x3.keeps kL List.not_mem_nil) nsL
  dsimp only
  refine W.holding (W.bind (W.attempt (WE.ofW (W.holding (W.run (CW_compstart hit (hloop.mono fun f h4 ⟨m, hm, hq⟩ => ?_)))))))
  refine W.bind (W.holding (W_letGoC (m := m) hkind (fun x hx hl => ?_) hm fun h5 k5 => W.pure (hq h5 k5)))
  exact hnames x (List.mem_filter.mp (List.mem_reverse.mp hx)).1 hl
end
structure RD where
  v : Value
  a : Nat
  D : List Addr
  M : List Addr
noncomputable def RD.off (r s : RD) : Prop := (∀ x ∈ r.M, x ∉ s.D) ∧ (∀ x ∈ s.M, x ∉ r.D)
structure RLs (prog : Program) (w : World) (hT : Heap) (oz : Value → Nat ⊕ List UInt8) (toks : List (Int × TV)) (h : Heap) (ρ : List RD) : Prop where
  ok : ∀ r ∈ ρ, Reader prog w hT oz toks h r.v r.a r.D r.M
  pw : ρ.Pairwise RD.off
noncomputable abbrev muts (ρ : List RD) : List Addr := ρ.flatMap (·.M)
theorem RD.off_symm {r s : RD} (x : r.off s) : s.off r := ⟨x.2, x.1⟩
theorem Told.keeps {h h' : Heap} {v : Value} {k : Int} {tv : TV} {F : List Addr} (T : Told h v k tv) (K : Keeps h h' F) (n : ∀ x ∈ F, NTup h x) : Told h' v k tv := let ⟨a, t, v', e, i, hv⟩ := T; ⟨a, t, v', e, i.keep K n, hv⟩
theorem NTok.fields {h : Heap} {x : Addr} {o : Obj} {vs : Array Value} (e : h.get? x = some o) (hd : o.data = .fields vs) : NTok h x ∧ NTup h x := by
  refine ⟨⟨fun d q => ?_, fun k t v D => ?_⟩, fun ws n q => ?_⟩
  · rw [e] at q
    have := Option.some.inj q
    subst this
    cases hd
  · obtain ⟨es, ep, q, _⟩ := D
    rw [e] at q
    have := Option.some.inj q
    subst this
    cases hd
  · rw [e] at q
    have := Option.some.inj q
    subst this
    cases hd
theorem NTok.iter {h : Heap} {it l : Addr} {i : Nat} (x : h.IsListIter it l i) : NTok h it ∧ NTup h it := let ⟨o, e, _, hd⟩ := x; NTok.fields e hd
section
variable {A : Around} {hE h h' : Heap} {oz : Value → Nat ⊕ List UInt8} {toks : List (Int × TV)} {F : List Addr} {ρ dn rest : List RD} {r r' : RD}
theorem RLs.keeps (R : RLs prog w hT oz toks h ρ) (K : Keeps h h' F) (n : ∀ x ∈ F, NTok h x ∧ NTup h x ∧ ∀ r ∈ ρ, x ∉ r.D) : RLs prog w hT oz toks h' ρ :=
  ⟨fun r m => (R.ok r m).keeps K fun x mx => ⟨(n x mx).1, (n x mx).2.1, (n x mx).2.2 r m⟩, R.pw⟩
theorem RLs.al (R : RLs prog w hT oz toks h ρ) : ∀ x ∈ muts ρ, NTok h x ∧ NTup h x ∧ ∀ vs, ¬ IsL h x vs := fun x m => by
  obtain ⟨r, mr, mx⟩ := List.mem_flatMap.mp m
  exact (R.ok r mr).al x mx
theorem RLs.step (R : RLs prog w hT oz toks h (dn ++ r :: rest)) (R' : Reader prog w hT oz toks h' r'.v r'.a r'.D r'.M) (K : Keeps h h' r.M) (d1 : ∀ x ∈ r'.D, x ∈ r.D ∨ h.get? x = none) (d2 : ∀ x ∈ r'.M, x ∈ r.M ∨ h.get? x = none) : RLs prog w hT oz toks h' (dn ++ r' :: rest) := by
  have Rr := R.ok r (by simp)
  have hal := Rr.al
  have pw := R.pw
  rw [List.pairwise_append, List.pairwise_cons] at pw
  obtain ⟨p1, ⟨p2, p3⟩, p4⟩ := pw
  have offr : ∀ s, (s ∈ dn ∨ s ∈ rest) → r.off s := fun s m => by
    rcases m with m | m
    · exact (p4 s m r (.head _)).symm
    · exact p2 s m
  have mem : ∀ s, (s ∈ dn ∨ s ∈ rest) → s ∈ dn ++ r :: rest := fun s m => by
    rcases m with m | m <;> simp [m]
  have offr' : ∀ s, (s ∈ dn ∨ s ∈ rest) → r'.off s := fun s m => by
    have hs := (R.ok s (mem s m)).has
    refine ⟨fun x mx ms => ?_, fun x mx md => ?_⟩
    · rcases d2 x mx with q | q
      · exact (offr s m).1 x q ms
      · obtain ⟨o, e⟩ := hs x ms
        rw [q] at e; cases e
    · rcases d1 x md with q | q
      · exact (offr s m).2 x mx q
      · obtain ⟨o, e⟩ := hs x ((R.ok s (mem s m)).sub x mx)
        rw [q] at e; cases e
  refine ⟨fun s m => ?_, ?_⟩
  · rw [List.mem_append, List.mem_cons] at m
    have keep : (s ∈ dn ∨ s ∈ rest) → Reader prog w hT oz toks h' s.v s.a s.D s.M := fun m => (R.ok s (mem s m)).keeps K fun x mx => ⟨(hal x mx).1, (hal x mx).2.1, (offr s m).1 x mx⟩
    rcases m with m | rfl | m
    · exact keep (.inl m)
    · exact R'
    · exact keep (.inr m)
  · rw [List.pairwise_append, List.pairwise_cons]
    exact ⟨p1, ⟨fun s m => offr' s (.inr m), p3⟩, fun s m t mt => by
      rcases List.mem_cons.mp mt with rfl | mt
      · exact (offr' s (.inl m)).symm
      · exact p4 s m t (.tail _ mt)⟩
theorem W_storeK {env : Env} {fr fr' : Fra} {F : List Addr} {P : Heap → Prop} {x : Str} {v : Value} {Q : Unit → Heap → Prop} (S : St hT hE F env fr P h) (hp : Put x (some v) fr fr') (q : ∀ h', Keeps h h' [env.locals] → St hT hE F env fr' P h' → Q () h') : W prog w A (storeName env x v) h Q :=
  W.any fun g d tk os QQ EE k => by
    obtain ⟨u, m⟩ := hp.mem
    refine wpAny_storeName_local (s := ⟨h, g, d, tk, os⟩) (S.ok.loc _ m) S.ns (fun h' hn hs => k _ _ _ ?_) (by
      show (env.scope.kind == .class || (env.scope.kind == .module && env.locals != env.globals)) = false
      rw [S.ok.kind]; rfl)
    have hk : Keeps h h' [env.locals] := fun b o e nb => (hs.2 b fun e' => nb (by rw [e']; exact List.mem_singleton_self _)).trans e
    refine q h' hk ⟨?_, S.ok.put hp, ?_, S.fL, ?_, S.tE, S.tF, S.ps _ _ hk S.p, S.ps⟩
    · have e : (fun y => (fr'.lookup y).join) = fun y => if y = x then some v else (fr.lookup y).join := by
        funext y
        rw [hp.lookup S.ok.nd y]
        by_cases hy : y = x <;> simp [hy]
      rw [e]; exact hn
    · exact fun b o e nb => hk b o (S.kp b o e nb) fun mb => by
        rw [List.mem_singleton] at mb; subst mb; rw [S.fL] at e; cases e
    · exact fun b o e => hk b o (S.up b o e) fun mb => by
        rw [List.mem_singleton] at mb; subst mb; cases S.fL.symm.trans (S.tE _ _ e)
end
section
variable {A : Around} {hE h h' : Heap} {oz : Value → Nat ⊕ List UInt8} {toks : List (Int × TV)} {env : Env}
noncomputable def rdNames : List (Str × NameKind) := [(Str.ofString ".0", .local), (Str.ofString "reader", .local), (Str.ofString "_law_told", .globalImplicit)]
noncomputable abbrev rdFr (v : Option Value) : Fra := [(Str.ofString ".0", none), (Str.ofString "reader", v)]
theorem rd_ok {scope : Scope} {Lc : Addr} {frO : Fra} {v : Option Value} (okE : FrOK env frO) (hk : scope.kind = .function) : FrOK (compEnv scope rdNames env Lc []) (rdFr v) := by
  refine ⟨hk, okE.glob, okE.blt, fun p m => ?_, nodupB_iff (by kernel_rfl), fun p m => ?_⟩
  · simp only [List.mem_cons, List.not_mem_nil, or_false] at m
    rcases m with rfl | rfl <;> kernel_rfl
  · simp only [List.mem_cons, List.not_mem_nil, or_false] at m
    rcases m with rfl | rfl <;> kernel_rfl
structure RCI (prog : Program) (w : World) (hT : Heap) (oz : Value → Nat ⊕ List UInt8) (toks : List (Int × TV)) (h : Heap) (ρ : List RD) (rl acc it Lc : Addr) (a a' b : Nat) (scope : Scope) (env : Env) (dn rest pre : List RD) (us : List Value) (old : Option Value) (h1 : Heap) : Prop where
  eq : pre ++ rest = ρ
  len : dn.length = pre.length
  vs : dn.map RD.v = pre.map RD.v
  a' : ∀ r ∈ dn, r.a = a'
  R : RLs prog w hT oz toks h1 (dn ++ rest)
  gM : ∀ r ∈ dn, ∀ x ∈ r.M, x ∈ muts ρ ∨ h.get? x = none
  gD : ∀ r ∈ dn, ∀ x ∈ r.D, (∃ s ∈ ρ, x ∈ s.D) ∨ h.get? x = none
  ul : us.length = dn.length
  ut : ∀ x ∈ us, Told h1 x (tokN toks b).1 (tokN toks b).2
  al : IsL h1 acc us
  il : h1.IsListIter it rl dn.length
  out : ∀ r ∈ dn ++ rest, it ∉ r.D ∧ acc ∉ r.D ∧ Lc ∉ r.D
  S : St hT h (muts ρ) (compEnv scope rdNames env Lc []) (rdFr old) (fun _ => True) h1
theorem readers_comp {elt : PySem.Expr} {p1 p2 pos : Pos} {scope : Scope} {ρ : List RD} {rl : Addr} {a a' b : Nat} {frO : Fra} {Q : Value → Heap → Prop} (G : GG w hT) (up : Grown hT h) (okE : FrOK env frO) (hh : A.handled = none) (hk : scope.kind = .function) (hn : scope.names = rdNames)
    (R : RLs prog w hT oz toks h ρ) (ha : ∀ r ∈ ρ, r.a = a) (hrl : IsL h rl (ρ.map RD.v)) (hz : ρ.length ≤ 10)
    (hiter : ∀ Q : Value → Heap → Prop, Q (.ref rl) h → W prog w A (eval (.Name (Str.ofString "readers") p2) env) h Q)
    (helt : ∀ (r : RD) (Lc : Addr) (h1 : Heap), St hT h (muts ρ) (compEnv scope rdNames env Lc []) (rdFr (some r.v)) (fun _ => True) h1 → Reader prog w hT oz toks h1 r.v a r.D r.M →
      W prog w A (eval elt (compEnv scope rdNames env Lc [])) h1 fun x h2 => Told h2 x (tokN toks b).1 (tokN toks b).2 ∧ ∃ D' M', Reader prog w hT oz toks h2 r.v a' D' M' ∧ Keeps h1 h2 r.M ∧ (∀ x ∈ D', x ∈ r.D ∨ h1.get? x = none) ∧ (∀ x ∈ M', x ∈ r.M ∨ h1.get? x = none))
    (q : ∀ acc us ρ' h', h.get? acc = none → IsL h' acc us → us.length = ρ.length → (∀ x ∈ us, Told h' x (tokN toks b).1 (tokN toks b).2) → RLs prog w hT oz toks h' ρ' → ρ'.map RD.v = ρ.map RD.v → (∀ r ∈ ρ', r.a = a') →
      (∀ r ∈ ρ', ∀ x ∈ r.M, x ∈ muts ρ ∨ h.get? x = none) → (∀ r ∈ ρ', ∀ x ∈ r.D, (∃ s ∈ ρ, x ∈ s.D) ∨ h.get? x = none) → Keeps h h' (muts ρ) → (∀ r ∈ ρ', acc ∉ r.D) → Q (.ref acc) h') :
    W prog w A (eval (.ListComp elt [⟨.Name (Str.ofString "reader") p1, .Name (Str.ofString "readers") p2, [], 0⟩] scope pos) env) h Q := by
  refine W_listcomp (cl := []) (names := rdNames) ?_ ?_ ?_ hk ?_ ?_ ?_
  · exact closureFor_none (by rw [hn]; decide)
  · rw [hn]; decide
  · rw [hn]; rfl
  · rw [hn]; intro x m hl; simp only [rdNames, List.mem_cons, List.not_mem_nil, or_false] at m; rcases m with rfl | rfl | rfl <;> first | (cases hl; done) | kernel_rfl
  · decide
  refine hiter _ (P_list hrl fun it h2 nit k2 i2 acc Lc h3 nacc nLc ne k3 x3 ns3 => ?_)
  have itO : ∃ o, h2.get? it = some o := let ⟨o, e, _⟩ := i2; ⟨o, e⟩
  have it1 : it ≠ acc := (fresh_ne nacc itO).symm
  have it2 : it ≠ Lc := (fresh_ne nLc itO).symm
  have i3 : h3.IsListIter it rl 0 := let ⟨o, e, r⟩ := i2; ⟨o, k3 _ _ e List.not_mem_nil, r⟩
  have k13 : Keeps h h3 [] := k2.trans k3
  have nacc0 : h.get? acc = none := by
    cases q : h.get? acc with
    | none => rfl
    | some o => rw [k2 _ _ q List.not_mem_nil] at nacc; cases nacc
  have nLc0 : h.get? Lc = none := by
    cases q : h.get? Lc with
    | none => rfl
    | some o => rw [k2 _ _ q List.not_mem_nil] at nLc; cases nLc
  have out0 : ∀ r ∈ ρ, it ∉ r.D ∧ acc ∉ r.D ∧ Lc ∉ r.D := fun r m => by
    have hs := (R.ok r m).has
    refine ⟨fun md => ?_, fun md => ?_, fun md => ?_⟩
    · obtain ⟨o, e⟩ := hs _ md; rw [nit] at e; cases e
    · obtain ⟨o, e⟩ := hs _ md; rw [nacc0] at e; cases e
    · obtain ⟨o, e⟩ := hs _ md; rw [nLc0] at e; cases e
  have S0 : St hT h (muts ρ) (compEnv scope rdNames env Lc []) (rdFr none) (fun _ => True) h3 := by
    refine ⟨?_, rd_ok okE hk, k13.nil, nLc0, fun b o e => k13 _ _ (up _ _ e) List.not_mem_nil, up, fun x m => ?_, trivial, fun _ _ _ _ => trivial⟩
    · have : (fun x => ((rdFr none).lookup x).join) = fun _ => none := by
        funext x
        simp only [rdFr, List.lookup_cons, List.lookup_nil]
        cases x == Str.ofString ".0" <;> cases x == Str.ofString "reader" <;> rfl
      rw [this]; exact ns3
    · obtain ⟨r, mr, mx⟩ := List.mem_flatMap.mp m
      exact (R.ok r mr).top x mx
  have hrl3 : ∀ {h1 : Heap}, Keeps h h1 (muts ρ) → IsL h1 rl (ρ.map RD.v) := fun k => hrl.keeps k fun m => (R.al _ m).2.2 _ hrl
  refine ⟨W.any fun g d tk os QQ EE k => wpAny_pyIter_listiter (s := ⟨h3, g, d, tk, os⟩) i3 (k _ _ _ ⟨rfl, rfl⟩), ?_⟩
  have I0 : RCI prog w hT oz toks h ρ rl acc it Lc a a' b scope env [] ρ [] [] none h3 := by
    constructor
    · rfl
    · rfl
    · rfl
    · exact fun r m => nomatch m
    · exact R.keeps k13 fun x m => nomatch m
    · exact fun r m => nomatch m
    · exact fun r m => nomatch m
    · rfl
    · exact fun x m => nomatch m
    · exact x3
    · exact i3
    · exact out0
    · exact S0
  refine CW_down (I := fun n h1 => ∃ dn rest pre us old, n = rest.length ∧ RCI prog w hT oz toks h ρ rl acc it Lc a a' b scope env dn rest pre us old h1) ?_ ?_ ρ.length ⟨[], ρ, [], [], none, rfl, I0⟩
  · rintro n ih h1 ⟨dn, rest, pre, us, old, en, I⟩
    cases rest with
    | nil => cases en
    | cons r rest =>
    have en' : n = rest.length := by simpa using en
    subst en'
    have hv : (ρ.map RD.v)[dn.length]? = some r.v := by
      rw [← I.eq, I.len, List.map_append, List.map_cons, ← List.length_map (f := RD.v) (as := pre), List.getElem?_append_right (Nat.le_refl _), Nat.sub_self]; rfl
    have rm : r ∈ ρ := by rw [← I.eq]; simp
    have hra : r.a = a := ha r rm
    have rin : r ∈ dn ++ r :: rest := by simp
    have oR := I.out r rin
    have al1 := NTok.iter I.il
    refine CW_compturn ?_
    refine N_list I.il (hrl3 I.S.kp) hv fun h4 k4 i4 => ?_
    have R4 := I.R.keeps k4 (all1 ⟨al1.1, al1.2, fun s ms => (I.out s ms).1⟩)
    have ut4 : ∀ x ∈ us, Told h4 x (tokN toks b).1 (tokN toks b).2 := fun x m => (I.ut x m).keeps k4 fun y my => by rw [List.mem_singleton] at my; subst my; exact al1.2
    have x4 := I.al.keeps k4 (notIn1 it1.symm)
    have S4 := I.S.step (P' := fun _ => True) k4 ((all1 (.inr (nit)))) (notIn1 it2.symm) trivial (fun _ _ _ _ => trivial)
    refine W.of_eq (t' := Pure.pure ()) rfl (W.pure ?_)
    refine A_name (W_storeK S4 (.tail .head) fun h5 k5 S5 => ?_)
    have nL : NTok h4 Lc ∧ NTup h4 Lc := ⟨NTok.ns S4.ns (by cases old <;> rfl), NTup.ns S4.ns⟩
    have k5' : Keeps h4 h5 [Lc] := k5
    have R5 := R4.keeps k5' (all1 ⟨nL.1, nL.2, fun s ms => (I.out s ms).2.2⟩)
    have ut5 : ∀ x ∈ us, Told h5 x (tokN toks b).1 (tokN toks b).2 := fun x m => (ut4 x m).keeps k5' fun y my => by rw [List.mem_singleton] at my; subst my; exact nL.2
    have x5 := x4.keeps k5' (notIn1 ne)
    have i5 : h5.IsListIter it rl (dn.length + 1) := let ⟨o, e, z⟩ := i4; ⟨o, k5' _ _ e (notIn1 it2), z⟩
    have Rr5 := R5.ok r rin
    have Rr5a : Reader prog w hT oz toks h5 r.v a r.D r.M := hra ▸ Rr5
    refine (helt r Lc h5 S5 Rr5a).mono ?_
    rintro x h6 ⟨t6, D', M', R', k6, d1, d2⟩
    have mM : ∀ y ∈ r.M, y ∈ muts ρ := fun y m => List.mem_flatMap.mpr ⟨r, rm, m⟩
    have sub := Rr5.sub
    have R6 := R5.step (r' := ⟨r.v, a', D', M'⟩) R' k6 d1 d2
    have S6 := S5.step (P' := fun _ => True) k6 (fun y m => .inl (mM y m)) (fun m => oR.2.2 (sub _ m)) trivial (fun _ _ _ _ => trivial)
    have al5 := Rr5.al
    have x6 := x5.keeps k6 (fun m => oR.2.1 (sub _ m))
    have ut6 : ∀ x ∈ us, Told h6 x (tokN toks b).1 (tokN toks b).2 := fun x m => (ut5 x m).keeps k6 fun y my => (al5 y my).2.1
    have i6 : h6.IsListIter it rl (dn.length + 1) := let ⟨o, e, z⟩ := i5; ⟨o, k6 _ _ e (fun m => oR.1 (sub _ m)), z⟩
    have itO5 : ∃ o, h5.get? it = some o := let ⟨o, e, _⟩ := i5; ⟨o, e⟩
    have LcO5 : ∃ o, h5.get? Lc = some o := S5.locs
    have nD : it ∉ D' ∧ acc ∉ D' ∧ Lc ∉ D' := by
      refine ⟨fun m => ?_, fun m => ?_, fun m => ?_⟩
      · rcases d1 _ m with z | z
        · exact oR.1 z
        · obtain ⟨o, e⟩ := itO5; rw [z] at e; cases e
      · rcases d1 _ m with z | z
        · exact oR.2.1 z
        · obtain ⟨o, e⟩ := x5.some; rw [z] at e; cases e
      · rcases d1 _ m with z | z
        · exact oR.2.2 z
        · obtain ⟨o, e⟩ := LcO5; rw [z] at e; cases e
    have out6 : ∀ s ∈ dn ++ (⟨r.v, a', D', M'⟩ : RD) :: rest, it ∉ s.D ∧ acc ∉ s.D ∧ Lc ∉ s.D := fun s m => by
      rw [List.mem_append, List.mem_cons] at m
      rcases m with m | rfl | m
      · exact I.out s (by simp [m])
      · exact nD
      · exact I.out s (by simp [m])
    have usz : us.length ≤ 1000000 := by
      have e1 := congrArg List.length I.eq
      rw [List.length_append] at e1
      have := I.ul
      have := I.len
      omega
    refine L_append x6 usz fun h7 k7 x7 => ?_
    have R7 := R6.keeps k7 (all1 ⟨NTok.list x6, NTup.list x6, fun s ms => (out6 s ms).2.1⟩)
    have ut7 : ∀ z ∈ us ++ [x], Told h7 z (tokN toks b).1 (tokN toks b).2 := fun z m => by
      have nn : ∀ y ∈ [acc], NTup h6 y := fun y my => by rw [List.mem_singleton] at my; subst my; exact NTup.list x6
      rw [List.mem_append, List.mem_singleton] at m
      rcases m with m | rfl
      · exact (ut6 z m).keeps k7 nn
      · exact t6.keeps k7 nn
    have i7 : h7.IsListIter it rl (dn.length + 1) := let ⟨o, e, z⟩ := i6; ⟨o, k7 _ _ e (notIn1 it1), z⟩
    have S7 := S6.step (P' := fun _ => True) k7 ((all1 (.inr (nacc0)))) (notIn1 (Ne.symm ne)) trivial (fun _ _ _ _ => trivial)
    have back : ∀ y, h5.get? y = none → (y ∈ muts ρ ∨ h.get? y = none) := fun y e => by
      by_cases hm : y ∈ muts ρ
      · exact .inl hm
      · exact .inr (S5.new e hm)
    have backD : ∀ y, h5.get? y = none → ((∃ s ∈ ρ, y ∈ s.D) ∨ h.get? y = none) := fun y e => by
      rcases back y e with z | z
      · obtain ⟨s, ms, my⟩ := List.mem_flatMap.mp z
        exact .inl ⟨s, ms, (R.ok s ms).sub y my⟩
      · exact .inr z
    refine ih _ ⟨dn ++ [⟨r.v, a', D', M'⟩], rest, pre ++ [r], us ++ [x], some r.v, rfl, ?_⟩
    constructor
    · rw [← I.eq]; simp
    · simp [I.len]
    · rw [List.map_append, List.map_append, I.vs]; rfl
    · intro s m
      rw [List.mem_append, List.mem_singleton] at m
      rcases m with m | rfl
      · exact I.a' s m
      · rfl
    · rw [List.append_assoc]; exact R7
    · intro s m y my
      rw [List.mem_append, List.mem_singleton] at m
      rcases m with m | rfl
      · exact I.gM s m y my
      · rcases d2 y my with z | z
        · exact .inl (mM y z)
        · exact back y z
    · intro s m y my
      rw [List.mem_append, List.mem_singleton] at m
      rcases m with m | rfl
      · exact I.gD s m y my
      · rcases d1 y my with z | z
        · exact .inl ⟨r, rm, z⟩
        · exact backD y z
    · simp [I.ul]
    · exact ut7
    · exact x7
    · rw [List.length_append]; exact i7
    · rw [List.append_assoc]; exact out6
    · exact S7
  · rintro h1 ⟨dn, rest, pre, us, old, en, I⟩
    have hr : rest = [] := List.eq_nil_of_length_eq_zero en.symm
    subst hr
    have I' := I
    have e1 := I.eq
    rw [List.append_nil] at e1
    subst e1
    refine CW_compturn ?_
    refine N_list_end hh I.il (hrl3 I.S.kp) (by rw [List.length_map, I.len]; exact Nat.le_refl _) fun h4 k4 => ?_
    have al4 := NTok.iter I.il
    have R4 := I.R.keeps k4 (all1 ⟨al4.1, al4.2, fun r mr => (I.out r mr).1⟩)
    have ut4 : ∀ x ∈ us, Told h4 x (tokN toks b).1 (tokN toks b).2 := fun x m => (I.ut x m).keeps k4 fun y my => by rw [List.mem_singleton] at my; subst my; exact al4.2
    have x4 := I.al.keeps k4 (notIn1 it1.symm)
    have S4 := I.S.step (P' := fun _ => True) k4 ((all1 (.inr (nit)))) (notIn1 it2.symm) trivial (fun _ _ _ _ => trivial)
    refine ⟨_, S4.ns, fun h5 k5 => ?_⟩
    have nL : NTok h4 Lc ∧ NTup h4 Lc := ⟨NTok.ns S4.ns (by cases old <;> rfl), NTup.ns S4.ns⟩
    rw [List.append_nil] at R4
    have o4 := I.out
    rw [List.append_nil] at o4
    refine q acc us dn h5 nacc0 (x4.keeps k5 (notIn1 ne)) (by rw [I.ul, I.len]) (fun x m => (ut4 x m).keeps k5 fun y my => by rw [List.mem_singleton] at my; subst my; exact nL.2)
      (R4.keeps k5 (all1 ⟨nL.1, nL.2, fun r mr => (o4 r mr).2.2⟩)) I.vs I.a' I.gM I.gD (S4.kp.trans' k5 (all1 (.inr (nLc0)))) (fun r m => (o4 r m).2.1)
end
section
variable {A : Around} {h : Heap} {oz : Value → Nat ⊕ List UInt8} {toks : List (Int × TV)} {env : Env}
noncomputable abbrev EltOut (prog : Program) (w : World) (hT : Heap) (oz : Value → Nat ⊕ List UInt8) (toks : List (Int × TV)) (h1 : Heap) (r : RD) (a' b : Nat) (x : Value) (h2 : Heap) : Prop :=
  Told h2 x (tokN toks b).1 (tokN toks b).2 ∧ ∃ D' M', Reader prog w hT oz toks h2 r.v a' D' M' ∧ Keeps h1 h2 r.M ∧ (∀ x ∈ D', x ∈ r.D ∨ h1.get? x = none) ∧ (∀ x ∈ M', x ∈ r.M ∨ h1.get? x = none)
theorem elt_current {q1 q2 q3 q4 : Pos} {scope : Scope} {ρ : List RD} {Lc : Addr} {r : RD} {a : Nat} {h1 : Heap} (G : GG w hT) (room : Room A 1)
    (S : St hT h (muts ρ) (compEnv scope rdNames env Lc []) (rdFr (some r.v)) (fun _ => True) h1) (Rd : Reader prog w hT oz toks h1 r.v a r.D r.M) :
    W prog w A (eval (.Call (.Name (Str.ofString "_law_told") q1) [.Attribute (.Name (Str.ofString "reader") q2) (Str.ofString "current") q3] [] q4) (compEnv scope rdNames env Lc [])) h1 (EltOut prog w hT oz toks h1 r a a) := by
  refine W_call ?_
  refine W_glob S G (g_law_told _) (by kernel_rfl) ?_
  refine W_w1 G (kk_law_told _) ?_
  refine A_cons ?_ rfl
  refine W_attr ?_
  refine W_loc S (.tail _ (.head _)) ?_
  refine Rd.current G S.up fun c T => ?_
  refine A_nil ⟨S.up, ?_⟩
  refine (law_told_ G S.up room T).mono ?_
  rintro x h2 ⟨t, k⟩
  exact ⟨t, r.D, r.M, Rd.keeps k (fun x m => nomatch m), k.nil, fun x m => .inl m, fun x m => .inl m⟩
noncomputable abbrev MethEq (scope : Scope) (env : Env) (name : Str) (q2 q3 q5 : Pos) : Prop := ∀ Lc : Addr, ∃ pl : Sem Bool, eval (.Call (.Attribute (.Name (Str.ofString "reader") q2) name q3) [] [] q5) (compEnv scope rdNames env Lc []) = (do
      let ov ← eval (.Name (Str.ofString "reader") q2) (compEnv scope rdNames env Lc [])
      standAt q3.atName
      let (f, first) ← holding [ov] (getMethod ov name pl)
      callWith q5 f first (backTo q5 (starEach [] (compEnv scope rdNames env Lc []))) [])
theorem elt_method {q1 q2 q3 q4 q5 : Pos} {scope : Scope} {ρ : List RD} {Lc : Addr} {r : RD} {a' b : Nat} {h1 : Heap} {name : Str} (G : GG w hT) (room : Room A 1)
    (S : St hT h (muts ρ) (compEnv scope rdNames env Lc []) (rdFr (some r.v)) (fun _ => True) h1) (hM : ∀ x ∈ r.M, hT.get? x = none) (he : MethEq scope env name q2 q3 q5)
    (H : ∃ f, KeepOK (KK w.params) (.ref f) ∧ (∀ (A : Around) (pl : Sem Bool) (Q : Value × List Value → Heap → Prop), Q (.ref f, [r.v]) h1 → W prog w A (getMethod r.v name pl) h1 Q) ∧ W prog w A (call (.ref f) [r.v] []) h1 fun x h' => ROut prog w hT oz toks h1 r.v b a' r.D r.M x h') :
    W prog w A (eval (.Call (.Name (Str.ofString "_law_told") q1) [.Call (.Attribute (.Name (Str.ofString "reader") q2) name q3) [] [] q5] [] q4) (compEnv scope rdNames env Lc [])) h1 (EltOut prog w hT oz toks h1 r a' b) := by
  obtain ⟨f, kk, hget, hcall⟩ := H
  have fin : W prog w A (callWith q5 (.ref f) [r.v] (backTo q5 (starEach [] (compEnv scope rdNames env Lc []))) []) h1 fun c h2 => W prog w A (spliced (backTo q4 (starEach [] (compEnv scope rdNames env Lc [])))) h2 fun vs h3 =>
      Grown hT h3 ∧ W prog w A (call (.ref 539) (c :: vs) []) h3 (EltOut prog w hT oz toks h1 r a' b) := by
    refine W_w0m G S.up kk ?_
    refine hcall.mono ?_
    rintro c h2 ⟨T, D', M', R', k, d1, d2⟩
    have up2 : Grown hT h2 := fun b o e => k b o (S.up b o e) fun m => by rw [hM b m] at e; cases e
    refine A_nil ⟨up2, ?_⟩
    refine (law_told_ G up2 room T).mono ?_
    rintro x h3 ⟨t, k3⟩
    exact ⟨t, D', M', R'.keeps k3 (fun x m => nomatch m), k.trans k3.nil, d1, d2⟩
  refine W_call ?_
  refine W_glob S G (g_law_told _) (by kernel_rfl) ?_
  refine W_w1 G (kk_law_told _) ?_
  obtain ⟨pl, he⟩ := he Lc
  refine A_cons ?_ (by rfl)
  refine W_meth (pl := pl) ?_ he
  refine W_loc S (.tail _ (.head _)) ?_
  exact hget _ _ _ fin
end
section
variable {A : Around} {h : Heap} {oz : Value → Nat ⊕ List UInt8} {toks : List (Int × TV)} {env : Env}
theorem told_comp {elt : PySem.Expr} {p1 p2 pos : Pos} {scope : Scope} {ρ : List RD} {rl : Addr} {a a' b : Nat} {frO : Fra} {Q : Value → Heap → Prop} (G : GG w hT) (up : Grown hT h) (okE : FrOK env frO) (room : Room A 8) (hk : scope.kind = .function) (hn : scope.names = rdNames)
    (R : RLs prog w hT oz toks h ρ) (ha : ∀ r ∈ ρ, r.a = a) (hrl : IsL h rl (ρ.map RD.v)) (hz : ρ.length ≤ 10) (hle : a ≤ 900)
    (hiter : ∀ Q : Value → Heap → Prop, Q (.ref rl) h → W prog w A (eval (.Name (Str.ofString "readers") p2) env) h Q)
    (hc : (∃ q1 q2 q3 q4, elt = .Call (.Name (Str.ofString "_law_told") q1) [.Attribute (.Name (Str.ofString "reader") q2) (Str.ofString "current") q3] [] q4 ∧ a' = a ∧ b = a) ∨
      (∃ q1 q2 q3 q4 q5, elt = .Call (.Name (Str.ofString "_law_told") q1) [.Call (.Attribute (.Name (Str.ofString "reader") q2) (Str.ofString "lookahead") q3) [] [] q5] [] q4 ∧ a' = a ∧ b = a + 1 ∧ MethEq scope env (Str.ofString "lookahead") q2 q3 q5) ∨
      (∃ q1 q2 q3 q4 q5, elt = .Call (.Name (Str.ofString "_law_told") q1) [.Call (.Attribute (.Name (Str.ofString "reader") q2) (Str.ofString "next") q3) [] [] q5] [] q4 ∧ a' = a + 1 ∧ b = a + 1 ∧ MethEq scope env (Str.ofString "next") q2 q3 q5))
    (q : ∀ acc us ρ' h', h.get? acc = none → IsL h' acc us → us.length = ρ.length → (∀ x ∈ us, Told h' x (tokN toks b).1 (tokN toks b).2) → RLs prog w hT oz toks h' ρ' → ρ'.map RD.v = ρ.map RD.v → (∀ r ∈ ρ', r.a = a') →
      (∀ r ∈ ρ', ∀ x ∈ r.M, x ∈ muts ρ ∨ h.get? x = none) → (∀ r ∈ ρ', ∀ x ∈ r.D, (∃ s ∈ ρ, x ∈ s.D) ∨ h.get? x = none) → Keeps h h' (muts ρ) → (∀ r ∈ ρ', acc ∉ r.D) → Q (.ref acc) h') :
    W prog w A (eval (.ListComp elt [⟨.Name (Str.ofString "reader") p1, .Name (Str.ofString "readers") p2, [], 0⟩] scope pos) env) h Q := by
  refine readers_comp (a := a) (a' := a') (b := b) G up okE room.hh hk hn R ha hrl hz hiter (fun r Lc h1 S Rd => ?_) q
  rcases hc with ⟨q1, q2, q3, q4, rfl, rfl, rfl⟩ | ⟨q1, q2, q3, q4, q5, rfl, rfl, rfl, he⟩ | ⟨q1, q2, q3, q4, q5, rfl, rfl, rfl, he⟩
  · exact elt_current G (room.le (by decide)) S Rd
  · exact elt_method G (room.le (by decide)) S Rd.top he (Rd.look G S.up room hle)
  · exact elt_method G (room.le (by decide)) S Rd.top he (Rd.next G S.up room hle)
end
theorem k_law (P : Params) : List.lookup 558 (KK P) = some ⟨.type "function", none, .func fd_law, #[]⟩ := by kernel_rfl
theorem c_law (P : Params) : codeIn (KK P) fd_law.code fd_law.qualname = true := by kernel_rfl
theorem b_law (v : Value) : bindArgs fd_law ⟨[v], []⟩ = pure ([(Str.ofString "script", v)] : List (Str × Value)) := by kernel_rfl
noncomputable abbrev lawEnv (L : Addr) : Env := callEnvC fd_law L 558
noncomputable def lawNames : List Str := [Str.ofString "script", Str.ofString "text", Str.ofString "found", Str.ofString "places", Str.ofString "row", Str.ofString "lexer", Str.ofString "split", Str.ofString "readers", Str.ofString "meant", Str.ofString "at", Str.ofString "turn", Str.ofString "rest", Str.ofString "behind"]
theorem law_check : (fd_law.scope.kind == .function && fd_law.globals == mainGlobals && fd_law.builtins == builtinsNs && nodupB lawNames && lawNames.all (fun x => fd_law.scope.names.lookup x == some .local && !(x == ("__debug__" : Str))) && !fd_law.scope.isCoroutine && !fd_law.scope.isGenerator) = true := by kernel_rfl
theorem law_ok {L : Addr} {fr : Fra} (hk : fr.map (·.1) = lawNames) : FrOK (lawEnv L) fr := by
  have c := law_check
  simp only [Bool.and_eq_true, beq_iff_eq, List.all_eq_true, Bool.not_eq_true'] at c
  obtain ⟨⟨⟨⟨⟨⟨e1, e2⟩, e3⟩, e4⟩, e5⟩, e6⟩, e7⟩ := c
  refine ⟨e1, e2, e3, fun p hp => ?_, hk ▸ nodupB_iff e4, fun p hp => ?_⟩
  · exact (e5 p.1 (hk ▸ List.mem_map_of_mem (f := (·.1)) hp)).1
  · exact (e5 p.1 (hk ▸ List.mem_map_of_mem (f := (·.1)) hp)).2
theorem law_cells (L : Addr) : cellsFrom (L + 1) fd_law.scope.names [] = [(Str.ofString "cup", L + 2), (Str.ofString "_law_pieces", L + 1)] := by kernel_rfl
noncomputable abbrev lawFr0 (s : Value) : Fra := [(Str.ofString "script", some s), (Str.ofString "text", none), (Str.ofString "found", none), (Str.ofString "places", none), (Str.ofString "row", none), (Str.ofString "lexer", none), (Str.ofString "split", none), (Str.ofString "readers", none), (Str.ofString "meant", none), (Str.ofString "at", none), (Str.ofString "turn", none), (Str.ofString "rest", none), (Str.ofString "behind", none)]
section
variable {A : Around} {h : Heap}
noncomputable def CellIs (h : Heap) (c : Addr) (v : Option Value) : Prop := h.IsCell c v
theorem CellIs.keeps {h h' : Heap} {c : Addr} {v : Option Value} {F : List Addr} (x : CellIs h c v) (k : Keeps h h' F) (n : c ∉ F) : CellIs h' c v := let ⟨o, e, d⟩ := x; ⟨o, k _ _ e n, d⟩
theorem join_none {y : Str} : ∀ l : Fra, (∀ p ∈ l, p.2 = none) → (l.lookup y).join = none
  | [], _ => rfl
  | (x, v) :: r, hh => by
    rw [List.lookup_cons]
    have : v = none := hh (x, v) (.head _)
    subst this
    cases y == x
    · exact join_none r fun p m => hh p (.tail _ m)
    · rfl
theorem law_kind (L : Addr) : (lawEnv L).kindOf (Str.ofString "script") = some .local := by kernel_rfl
theorem W_law {s : Value} {n : Nat} {body : List Stmt} {Q : Value → Heap → Prop} (G : GG w hT) (up : Grown hT h) (room : Room A (n + 1)) (hbody : fd_law.body = .stmts body)
    (H : ∀ L h1, St hT h [] (lawEnv L) (lawFr0 s) (fun _ => True) h1 → h.get? (L + 1) = none → h.get? (L + 2) = none → CellIs h1 (L + 1) none → CellIs h1 (L + 2) none → Room (A.deeper (lawEnv L)) n → W prog w (A.deeper (lawEnv L)) (execs body (lawEnv L)) h1 fun fl h2 => Q (retv fl) h2) :
    W prog w A (call (.ref 558) [s] []) h Q := by
  have c := law_check
  simp only [Bool.and_eq_true, beq_iff_eq, List.all_eq_true, Bool.not_eq_true'] at c
  obtain ⟨⟨⟨⟨⟨⟨m1, e2⟩, e3⟩, e4⟩, e5⟩, m3⟩, m4⟩ := c
  refine W.call (CW.tree rfl ?_)
  show W _ _ A.in1 (callAny (.ref 558) ⟨[s], []⟩) _ _
  have hfo : h.get? 558 = some ⟨.type "function", none, .func fd_law, #[]⟩ := up _ _ (G.X _ _ (k_law _))
  obtain ⟨c, oc', vs, tq, hc, hoc, hdc, hq⟩ := codeRec_of (G.X.keeps up) (c_law _)
  unfold callAny
  refine W.bind (W.load hfo ?_)
  simp only [callFunction, m3, m4, hbody, hc]
  refine W.bind (m := field (.ref c) 1) (W.any fun _ _ tk _ _ _ k => wpAny_field hoc hdc hq (k _ h tk ?_))
  refine W.bind (W.pure (W.bind (W.any fun g d tk os QQ EE k => (BindsTo.of_eq (s := ⟨h, g, d, tk, os⟩) (b_law s)) _ _ _ _ (k _ h tk ?_))))
  have hclo : fd_law.closure = [] := by kernel_rfl
  rw [hclo]
  refine W.bind (W.any fun g d tk os QQ EE k => wpAny_newFunctionEnv_cells (s := ⟨h, g, d, tk, os⟩) m1 (fun x hx => by
    rw [List.mem_singleton] at hx; subst hx; exact .inl (e5 _ (by unfold lawNames; exact .head _)).1) fun env he s' x => ?_)
  subst he
  obtain ⟨h', tk', rfl, hk1⟩ := x.done
  refine k _ _ _ ?_
  have hlim := G.lim.keeps (h' := h') fun b o e => hk1 _ _ (up _ _ e)
  refine W.bind (W.any fun g d tk os QQ EE k => wpAny_enterFrame (s := ⟨h', g, d, tk, os⟩) hlim (by have := room.1; show A.depth < _; omega) (k _ _ _ (W.pure ⟨rfl, ?_⟩)))
  have nn : ∀ k, h.get? (h.objs.size + k) = none := fun k => Heap.get?_none_of_le (Nat.le_add_right _ _)
  have hns := x.toInCall.ns
  have S : St hT h [] (lawEnv h.objs.size) (lawFr0 s) (fun _ => True) h' := by
    refine ⟨?_, law_ok rfl, fun b o e _ => hk1 b o e, nn 0, fun b o e => hk1 b o (up b o e), up, fun _ m => (nomatch m), trivial, fun _ _ _ _ => trivial⟩
    have e : bindL (lawEnv h.objs.size).kindOf [(Str.ofString "script", s)] (fun _ => none) = fun y => ((lawFr0 s).lookup y).join := by
      unfold bindL bindL
      rw [if_pos (law_kind _)]
      funext y
      rw [lawFr0, List.lookup_cons]
      by_cases hy : y = Str.ofString "script"
      · subst hy; simp
      · have : (y == Str.ofString "script") = false := by simpa using hy
        rw [this, if_neg hy]
        exact (join_none _ (by intro p m; simp only [List.mem_cons, List.not_mem_nil, or_false] at m; rcases m with rfl | rfl | rfl | rfl | rfl | rfl | rfl | rfl | rfl | rfl | rfl | rfl <;> rfl)).symm
    rw [← e]
    have hq2 : (lawEnv h.objs.size).kindOf = (newEnv fd_law.scope h.objs.size fd_law.globals (cellsFrom (h.objs.size + 1) fd_law.scope.names []) (fd_law.qualname ++ ".<locals>.") (some 558) (.ref c) none fd_law.builtins).kindOf := rfl
    rw [hq2]
    exact hns
  have bc : ∀ n, bindC (lawEnv h.objs.size).kindOf [(Str.ofString "script", s)] (fun _ => none) n = none := fun n => by
    unfold bindC bindC
    rw [if_pos (law_kind _)]
  have c1 : CellIs h' (h.objs.size + 1) none := by
    have := x.cell (Str.ofString "_law_pieces") (h.objs.size + 1) (by show (cellsFrom (h.objs.size + 1) fd_law.scope.names []).lookup _ = _; rw [law_cells]; kernel_rfl)
    exact (bc (Str.ofString "_law_pieces")) ▸ this
  have c2 : CellIs h' (h.objs.size + 2) none := by
    have := x.cell (Str.ofString "cup") (h.objs.size + 2) (by show (cellsFrom (h.objs.size + 1) fd_law.scope.names []).lookup _ = _; rw [law_cells]; kernel_rfl)
    exact (bc (Str.ofString "cup")) ▸ this
  have fin := H _ h' S (nn 1) (nn 2) c1 c2 room.deeper
  have ee : newEnv fd_law.scope h.objs.size fd_law.globals (cellsFrom (h.objs.size + 1) fd_law.scope.names []) (fd_law.qualname ++ ".<locals>.") (some 558) (.ref c) none fd_law.builtins = lawEnv h.objs.size := by unfold lawEnv callEnvC; rw [hc]
  rw [ee]
  refine CW.tree rfl ?_
  show W _ _ (A.deeper (lawEnv h.objs.size)) (do point; match ← (execs body (lawEnv h.objs.size)).onRaise (leaving (lawEnv h.objs.size)) with | .ret v => ret v | _ => ret .none) _ _
  refine W.bind (W.point (W.bind (W.onRaise (fin.mono fun fl h2 q => ?_))))
  cases fl <;> exact W.pure ⟨_, rfl, q⟩
end
noncomputable def lawBodyS : { b : List Stmt // fd_law.body = .stmts b } := ⟨_, rfl⟩
noncomputable def lawSt (k : Nat) : Stmt := (lawBodyS.1.drop k).headD (.Pass default)
theorem lawT_ex : ∃ f : Nat → Stmt, f = lawSt := ⟨_, rfl⟩
noncomputable def lawT : Nat → Stmt := Classical.choose lawT_ex
theorem lawT_eq (k : Nat) : lawT k = lawSt k := congrFun (Classical.choose_spec lawT_ex) k
noncomputable def lawPieces : List (List UInt8) := [[120, 32], [97, 110, 100, 32], [49, 50, 32], [48, 120, 49, 70, 32], [34, 97, 92, 110, 34], [39, 92, 39, 39], [91, 91, 107, 10, 93, 93], [45, 45, 122, 10], [45, 45, 91, 61, 91, 32, 93, 93, 10, 93, 61, 93], [46, 46], [46, 46, 46], [60, 61, 32], [126, 61, 32], [45, 32], [13, 10], [40, 32], [95, 101, 49, 32]]
section
variable {A : Around} {hE h h' : Heap} {env : Env} {fr : Fra} {L : Addr}
theorem W_cellName {x : Str} {pos : Pos} {c : Addr} {v : Value} {Q : Value → Heap → Prop} (hk : env.scope.kind = .function) (hl : env.kindOf x = some .cell) (hc : env.cells.lookup x = some c) (cv : CellIs h c (some v)) (hx : (x == ("__debug__" : Str)) = false) (q : Q v h) : W prog w A (eval (.Name x pos) env) h Q := by
  rw [eval_Name env x pos hx]
  exact W.bind (W.standAt (W.any fun g d tk os QQ EE k => wpAny_loadName_cell hk hl hc cv (k _ _ _ q)))
theorem W_cellStore {x : Str} {c : Addr} {v : Value} {v0 : Option Value} {Q : Unit → Heap → Prop} (hk : env.scope.kind = .function) (hl : env.kindOf x = some .cell) (hc : env.cells.lookup x = some c) (cv : CellIs h c v0) (q : ∀ h', Keeps h h' [c] → CellIs h' c (some v) → Q () h') : W prog w A (storeName env x v) h Q :=
  W.any fun g d tk os QQ EE k => wpAny_storeName_cell hk hl hc cv fun h' a b => k _ _ _ (q h' (Keeps.sameBut b) a)
theorem kp_ (L : Addr) : (lawEnv L).kindOf (Str.ofString "_law_pieces") = some .cell := by kernel_rfl
theorem kc_ (L : Addr) : (lawEnv L).kindOf (Str.ofString "cup") = some .cell := by kernel_rfl
theorem lp_ (L : Addr) : (lawEnv L).cells.lookup (Str.ofString "_law_pieces") = some (L + 1) := by show (cellsFrom (L + 1) fd_law.scope.names []).lookup _ = _; rw [law_cells]; kernel_rfl
theorem lc_ (L : Addr) : (lawEnv L).cells.lookup (Str.ofString "cup") = some (L + 2) := by show (cellsFrom (L + 1) fd_law.scope.names []).lookup _ = _; rw [law_cells]; kernel_rfl
theorem lk_ (L : Addr) : (lawEnv L).scope.kind = .function := by kernel_rfl
theorem nd_p : (Str.ofString "_law_pieces" == ("__debug__" : Str)) = false := by kernel_rfl
theorem nd_c : (Str.ofString "cup" == ("__debug__" : Str)) = false := by kernel_rfl
structure PA (L la : Addr) (pz : List (List UInt8 × Tok)) (h : Heap) : Prop where
  c : CellIs h (L + 1) (some (.ref la))
  l : IsL h la (bvals pz)
  n : L ≠ la
structure PB (L cup sl : Addr) (k : Nat) (h : Heap) : Prop where
  c : CellIs h (L + 2) (some (.ref cup))
  x : ∃ n t svs sns, n ≤ k ∧ IsL h cup [.ref sl, .int (n : Nat) t] ∧ IsL h sl svs ∧ Ints svs sns ∧ svs.length ≤ 63 ∧ sl ≠ cup ∧ L ≠ sl
  n : L ≠ cup
theorem nz1 (n : Nat) : n + 1 ≠ n := by omega
theorem nz2 (n : Nat) : n + 2 ≠ n := by omega
theorem nz3 (n : Nat) : n + 2 ≠ n + 1 := by omega
theorem L1 : L + 1 ∉ [L] := notIn1 (nz1 L)
theorem L2 : L + 2 ∉ [L] := notIn1 (nz2 L)
theorem CellIs.nl {c a : Addr} {v : Option Value} {vs : List Value} (x : CellIs h c v) (y : IsL h a vs) : a ≠ c := by
  rintro rfl
  obtain ⟨o, e, d⟩ := x
  obtain ⟨n, q⟩ := y
  rw [e] at q
  have := Option.some.inj q
  subst this
  cases d
theorem PA.keeps {la : Addr} {pz : List (List UInt8 × Tok)} {F : List Addr} (p : PA L la pz h) (k : Keeps h h' F) (n1 : L + 1 ∉ F) (n2 : la ∉ F) : PA L la pz h' := ⟨p.c.keeps k n1, p.l.keeps k n2, p.n⟩
theorem PA.ps {la : Addr} {pz : List (List UInt8 × Tok)} (h h' : Heap) (k : Keeps h h' [L]) (p : PA L la pz h) : PA L la pz h' := p.keeps k L1 (notIn1 p.n.symm)
theorem PB.keeps {cup sl : Addr} {m : Nat} {F : List Addr} (p : PB L cup sl m h) (k : Keeps h h' F) (n1 : L + 2 ∉ F) (n2 : cup ∉ F) (n3 : sl ∉ F) : PB L cup sl m h' := by
  obtain ⟨n, t, svs, sns, z, a, b, r⟩ := p.x
  exact ⟨p.c.keeps k n1, ⟨n, t, svs, sns, z, a.keeps k n2, b.keeps k n3, r⟩, p.n⟩
theorem PB.ps {cup sl : Addr} {m : Nat} (h h' : Heap) (k : Keeps h h' [L]) (p : PB L cup sl m h) : PB L cup sl m h' :=
  let ⟨_, _, _, _, _, _, _, _, _, _, r4⟩ := p.x
  p.keeps k L2 (notIn1 p.n.symm) (notIn1 r4.symm)
noncomputable abbrev P0 (L : Addr) (h : Heap) : Prop := CellIs h (L + 1) none ∧ CellIs h (L + 2) none
theorem law_s0 {s : Value} (S : St hT hE [] (lawEnv L) (lawFr0 s) (P0 L) h) (n0 : hE.get? (L + 1) = none) :
    W prog w A (exec (lawT 0) (lawEnv L)) h fun fl h' => fl = .next ∧ ∃ la ts, ts.length = 17 ∧ St hT hE [] (lawEnv L) (lawFr0 s) (fun h => PA L la (lawPieces.zip ts) h ∧ CellIs h (L + 2) none) h' := by
  rw [lawT_eq]
  unfold lawSt lawBodyS
  dsimp only [List.drop, List.headD]
  k_extra "ww"
  have e1 := S.p.1.1.nl lx
  refine W_cellStore (lk_ L) (kp_ L) (lp_ L) S.p.1.1 fun h2 k2 c2 => ?_
  refine ⟨rfl, la, [_, _, _, _, _, _, _, _, _, _, _, _, _, _, _, _, _], rfl, S.step k2 ((all1 (.inr (n0)))) (notIn1 (nz1 L).symm) ⟨⟨c2, S.p.2.keeps k2 (notIn1 e1), ll⟩, S.p.1.2.keeps k2 (notIn1 (nz3 L))⟩ fun h h' k p => ⟨p.1.ps _ _ k, p.2.keeps k L2⟩⟩
theorem law_s1 {sl0 la : Addr} {pz : List (List UInt8 × Tok)} {svs : List Value} {sns : List Int} (G : GG w hT) (S : St hT hE [] (lawEnv L) (lawFr0 (.ref sl0)) (fun h => PA L la pz h ∧ CellIs h (L + 2) none) h) (m2 : hE.get? (L + 2) = none)
    (xs : IsL hE sl0 svs) (xi : Ints svs sns) (hz : svs.length ≤ 63) :
    W prog w A (exec (lawT 1) (lawEnv L)) h fun fl h' => fl = .next ∧ ∃ cup sl, hE.get? cup = none ∧ St hT hE [] (lawEnv L) (lawFr0 (.ref sl0)) (fun h => PA L la pz h ∧ PB L cup sl 0 h) h' := by
  rw [lawT_eq]
  unfold lawSt lawBodyS
  dsimp only [List.drop, List.headD]
  k_extra "ww"
  refine L_slice (xs.keeps S.kp List.not_mem_nil) (by omega) x1 .none (.int _ _) fun sl h2 n2 k2 x2 => ?_
  have l2 := S.ne n2
  have xo := x2.some
  have e2 : cut svs none (some 63) = svs := (cut_upto svs 63).trans (List.take_of_length_le hz)
  rw [e2] at x2
  replace S := S.addL k2 x2 l2
  clear k2 x2 n2 x1 l1 n1
  k_extra "ww"
  have ne := fresh_ne n1 xo
  have e1 := S.p.1.1.2.nl lx
  refine W_cellStore (lk_ L) (kc_ L) (lc_ L) S.p.1.1.2 fun h2 k2 c2 => ?_
  have nsl : sl ∉ [L + 2] := notIn1 (S.p.1.1.2.nl S.p.1.2)
  refine ⟨rfl, la, sl, lf, S.step k2 ((all1 (.inr (m2)))) (notIn1 (nz2 L).symm) ⟨S.p.1.1.1.keeps k2 (notIn1 (nz3 L).symm) (notIn1 (S.p.1.1.2.nl S.p.1.1.1.l)), c2, ⟨0, _, svs, sns, Nat.le_refl _, lx.keeps k2 (notIn1 e1), S.p.1.2.keeps k2 nsl, xi, hz, ne.symm, l2⟩, ll⟩ fun h h' k p => ⟨p.1.ps _ _ k, p.2.ps _ _ k⟩⟩
end
section
variable {A : Around} {hE h h' : Heap} {env : Env} {fr : Fra} {L : Addr} {F : List Addr} {P : Heap → Prop}
theorem P_rangeit {it : Addr} {n m : Int} {Q : Value → Heap → Prop} (x : IsRangeIter h it n m 1) (q : Q (.ref it) h) : W prog w A (pyIter (.ref it)) h Q :=
  W.any fun g d tk os QQ EE k => wpAny_pyIter_rangeiter (s := ⟨h, g, d, tk, os⟩) x (k _ _ _ q)
theorem B_getm_join {l : List UInt8} {t : Tok} {pl : Sem Bool} {Q : Value × List Value → Heap → Prop} (q : Q (.builtin "bytes.join", [.bytes l.toArray t]) h) : W prog w A (getMethod (.bytes l.toArray t) (Str.ofString "join") pl) h Q :=
  W_getmB TI.bytes (fun _ e => nomatch e) FB.plainAttrs_bytes FA.slot_join FA.type_join q
structure Neu (h : Heap) (x : Addr) : Prop where
  l : ∀ vs, ¬ IsL h x vs
  c : ∀ v, ¬ CellIs h x v
  k : NTok h x
  t : NTup h x
theorem Neu.fields {x : Addr} {o : Obj} {vs : Array Value} (e : h.get? x = some o) (hd : o.data = .fields vs) : Neu h x := by
  obtain ⟨a, b⟩ := NTok.fields e hd
  refine ⟨fun vs ⟨n, q⟩ => ?_, fun v ⟨o', q, d⟩ => ?_, a, b⟩
  · have := Option.some.inj (e.symm.trans q); subst this; cases hd
  · have := Option.some.inj (e.symm.trans q); subst this; rw [hd] at d; cases d
theorem Neu.ri {it : Addr} {n m : Int} (x : IsRangeIter h it n m 1) : Neu h it := Neu.fields x rfl
theorem Neu.li {it l : Addr} {i : Nat} (x : h.IsListIter it l i) : Neu h it := let ⟨o, e, _, hd⟩ := x; Neu.fields e hd
theorem Neu.ei {e it : Addr} {i : Int} {old : Value} (x : IsEnum h e it i old) : Neu h e := Neu.fields x rfl
theorem Neu.dict {x : Addr} {o : Obj} {es : Array DictEntry} {ep : Nat} (e : h.get? x = some o) (hd : o.data = .dict es ep) (k : NTok h x) : Neu h x := by
  refine ⟨fun vs ⟨n, q⟩ => ?_, fun v ⟨o', q, d⟩ => ?_, k, NTup.data e hd⟩
  · have := Option.some.inj (e.symm.trans q); subst this; cases hd
  · have := Option.some.inj (e.symm.trans q); subst this; rw [hd] at d; cases d
theorem St.neu (S : St hT hE F env fr P h) (e : (fr.lookup (Str.ofString "kind")).join = none) : Neu h env.locals := by
  have k := NTok.ns S.ns e
  obtain ⟨o, es, ep, q, d, _⟩ := S.ns
  exact Neu.dict q d k
theorem IsL.neu {a : Addr} {vs : List Value} (x : IsL h a vs) (k : Keeps h h' F) (n : ∀ x ∈ F, Neu h x) : IsL h' a vs := x.keeps k fun m => (n _ m).l _ x
theorem CellIs.neu {c : Addr} {v : Option Value} (x : CellIs h c v) (k : Keeps h h' F) (n : ∀ x ∈ F, Neu h x) : CellIs h' c v := x.keeps k fun m => (n _ m).c _ x
theorem PA.neu {la : Addr} {pz : List (List UInt8 × Tok)} (p : PA L la pz h) (k : Keeps h h' F) (n : ∀ x ∈ F, Neu h x) : PA L la pz h' := ⟨p.c.neu k n, p.l.neu k n, p.n⟩
theorem PB.neu {cup sl : Addr} {m : Nat} (p : PB L cup sl m h) (k : Keeps h h' F) (n : ∀ x ∈ F, Neu h x) : PB L cup sl m h' := by
  obtain ⟨j, t, svs, sns, z, a, b, r⟩ := p.x
  exact ⟨p.c.neu k n, ⟨j, t, svs, sns, z, a.neu k n, b.neu k n, r⟩, p.n⟩
theorem ri_nl {it a : Addr} {n m : Int} {vs : List Value} (x : IsRangeIter h it n m 1) (y : IsL h a vs) : it ≠ a := by
  rintro rfl
  exact (Neu.ri x).l _ y
theorem neu1 {a : Addr} (n : Neu h a) : ∀ x ∈ [a], Neu h x := (all1 (n))
theorem none_up {h h' : Heap} {a : Addr} (up : Grown h h') (n : h'.get? a = none) : h.get? a = none := by
  cases q : h.get? a with
  | none => rfl
  | some o => rw [up _ _ q] at n; cases n
theorem IsL.inj {a : Addr} {vs ws : List Value} (x : IsL h a vs) (y : IsL h a ws) : vs = ws := by
  obtain ⟨n, e⟩ := x
  obtain ⟨m, q⟩ := y
  have := e.symm.trans q
  simp at this
  exact this.1
theorem IsL.ne {a b : Addr} {vs ws : List Value} (x : IsL h a vs) (y : IsL h b ws) (n : vs.length ≠ ws.length) : a ≠ b := by
  rintro rfl
  exact n (congrArg List.length (x.inj y))
theorem sip_ {cup sl : Addr} {k : Nat} {b : Int} {u : Tok} {Q : Value → Heap → Prop} (G : GG w hT) (room : Room A 1) (up : Grown hT h) (B : PB L cup sl k h) (hk : k ≤ 1000) (hb : 0 < b) (nT : hT.get? cup = none)
    (q : ∀ (m : Nat) t h', (m : Int) < b → Keeps h h' [cup] → PB L cup sl (k + 1) h' → Q (.int m t) h') : W prog w A (call (.ref 532) [.ref cup, .int b u] []) h Q := by
  obtain ⟨n, t, svs, sns, z, a, b', xi, hz, ne, nl⟩ := B.x
  refine (law_sip_ G up room hb (Nat.le_trans z hk) a b' xi hz ne nT).mono ?_
  rintro _ h2 ⟨⟨m, t2, rfl, hm, t3, a2⟩, k2⟩
  exact q m t2 h2 hm k2 ⟨B.c.keeps k2 (notIn1 (B.c.nl a).symm), ⟨n + 1, t3, svs, sns, Nat.succ_le_succ z, a2, b'.keeps k2 (notIn1 ne), xi, hz, ne, nl⟩, B.n⟩
theorem PB.le {cup sl : Addr} {k k' : Nat} (B : PB L cup sl k h) (l : k ≤ k') : PB L cup sl k' h := let ⟨n, t, svs, sns, z, r⟩ := B.x; ⟨B.c, ⟨n, t, svs, sns, Nat.le_trans z l, r⟩, B.n⟩
theorem PB.cupL {cup sl : Addr} {k : Nat} (B : PB L cup sl k h) : ∃ vs, IsL h cup vs := let ⟨n, t, svs, sns, z, a, r⟩ := B.x; ⟨_, a⟩
theorem PB.slL {cup sl : Addr} {k : Nat} (B : PB L cup sl k h) : ∃ vs, IsL h sl vs := let ⟨n, t, svs, sns, z, a, b, r⟩ := B.x; ⟨_, b⟩
theorem comp_ok {scope : Scope} {names : List (Str × NameKind)} {Lc : Addr} {cl : List (Str × Addr)} {frO fr : Fra} (okE : FrOK env frO) (hk : scope.kind = .function) (h1 : ∀ p ∈ fr, names.lookup p.1 = some .local) (h2 : (fr.map (·.1)).Nodup) (h3 : ∀ p ∈ fr, (p.1 == ("__debug__" : Str)) = false) : FrOK (compEnv scope names env Lc cl) fr :=
  ⟨hk, okE.glob, okE.blt, h1, h2, h3⟩
end
noncomputable abbrev lawFr (s text found places row lexer split readers meant at_ turn rest behind : Option Value) : Fra := [(Str.ofString "script", s), (Str.ofString "text", text), (Str.ofString "found", found), (Str.ofString "places", places), (Str.ofString "row", row), (Str.ofString "lexer", lexer), (Str.ofString "split", split), (Str.ofString "readers", readers), (Str.ofString "meant", meant), (Str.ofString "at", at_), (Str.ofString "turn", turn), (Str.ofString "rest", rest), (Str.ofString "behind", behind)]
noncomputable def pcNames : List (Str × NameKind) := [(Str.ofString ".0", .local), (Str.ofString "spot", .local), (Str.ofString "_law_sip", .globalImplicit), (Str.ofString "_law_pieces", .cell), (Str.ofString "cup", .cell)]
noncomputable abbrev pcFr (v : Option Value) : Fra := [(Str.ofString ".0", none), (Str.ofString "spot", v)]
noncomputable abbrev pcCl (L : Addr) : List (Str × Addr) := [(Str.ofString "cup", L + 2), (Str.ofString "_law_pieces", L + 1)]
noncomputable abbrev pcScope : Scope := { kind := .function, names := [(Str.ofString ".0", .local), (Str.ofString "spot", .local), (Str.ofString "_law_sip", .globalImplicit), (Str.ofString "_law_pieces", .free), (Str.ofString "cup", .free)], isGenerator := false, isCoroutine := false }
section
variable {A : Around} {hE h h' : Heap} {L : Addr}
theorem pc_ok {scope : Scope} {Lc : Addr} {frO : Fra} {v : Option Value} {env : Env} {cl : List (Str × Addr)} (okE : FrOK env frO) (hk : scope.kind = .function) : FrOK (compEnv scope pcNames env Lc cl) (pcFr v) := by
  refine comp_ok okE hk (fun p m => ?_) (nodupB_iff (by kernel_rfl)) (fun p m => ?_)
  · simp only [List.mem_cons, List.not_mem_nil, or_false] at m
    rcases m with rfl | rfl <;> kernel_rfl
  · simp only [List.mem_cons, List.not_mem_nil, or_false] at m
    rcases m with rfl | rfl <;> kernel_rfl
theorem pz_get {ts : List Tok} (hts : ts.length = 17) {m : Nat} (hm : m < 17) : ∃ p t, (bvals (lawPieces.zip ts))[m]? = some (Value.bytes p.toArray t) ∧ p ∈ lawPieces := by
  have hl : (lawPieces.zip ts).length = 17 := by rw [List.length_zip, hts]; rfl
  refine ⟨(lawPieces.zip ts)[m].1, (lawPieces.zip ts)[m].2, ?_, (List.of_mem_zip (List.getElem_mem (by omega : m < (lawPieces.zip ts).length))).1⟩
  unfold bvals
  rw [List.getElem?_map, List.getElem?_eq_getElem (by omega)]
  rfl
inductive S2I (h3 : Heap) (L la cup sl acc it Lc : Addr) (N : Nat) (ts : List Tok) (n : Nat) (h1 : Heap) : Prop
  | mk (pts : List (List UInt8 × Tok)) (old : Option Value) (e : pts.length + n = N) (hp : ∀ p ∈ pts, p.1 ∈ lawPieces) (ir : IsRangeIter h1 it pts.length n 1) (xa : IsL h1 acc (bvals pts)) (pa : PA L la (lawPieces.zip ts) h1) (pb : PB L cup sl (1 + pts.length) h1)
    (S : St hT h3 [cup, it] (compEnv pcScope pcNames (lawEnv L) Lc (pcCl L)) (pcFr old) (fun _ => True) h1)
theorem law_s2 {sl0 la cup sl : Addr} {ts : List Tok} (G : GG w hT) (R : Room A 2) (S : St hT hE [] (lawEnv L) (lawFr0 (.ref sl0)) (fun h => PA L la (lawPieces.zip ts) h ∧ PB L cup sl 0 h) h) (hts : ts.length = 17) (ncE : hE.get? cup = none) (ncT : hT.get? cup = none) :
    W prog w A (exec (lawT 2) (lawEnv L)) h fun fl h' => fl = .next ∧ ∃ ps t, 4 ≤ ps.length ∧ ps.length ≤ 11 ∧ (∀ p ∈ ps, p ∈ lawPieces) ∧ St hT hE [] (lawEnv L) (lawFr (some (.ref sl0)) (some (.bytes (joinL [32] ps).toArray t)) none none none none none none none none none none none) (fun h => PB L cup sl 12 h) h' := by
  rw [lawT_eq]
  unfold lawSt lawBodyS
  dsimp only [List.drop, List.headD]
  refine W.cps fun QQ0 qq0 => ?_
  k_extra "ww"
  refine B_getm_join ?_
  refine W_w1m G kkb ?_ rfl rfl
  refine A_cons ?_ rfl
  refine W_listcomp (cl := pcCl L) (names := pcNames) ?_ ?_ ?_ rfl ?_ ?_ ?_
  · unfold closureFor
    simp only [List.forIn_cons, List.forIn_nil, cellOf, lp_ L, lc_ L, pure_bind]
    kernel_rfl
  · decide +kernel
  · rfl
  · decide +kernel
  · decide +kernel
  · k_extra "ww"
    refine W_cellName (lk_ L) (kc_ L) (lc_ L) S.p.2.c nd_c ?_
    k_extra "ww"
    refine sip_ G (R.le (by decide)) S.up S.p.2 (by decide) (by decide) ncT fun m t h1 hm k1 b1 => ?_
    have npc : la ≠ cup := by
      obtain ⟨j, t, svs, sns, z, a, _⟩ := S.p.2.x
      refine S.p.1.l.ne a ?_
      unfold bvals
      rw [List.length_map, List.length_zip, hts]
      exact fun q => absurd (show 17 = 2 from q) (by decide)
    have pc : PA L la (lawPieces.zip ts) h1 := let ⟨_, a⟩ := S.p.2.cupL; S.p.1.keeps k1 (notIn1 (S.p.1.c.nl a).symm) (notIn1 npc)
    replace S := S.step (P' := fun h => PA L la (lawPieces.zip ts) h ∧ PB L cup sl 1 h) k1 ((all1 (.inr (ncE)))) (notIn1 S.p.2.n) ⟨pc, b1⟩ (fun h h' k p => ⟨p.1.ps _ _ k, p.2.ps _ _ k⟩)
    clear pc k1 b1
    k_extra "ww"
    have eN : (4 + (m : Int)) = ((4 + m : Nat) : Int) := by omega
    rw [eN]
    have hN : 4 + m ≤ 11 := by omega
    have h4N : 4 ≤ 4 + m := by omega
    generalize 4 + m = N at hN h4N ⊢
    refine R_range fun ra t1 t2 nra h2 k2 x2 => ?_
    refine P_range x2 (by omega) fun it h3 nit k3 i3 => ?_
    have nE := (S.same k2).new nit List.not_mem_nil
    have nL := (S.same k2).ne nit
    have nT := none_up (S.same k2).up nit
    replace S := (S.same k2).same k3
    clear k2 x2 k3
    intro acc Lc h4 nacc nLc neA k4 x4 ns4
    have S4 := S.same k4
    have S0 : St hT h3 [cup, it] (compEnv pcScope pcNames (lawEnv L) Lc (pcCl L)) (pcFr none) (fun _ => True) h4 := by
      refine ⟨?_, pc_ok S.ok rfl, k4.nil, nLc, S4.up, S.up, fun a m => ?_, trivial, fun _ _ _ _ => trivial⟩
      · have : (fun x => ((pcFr none).lookup x).join) = fun _ => none := by
          funext x
          simp only [pcFr, List.lookup_cons, List.lookup_nil]
          cases x == Str.ofString ".0" <;> cases x == Str.ofString "spot" <;> rfl
        rw [this]; exact ns4
      · rcases List.mem_cons.mp m with rfl | m
        · exact ncT
        · rw [List.mem_singleton] at m; subst m; exact nT
    have i4 : IsRangeIter h4 it 0 N 1 := k4 _ _ i3 List.not_mem_nil
    have itA : it ≠ acc := (fresh_ne nacc ⟨_, i3⟩).symm
    have itL : it ≠ Lc := (fresh_ne nLc ⟨_, i3⟩).symm
    have cA : cup ≠ acc := let ⟨_, a⟩ := S.p.2.cupL; (fresh_ne nacc a.some).symm
    have lA : la ≠ acc := (fresh_ne nacc S.p.1.l.some).symm
    have sA : sl ≠ acc := let ⟨_, a⟩ := S.p.2.slL; (fresh_ne nacc a.some).symm
    have cL : cup ≠ Lc := let ⟨_, a⟩ := S.p.2.cupL; (fresh_ne nLc a.some).symm
    refine ⟨P_rangeit i4 ⟨rfl, rfl⟩, ?_⟩
    clear eN
    refine CW_down (I := S2I h3 L la cup sl acc it Lc N ts) ?_ ?_ N ⟨[], none, Nat.zero_add _, fun _ m => (nomatch m), i4, x4, S4.p.1, S4.p.2, S0⟩
    · clear S0 x4 i4 k4 S4 ns4 S
      rintro n ih h1 ⟨pts, old, en, hp, ir, xa, pa, pb, S⟩
      have u1 := Neu.ri ir
      refine CW_compturn (N_range ir (by omega) fun t5 h5 k5 i5 => ?_)
      refine W.of_eq (t' := Pure.pure ()) rfl (W.pure ?_)
      replace xa := xa.neu k5 (neu1 u1)
      replace pa := pa.neu k5 (neu1 u1)
      replace pb := pb.neu k5 (neu1 u1)
      replace S := S.step (P' := fun _ => True) k5 (fun a m => .inl (.tail _ m)) (notIn1 itL.symm) trivial (fun _ _ _ _ => trivial)
      clear k5 ir u1
      refine A_name (W_storeK S (.tail .head) fun h6 k6 S6 => ?_)
      have u2 : Neu h5 Lc := S.neu (by cases old <;> rfl)
      replace xa := xa.neu k6 (neu1 u2)
      replace pa := pa.neu k6 (neu1 u2)
      replace pb := pb.neu k6 (neu1 u2)
      have i6 : IsRangeIter h6 it _ _ 1 := k6 _ _ i5 (notIn1 itL)
      clear k6 i5 u2 S h1
      have S := S6
      clear S6
      refine W_sub ?_
      refine W_cellName rfl rfl rfl pa.c nd_p ?_
      k_extra "ww"
      refine W_cellName rfl rfl rfl pb.c nd_c ?_
      k_extra "ww"
      refine sip_ G (R.le (by decide)) S.up pb (by omega) (by decide) ncT fun m2 t6 h7 hm2 k7 b7 => ?_
      obtain ⟨cvs, cl⟩ := pb.cupL
      replace xa := xa.keeps k7 (notIn1 cA.symm)
      replace pa := pa.keeps k7 (notIn1 (pa.c.nl cl).symm) (notIn1 npc)
      have i7 : IsRangeIter h7 it _ _ 1 := k7 _ _ i6 (notIn1 (ri_nl i6 cl))
      replace S := S.step (P' := fun _ => True) k7 ((all1 (.inl (.head _)))) (notIn1 cL.symm) trivial (fun _ _ _ _ => trivial)
      clear k7 i6 cl pb
      obtain ⟨p, t7, ep, mp⟩ := pz_get hts (by omega : m2 < 17)
      have hz : (bvals (lawPieces.zip ts)).length ≤ 1000000 := by
        unfold bvals
        rw [List.length_map, List.length_zip, hts]
        exact Nat.le_of_ble_eq_true rfl
      refine L_item (j := m2) pa.l rfl ep hz ?_ (by with_unfolding_all rfl)
      have hzp : (bvals pts).length ≤ 1000000 := by unfold bvals; rw [List.length_map]; omega
      refine L_append xa hzp fun h8 k8 x8 => ?_
      have e8 : bvals pts ++ [Value.bytes p.toArray t7] = bvals (pts ++ [(p, t7)]) := by unfold bvals; rw [List.map_append]; rfl
      rw [e8] at x8
      have i8 : IsRangeIter h8 it _ _ 1 := k8 _ _ i7 (notIn1 itA)
      have e9 : ((pts.length : Int) + 1) = ((pts ++ [(p, t7)]).length : Nat) := by rw [List.length_append]; rfl
      have e10 : ((n + 1 : Nat) : Int) - 1 = (n : Nat) := by omega
      rw [e9, e10] at i8
      have b8 := b7.keeps k8 (notIn1 (b7.c.nl xa).symm) (notIn1 cA) (notIn1 sA)
      have e11 : 1 + pts.length + 1 = 1 + (pts ++ [(p, t7)]).length := by rw [List.length_append]; show _ = 1 + (pts.length + 1); omega
      rw [e11] at b8
      refine ih _ ⟨pts ++ [(p, t7)], _, by rw [List.length_append]; simp only [List.length_cons, List.length_nil]; omega, fun x mx => ?_, i8, x8, pa.keeps k8 (notIn1 (pa.c.nl xa).symm) (notIn1 lA), b8, S.step (P' := fun _ => True) k8 ((all1 (.inr (nacc)))) (notIn1 neA.symm) trivial (fun _ _ _ _ => trivial)⟩
      rcases List.mem_append.mp mx with mx | mx
      · exact hp x mx
      · rw [List.mem_singleton] at mx; subst mx; exact mp
    · clear S0 x4 i4 k4 S4 ns4
      rintro h1 ⟨pts, old, en, hp, ir, xa, pa, pb, S2⟩
      have u1 := Neu.ri ir
      refine CW_compturn (N_range_end R.hh ir (by omega) fun h5 k5 => ?_)
      have S3 := S2.step (P' := fun _ => True) k5 (fun a m => .inl (.tail _ m)) (notIn1 itL.symm) trivial (fun _ _ _ _ => trivial)
      refine ⟨_, S3.ns, fun h6 k6 => ?_⟩
      have u2 : Neu h5 Lc := S3.neu (by cases old <;> rfl)
      have xa6 := (xa.neu k5 (neu1 u1)).neu k6 (neu1 u2)
      have pb6 := ((pb.neu k5 (neu1 u1)).neu k6 (neu1 u2)).le (show 1 + pts.length ≤ 12 by omega)
      have k36 : Keeps h3 h6 [cup, it] := S3.kp.trans' k6 (all1 (.inr (nLc)))
      replace S := S.step (P' := fun h => PB L cup sl 12 h) k36 (fun a m => .inr (by rcases List.mem_cons.mp m with rfl | m; exact ncE; rw [List.mem_singleton] at m; subst m; exact nE)) (not2 S.p.2.n nL) pb6 (fun h h' k p => p.ps _ _ k)
      refine A_nil ⟨S.up, ?_⟩
      refine B_join xa6 (by omega) (by omega) (by decide) (fun p m => ?_) fun tj => ?_
      · have := hp p m
        simp only [lawPieces, List.mem_cons, List.not_mem_nil, or_false] at this
        rcases this with e | e | e | e | e | e | e | e | e | e | e | e | e | e | e | e | e <;> rw [e] <;> decide
      refine W_store S (.tail .head) fun h7 S7 => ?_
      exact qq0 _ _ ⟨rfl, pts.map (·.1), tj, by rw [List.length_map]; omega, by rw [List.length_map]; omega, fun p m => let ⟨q, mq, e⟩ := List.mem_map.mp m; e ▸ hp q mq, S7⟩
end
section
variable {A : Around} {h h' : Heap} {env : Env} {F : List Addr}
noncomputable abbrev Calm (h : Heap) (x : Addr) : Prop := NTok h x ∧ NTup h x
theorem comp_gen {elt target iter : PySem.Expr} {pos : Pos} {scope : Scope} {names : List (Str × NameKind)} {frO : Fra} {ks : List Str} {n : Nat} {I : Addr → Addr → Nat → Heap → Prop} {E : Heap → Nat → Value → Prop} {Q : Value → Heap → Prop}
    (up : Grown hT h) (okE : FrOK env frO) (hk : scope.kind = .function) (hz : n ≤ 1000)
    (hcl : closureFor scope env = Pure.pure []) (hnc : ∀ x ∈ scope.names, x.2 ≠ .cell)
    (hnm : (scope.names.map fun x => if (x.2 == .free && env.scope.kind == .function && env.kindOf x.1 == some .cell) = true then (x.1, NameKind.cell) else (x.1, x.2)) = names)
    (hnl : ∀ x ∈ scope.names, x.2 = .local → names.lookup x.1 = some .local) (hfree : ∀ x ∈ names, x.2 ≠ .free)
    (hk1 : ∀ x ∈ ks, names.lookup x = some .local) (hk2 : ks.Nodup) (hk3 : ∀ x ∈ ks, (x == ("__debug__" : Str)) = false) (hk4 : Str.ofString "kind" ∉ ks)
    (hiter : ∀ Q : Value → Heap → Prop, (∀ it jt h1, Keeps h h1 [] → I it jt 0 h1 → (∀ x ∈ [it, jt], h.get? x = none ∧ ∃ o, h1.get? x = some o) → Q (.ref it) h1) → W prog w A (eval iter env) h fun xv h1 => W prog w A (pyIter xv) h1 Q)
    (hit : ∀ it jt h1 (Q : Value → Heap → Prop), I it jt 0 h1 → Q (.ref it) h1 → W prog w A (pyIter (.ref it)) h1 Q)
    (hF : ∀ it jt i h1, I it jt i h1 → ∀ x ∈ [it, jt], Calm h1 x) (hI : ∀ it jt i h1 h2 F, I it jt i h1 → Keeps h1 h2 F → (∀ x ∈ F, x ∉ [it, jt] ∧ h.get? x = none) → I it jt i h2)
    (hE : ∀ h1 h2 F i r, E h1 i r → Keeps h1 h2 F → (∀ x ∈ F, Calm h1 x) → E h2 i r)
    (turn : ∀ it jt i h1 Lc fr, fr.map (·.1) = ks → i < n → I it jt i h1 → Lc ∉ [it, jt] → h.get? Lc = none → (∀ x ∈ [it, jt], h.get? x = none) → St hT h [it, jt] (compEnv scope names env Lc []) fr (fun _ => True) h1 →
      W prog w A (pyNext (.ref it)) h1 fun r hx => ∃ v, r = some v ∧ W prog w A (letOwnedTupleGo target (.ref it) v) hx fun _ h2 => W prog w A (assign target (compEnv scope names env Lc []) v) h2 fun _ h3 => W prog w A (eval elt (compEnv scope names env Lc [])) h3 fun x h4 =>
        I it jt (i + 1) h4 ∧ (∃ fr', fr'.map (·.1) = ks ∧ St hT h [it, jt] (compEnv scope names env Lc []) fr' (fun _ => True) h4) ∧ E h4 i x ∧ Keeps h1 h4 [Lc, it, jt])
    (fin : ∀ it jt h1, I it jt n h1 → W prog w A (pyNext (.ref it)) h1 fun r h2 => r = none ∧ Keeps h1 h2 [it, jt])
    (q : ∀ acc us h', h.get? acc = none → IsL h' acc us → us.length = n → (∀ i r, us[i]? = some r → E h' i r) → Keeps h h' [] → Q (.ref acc) h')
    (hs : ∀ x, foldedSetIterable iter env x = Pure.pure x := by intro _; rfl) :
    W prog w A (eval (.ListComp elt [⟨target, iter, [], 0⟩] scope pos) env) h Q := by
  refine W_listcomp (cl := []) (names := names) hcl hnc hnm hk hnl hfree ?_ hs
  refine hiter _ fun it jt hh k2 i2 hnew acc Lc h3' nacc nLc ne k3 x3 ns3 => ?_
  have ffr : ∀ x ∈ [it, jt], x ≠ acc ∧ x ≠ Lc := fun x m => ⟨(fresh_ne nacc (hnew x m).2).symm, (fresh_ne nLc (hnew x m).2).symm⟩
  have nacc0 := none_up k2.grown nacc
  have nLc0 := none_up k2.grown nLc
  have k13 : Keeps h h3' [] := k2.trans k3
  have i3 : I it jt 0 h3' := hI _ _ _ _ _ [] i2 k3 fun x m => nomatch m
  have nIL : Lc ∉ [it, jt] := fun m => (ffr _ m).2 rfl
  have keys0 : (ks.map fun x => (x, (none : Option Value))).map (·.1) = ks := by rw [List.map_map]; exact List.map_id _
  have hkind : ∀ fr : Fra, fr.map (·.1) = ks → (fr.lookup (Str.ofString "kind")).join = none := fun fr e => by rw [lookup_ne (by rw [e]; exact hk4)]; rfl
  have S0 : St hT h [it, jt] (compEnv scope names env Lc []) (ks.map fun x => (x, none)) (fun _ => True) h3' := by
    refine ⟨?_, comp_ok okE hk (fun p m => let ⟨x, mx, e⟩ := List.mem_map.mp m; e ▸ hk1 x mx) (by rw [keys0]; exact hk2) (fun p m => let ⟨x, mx, e⟩ := List.mem_map.mp m; e ▸ hk3 x mx), k13.nil, nLc0, fun b o e => k13 _ _ (up _ _ e) List.not_mem_nil, up, fun x m => ?_, trivial, fun _ _ _ _ => trivial⟩
    · have : (fun x => ((ks.map fun x => (x, (none : Option Value))).lookup x).join) = fun _ => none := funext fun y => join_none _ fun p m => let ⟨x, mx, e⟩ := List.mem_map.mp m; e ▸ rfl
      rw [this]; exact ns3
    · exact none_up up (hnew x m).1
  refine ⟨hit _ _ _ _ i3 ⟨rfl, rfl⟩, ?_⟩
  refine CW_down (I := fun m h1 => ∃ us : List Value, us.length + m = n ∧ I it jt us.length h1 ∧ IsL h1 acc us ∧ (∀ i r, us[i]? = some r → E h1 i r) ∧ ∃ fr, fr.map (·.1) = ks ∧ St hT h [it, jt] (compEnv scope names env Lc []) fr (fun _ => True) h1) ?_ ?_ n ⟨[], Nat.zero_add _, i3, x3, fun _ _ e => by simp at e, _, keys0, S0⟩
  · rintro m ih h4 ⟨us, en, ii, xa, ee, fr, ek, S⟩
    refine CW_compturn ((turn it jt us.length h4 Lc fr ek (by omega) ii nIL nLc0 (fun x m => (hnew x m).1) S).mono ?_)
    rintro r h5 ⟨v, rfl, H⟩
    refine H.mono fun _ h6 H => H.mono fun _ h7 H => H.mono ?_
    rintro x h8 ⟨i8, ⟨fr', ek', S8⟩, e8, k8⟩
    have cL : Calm h4 Lc := ⟨NTok.ns S.ns (hkind _ ek), NTup.ns S.ns⟩
    have cal : ∀ y ∈ [Lc, it, jt], Calm h4 y := fun y m => by
      rcases List.mem_cons.mp m with rfl | m
      · exact cL
      · exact hF _ _ _ _ ii y m
    have xa8 : IsL h8 acc us := xa.keeps k8 (fun m => by
      rcases List.mem_cons.mp m with rfl | m
      · exact ne rfl
      · exact (ffr _ m).1 rfl)
    refine L_append xa8 (by omega) fun h9 k9 x9 => ?_
    have cA : ∀ y ∈ [acc], Calm h8 y := (all1 ⟨NTok.list xa8, NTup.list xa8⟩)
    have nA : ∀ y ∈ [acc], y ∉ [it, jt] ∧ h.get? y = none := (all1 ⟨fun mm => (ffr _ mm).1 rfl, nacc0⟩)
    have ll : (us ++ [x]).length = us.length + 1 := by rw [List.length_append]; rfl
    refine ih _ ⟨us ++ [x], by omega, ll ▸ hI _ _ _ _ _ _ i8 k9 nA, x9, fun i r e => ?_, fr', ek', S8.step (P' := fun _ => True) k9 (fun a m => .inr (nA a m).2) (notIn1 ne.symm) trivial (fun _ _ _ _ => trivial)⟩
    rw [List.getElem?_append] at e
    split at e
    · exact hE _ _ _ _ _ (hE _ _ _ _ _ (ee i r e) k8 cal) k9 cA
    · rename_i hlt
      have : i = us.length := by
        have := (List.getElem?_eq_some_iff.mp e).1
        simp only [List.length_cons, List.length_nil] at this
        omega
      subst this
      rw [Nat.sub_self] at e
      cases e
      exact hE _ _ _ _ _ e8 k9 cA
  · rintro h4 ⟨us, en, ii, xa, ee, fr, ek, S⟩
    have en' : us.length = n := by omega
    rw [en'] at ii
    refine CW_compturn ((fin it jt h4 ii).mono ?_)
    rintro r h5 ⟨rfl, k5⟩
    have S5 := S.step (P' := fun _ => True) k5 (fun a m => .inl m) nIL trivial (fun _ _ _ _ => trivial)
    refine ⟨_, S5.ns, fun h6 k6 => ?_⟩
    have cF : ∀ y ∈ [it, jt], Calm h4 y := hF _ _ _ _ ii
    have cL : ∀ y ∈ [Lc], Calm h5 y := (all1 ⟨NTok.ns S5.ns (hkind _ ek), NTup.ns S5.ns⟩)
    have kk : Keeps h h6 [] := fun b o e _ => k6 b o (S5.kp b o e fun m => by rw [(hnew b m).1] at e; cases e) (notIn1 (fun q => by subst q; rw [nLc0] at e; cases e))
    exact q acc us h6 nacc0 ((xa.keeps k5 (fun m => (ffr _ m).1 rfl)).keeps k6 (notIn1 ne)) en' (fun i r e => hE _ _ _ _ _ (hE _ _ _ _ _ (ee i r e) k5 cF) k6 cL) kk
theorem keys1 {a : Str} {l : List Str} {fr : Fra} (e : fr.map (·.1) = a :: l) : ∃ u r, fr = (a, u) :: r ∧ r.map (·.1) = l := by
  cases fr with
  | nil => cases e
  | cons p r => exact ⟨p.2, r, by rw [← (List.cons.inj e).1], (List.cons.inj e).2⟩
theorem keys0 {fr : Fra} (e : fr.map (·.1) = []) : fr = [] := List.map_eq_nil_iff.mp e
theorem keys2 {a b : Str} {fr : Fra} (e : fr.map (·.1) = [a, b]) : ∃ u v, fr = [(a, u), (b, v)] :=
  let ⟨u, r, e1, e⟩ := keys1 e
  let ⟨v, s, e2, e⟩ := keys1 e
  ⟨u, v, by rw [e1, e2, keys0 e]⟩
theorem keys3 {a b c : Str} {fr : Fra} (e : fr.map (·.1) = [a, b, c]) : ∃ u v w, fr = [(a, u), (b, v), (c, w)] :=
  let ⟨u, r, e1, e⟩ := keys1 e
  let ⟨v, w, e2⟩ := keys2 e
  ⟨u, v, w, by rw [e1, e2]⟩
end
structure FoundV (h : Heap) (vs : List Value) (toks : List (Int × TV)) : Prop where
  len : vs.length = toks.length
  at_ : ∀ (i : Nat) (k : Int) (tv : TV), toks[i]? = some (k, tv) → ∃ v, vs[i]? = some v ∧ TokV h v k tv
theorem FoundX.v {L : Addr} {h : Heap} {vs : List Value} {toks : List (Int × TV)} (D : FoundX L h vs toks) : FoundV h vs toks := ⟨D.len, fun i k tv e => let ⟨v, a, b⟩ := D.at_ i k tv e; ⟨v, a, b.v⟩⟩
theorem FoundV.keeps {h h' : Heap} {vs : List Value} {toks : List (Int × TV)} {F : List Addr} (D : FoundV h vs toks) (K : Keeps h h' F) (n : ∀ x ∈ F, NTok h x) : FoundV h' vs toks := ⟨D.len, fun i k tv e => let ⟨v, a, b⟩ := D.at_ i k tv e; ⟨v, a, b.keeps K n⟩⟩
structure LF (L cup sl fl pl : Addr) (k : Nat) (fvs pvs : List Value) (l : List (Int × TV × Nat)) (h : Heap) : Prop where
  pb : PB L cup sl k h
  f : IsL h fl fvs
  p : IsL h pl pvs
  D : FoundV h fvs (toksOf l)
  pi : Ints pvs (placesOf l)
  nf : fl ≠ cup
  np : pl ≠ cup
section
variable {A : Around} {hE h h' : Heap} {L cup sl fl pl : Addr} {k : Nat} {fvs pvs : List Value} {l : List (Int × TV × Nat)} {F : List Addr}
theorem LF.neu (x : LF L cup sl fl pl k fvs pvs l h) (K : Keeps h h' F) (n : ∀ x ∈ F, Neu h x) : LF L cup sl fl pl k fvs pvs l h' :=
  ⟨x.pb.neu K n, x.f.neu K n, x.p.neu K n, x.D.keeps K fun y m => (n y m).k, x.pi, x.nf, x.np⟩
theorem LF.grown (x : LF L cup sl fl pl k fvs pvs l h) (K : Keeps h h' []) : LF L cup sl fl pl k fvs pvs l h' := x.neu K fun _ m => nomatch m
theorem LF.sip (x : LF L cup sl fl pl k fvs pvs l h) {k' : Nat} (K : Keeps h h' [cup]) (b : PB L cup sl k' h') : LF L cup sl fl pl k' fvs pvs l h' := by
  obtain ⟨_, c⟩ := x.pb.cupL
  refine ⟨b, x.f.keeps K (notIn1 x.nf), x.p.keeps K (notIn1 x.np), x.D.keeps K fun y m => ?_, x.pi, x.nf, x.np⟩
  rw [List.mem_singleton] at m; subst m; exact NTok.list c
theorem law_s3 {sl0 : Value} {T : List UInt8} {t : Tok} (G : GG w hT) (R : Room A 9) (S : St hT hE [] (lawEnv L) (lawFr (some sl0) (some (.bytes T.toArray t)) none none none none none none none none none none none) (fun h => PB L cup sl k h) h)
    (hz : T.length ≤ 900) (hl : l.length ≤ 900) (lx : Lexes T 0 l) :
    W prog w A (exec (lawT 3) (lawEnv L)) h fun f h' => f = .next ∧ ∃ fl pl fvs pvs, St hT hE [] (lawEnv L) (lawFr (some sl0) (some (.bytes T.toArray t)) (some (.ref fl)) (some (.ref pl)) none none none none none none none none none) (fun _ => True) h' ∧ LF L cup sl fl pl k fvs pvs l h' := by
  rw [lawT_eq]
  unfold lawSt lawBodyS
  dsimp only [List.drop, List.headD]
  refine W.cps fun QQ0 qq0 => ?_
  refine W_asg2 R.hh ?_
  k_extra "ww"
  refine (law_tokens_ G S.up R hz hl lx).mono ?_
  rintro _ h1 ⟨⟨a, fl, pl, fvs, pvs, rfl, xt, xf, ⟨L', D⟩, xp, pi, nf, np⟩, k1⟩
  refine ⟨a, _, _, rfl, xt, fun h2 k2 => ?_⟩
  obtain ⟨_, cl⟩ := S.p.cupL
  have F2 : LF L cup sl fl pl k fvs pvs l h2 := LF.grown ⟨S.p.keeps k1 List.not_mem_nil List.not_mem_nil List.not_mem_nil, xf, xp, D.v, pi, (fresh_ne nf cl.some), (fresh_ne np cl.some)⟩ k2
  have S2 := ((S.same k1).same k2).turn (P' := fun _ => True) trivial (fun _ _ _ _ => trivial)
  refine W_storeK S2 (.tail (.tail .head)) fun h3 k3 S3 => ?_
  have F3 := F2.neu k3 (neu1 (S2.neu rfl))
  refine W_storeK S3 (.tail (.tail (.tail .head))) fun h4 k4 S4 => ?_
  exact qq0 _ _ ⟨rfl, fl, pl, fvs, pvs, S4, F3.neu k4 (neu1 (S3.neu rfl))⟩
end
noncomputable abbrev tk3 : List (Str × NameKind) := [(Str.ofString ".0", .local), (Str.ofString "at", .local), (Str.ofString "token", .local)]
noncomputable abbrev EnI (fl : Addr) (fvs : List Value) (e jt : Addr) (i : Nat) (h : Heap) : Prop := (∃ old, IsEnum h e jt i old) ∧ h.IsListIter jt fl i ∧ IsL h fl fvs ∧ e ≠ jt
noncomputable abbrev PairE (toks : List (Int × TV)) (h : Heap) (i : Nat) (r : Value) : Prop := ∀ k tv, toks[i]? = some (k, tv) → ∃ p a ln t, r = .ref p ∧ IsT h p [.ref a, .int ln t] ∧ TokAt h a k tv ∧ 0 ≤ ln ∧ ln ≤ 20
theorem EnI.move {fl : Addr} {fvs : List Value} {e jt : Addr} {i : Nat} {h h' : Heap} {F : List Addr} (x : EnI fl fvs e jt i h) (k : Keeps h h' F) (n1 : e ∉ F) (n2 : jt ∉ F) (n3 : fl ∉ F) : EnI fl fvs e jt i h' :=
  let ⟨⟨o, a⟩, ⟨u, b, c⟩, d, e⟩ := x
  ⟨⟨o, k _ _ a n1⟩, ⟨u, k _ _ b n2, c⟩, d.keeps k n3, e⟩
section
variable {A : Around} {hE h h' : Heap} {L cup sl fl pl : Addr} {k : Nat} {fvs pvs : List Value} {l : List (Int × TV × Nat)} {F : List Addr}
structure L4 (prog : Program) (w : World) (hT hE : Heap) (oz : Value → Nat ⊕ List UInt8) (toks : List (Int × TV)) (L : Addr) (cs : List Addr) (a : Nat) (ρ : List RD) (r dr pl2 : Addr) (X : LX) (bl : Addr) (j : LJ) (lcur : Value) (T : List UInt8) (h : Heap) : Prop where
  Rd : Reader prog w hT oz toks h (.ref r) a [r, dr, pl2] [dr]
  c : LexC prog w hT h X bl [] (lexAl X 0 (sgn X.T 0) j bl lcur .none)
  jk : j.ok 0
  eT : X.T = T
  nL : ∀ x ∈ [X.l, X.dl, X.lim, X.dlim, X.kd, bl, r, dr, pl2], L ≠ x ∧ (∀ y ∈ cs, y ≠ x) ∧ hE.get? x = none ∧ ∀ q ∈ ρ, x ∉ q.D
  sep : ∀ x ∈ [X.l, X.dl, X.lim, X.dlim, X.kd, bl], x ∉ [r, dr, pl2]
theorem L4.move {cs : List Addr} {a : Nat} {ρ : List RD} {oz : Value → Nat ⊕ List UInt8} {toks : List (Int × TV)} {r dr pl2 bl : Addr} {X : LX} {j : LJ} {lcur : Value} {T : List UInt8} (x : L4 prog w hT hE oz toks L cs a ρ r dr pl2 X bl j lcur T h) (k : Keeps h h' [L]) (n : Neu h L) : L4 prog w hT hE oz toks L cs a ρ r dr pl2 X bl j lcur T h' := by
  refine ⟨x.Rd.keeps k fun y m => ?_, x.c.keeps k ⟨?_, ?_, ?_, ?_, ?_, ?_⟩, x.jk, x.eT, x.nL, x.sep⟩
  · rw [List.mem_singleton] at m; subst m
    refine ⟨n.k, n.t, fun m => ?_⟩
    exact (x.nL _ (by simp only [List.mem_cons, List.not_mem_nil, or_false] at m ⊢; rcases m with h | h | h <;> simp [h])).1 rfl
  all_goals exact notIn1 (Ne.symm (x.nL _ (by simp)).1)
theorem law_s4 {sl0 : Value} {T : List UInt8} {t : Tok} (G : GG w hT) (R : Room A 9) (S : St hT hE [] (lawEnv L) (lawFr (some sl0) (some (.bytes T.toArray t)) (some (.ref fl)) (some (.ref pl)) none none none none none none none none none) (fun _ => True) h) (X : LF L cup sl fl pl k fvs pvs l h)
    (hz : T.length ≤ 900) (hl : l.length ≤ 11) (lx : Lexes T 0 l) :
    W prog w A (exec (lawT 4) (lawEnv L)) h fun f h' => f = .next ∧ ∃ r dr pl2 X bl j lcur, St hT hE [] (lawEnv L) (lawFr (some sl0) (some (.bytes T.toArray t)) (some (.ref fl)) (some (.ref pl)) (some (.ref r)) (some (.ref X.l)) none none none none none none none) (fun _ => True) h' ∧ LF L cup sl fl pl k fvs pvs l h' ∧ L4 prog w hT hE (fun v => if v = .ref r then .inl 0 else .inr T) (toksOf l) L [cup] 0 [] r dr pl2 X bl j lcur T h' := by
  have hfl : fvs.length ≤ 11 := by rw [X.D.len]; unfold toksOf; rw [List.length_map]; exact hl
  rw [lawT_eq]
  unfold lawSt lawBodyS
  dsimp only [List.drop, List.headD]
  refine W.cps fun QQ0 qq0 => ?_
  refine W_asg2s R.hh ?_
  k_extra "ww"
  refine comp_gen (names := tk3) (ks := [Str.ofString ".0", Str.ofString "at", Str.ofString "token"]) (n := fvs.length) (I := EnI fl fvs) (E := PairE (toksOf l)) S.up S.ok rfl (by omega) (closureFor_none (by decide)) (by decide) rfl (by decide +kernel) (by decide) (by decide +kernel) (nodupB_iff (by kernel_rfl)) (by decide +kernel) (by decide +kernel) ?_ ?_ ?_ ?_ ?_ ?_ ?_ ?_
  · intro Q q
    k_extra "ww"
    refine C_enum X.f fun e it h1 ne nit neq k1 ie li => P_enum ie (q e it h1 k1 ⟨⟨_, ie⟩, li, X.f.keeps k1 List.not_mem_nil, neq⟩ fun x m => ?_)
    rcases List.mem_cons.mp m with rfl | m
    · exact ⟨ne, _, ie⟩
    · rw [List.mem_singleton] at m; subst m; obtain ⟨o, a, _⟩ := li; exact ⟨nit, o, a⟩
  · intro it jt h1 Q i q
    obtain ⟨⟨o, a⟩, _⟩ := i
    exact P_enum a q
  · intro it jt i h1 ii x m
    obtain ⟨⟨o, a⟩, li, _⟩ := ii
    rcases List.mem_cons.mp m with rfl | m
    · exact NTok.fields a rfl
    · rw [List.mem_singleton] at m; subst m; exact NTok.iter li
  · intro it jt i h1 h2 F ii K n
    have q : ∀ x ∈ [it, jt], x ∉ F := fun x m mm => (n x mm).1 m
    refine ii.move K (q _ (.head _)) (q _ (.tail _ (.head _))) fun m => ?_
    obtain ⟨o, e⟩ := X.f.some
    rw [(n _ m).2] at e; cases e
  · intro h1 h2 F i r e K n k tv ek
    obtain ⟨p, a, ln, t, e1, e2, e3, e4⟩ := e k tv ek
    exact ⟨p, a, ln, t, e1, e2.keep K fun x m => (n x m).2, e3.keeps K fun x m => (n x m).1, e4⟩
  · rintro e jt i h1 Lc fr ek hi ⟨⟨old, ie⟩, li, xl, ne⟩ nL nLh hnw S2
    obtain ⟨u0, u1, u2, rfl⟩ := keys3 ek
    obtain ⟨v, hv⟩ : ∃ v, fvs[i]? = some v := ⟨_, List.getElem?_eq_getElem hi⟩
    have nLe : Lc ≠ e := fun q => nL (q ▸ .head _)
    have nLj : Lc ≠ jt := fun q => nL (q ▸ .tail _ (.head _))
    refine N_enum ie li xl hv ne fun a t h2 k2 eo li2 tu na => ⟨_, rfl, ?_⟩
    refine G_enum eo fun h3 k3 e3 => ?_
    have tr : a ≠ e := by rintro rfl; cases na.symm.trans ie
    have tj : a ≠ jt := by rintro rfl; obtain ⟨o, q, _⟩ := li; rw [na] at q; cases q
    have K13 : Keeps h1 h3 [e, jt] := k2.trans (k3.mono (all1 (.head _)))
    have hF2 : ∀ b ∈ [e, jt], b ∈ [e, jt] ∨ h.get? b = none := fun b m => .inl m
    have I3 : EnI fl fvs e jt (i + 1) h3 := by
      obtain ⟨o, q, r⟩ := li2
      exact ⟨⟨_, by rw [show ((i + 1 : Nat) : Int) = (i : Int) + 1 by omega]; exact e3⟩, ⟨o, k3 _ _ q (notIn1 (Ne.symm ne)), r⟩, xl.keeps K13 (not2 (fun q => (Neu.ei ie).l _ (q ▸ xl)) (fun q => (Neu.li li).l _ (q ▸ xl))), ne⟩
    have S3 := S2.step (P' := fun _ => True) K13 hF2 nL trivial (fun _ _ _ _ => trivial)
    have C3 : ∀ x ∈ [e, jt], Calm h1 x := fun x m => by
      rcases List.mem_cons.mp m with rfl | m
      · exact NTok.fields ie rfl
      · rw [List.mem_singleton] at m; subst m; exact NTok.iter li
    refine A_tup2 R.hh (tu.keeps k3 (notIn1 tr)) fun h4 k4 => ?_
    have S4 := S3.same k4
    have I4 := I3.move k4 List.not_mem_nil List.not_mem_nil List.not_mem_nil
    have nfl : ∀ {hh : Heap} {fr : Fra}, St hT h [e, jt] (compEnv { kind := .function, names := tk3, isGenerator := false, isCoroutine := false } tk3 (lawEnv L) Lc []) fr (fun _ => True) hh → IsL hh fl fvs → fl ≠ Lc := fun S xl q => by subst q; obtain ⟨o, es, ep, z, d, _⟩ := S.ns; obtain ⟨n, z2⟩ := xl; rw [z] at z2; have := Option.some.inj z2; subst this; cases d
    refine W_storeK S4 (.tail .head) fun h5 k5 S5 => ?_
    have I5 := I4.move k5 (notIn1 nLe.symm) (notIn1 nLj.symm) (notIn1 (nfl S4 I4.2.2.1))
    refine W_storeK S5 (.tail (.tail .head)) fun h6 k6 S6 => ?_
    have I6 := I5.move k6 (notIn1 nLe.symm) (notIn1 nLj.symm) (notIn1 (nfl S5 I5.2.2.1))
    have K46 : Keeps h1 h6 [Lc, e, jt] := ((K13.mono (F' := [Lc, e, jt]) fun x m => .tail _ m).trans k4.nil).trans ((k5.mono (all1 (.head _))).trans (k6.mono (all1 (.head _))))
    have S7 := S6.turn (P' := fun h => EnI fl fvs e jt (i + 1) h ∧ Keeps h1 h [Lc, e, jt]) ⟨I6, K46⟩ fun h h' k p => ⟨p.1.move k (notIn1 nLe.symm) (notIn1 nLj.symm) (notIn1 (nfl S6 I6.2.2.1)), p.2.trans (k.mono (all1 (.head _)))⟩
    clear S2 S3 S4 S5 S6 S
    have S := S7
    clear S7 I3 I4 I5 I6 K13 K46
    k_extra "ww"
    refine ⟨S.p.1, ⟨_, rfl, S.turn (P' := fun _ => True) trivial (fun _ _ _ _ => trivial)⟩, fun kk tv ek => ?_, S.p.2⟩
    obtain ⟨v', e1, T1⟩ := X.D.at_ i kk tv ek
    obtain rfl : v = v' := Option.some.inj (hv.symm.trans e1)
    obtain ⟨a0, rfl, T2⟩ := T1.keeps S.kp fun x m => NTok.none (hnw x m)
    have hi11 : i < 11 := by omega
    have e2 : (1 + Int.fdiv (i : Int) 2) = 1 + (i : Int) / 2 := by rw [Int.fdiv_eq_ediv_of_nonneg _ (by omega)]
    exact ⟨a1, a0, _, _, rfl, x1, T2, by rw [e2]; omega, by rw [e2]; omega⟩
  · rintro it jt h1 ⟨⟨o, a⟩, li, xl, ne⟩
    exact N_enum_end R.hh a li xl (Nat.le_refl _) fun h2 k2 => ⟨rfl, k2.mono (all1 (.tail _ (.head _)))⟩
  · intro acc us h1 nacc xacc ulen E1 k1
    have ltok : (toksOf l).length = l.length := by unfold toksOf; rw [List.length_map]
    have D1 : DataAt h1 us (toksOf l) := ⟨by rw [ulen, X.D.len], by omega, fun i kk tv e => by
      have hi : i < us.length := by rw [ulen, X.D.len]; exact (List.getElem?_eq_some_iff.mp e).1
      obtain ⟨p, a, ln, t, e1, e2⟩ := E1 i _ (List.getElem?_eq_getElem hi) kk tv e
      exact ⟨p, a, ln, t, by rw [List.getElem?_eq_getElem hi, e1], e2⟩⟩
    have S0 := S
    have cup0 := X.pb.cupL
    replace S := S.same k1
    replace X := X.grown k1
    refine A_nil ⟨S.up, ?_⟩
    refine (row_new_ G S.up (R.le (by decide)) xacc D1).mono ?_
    rintro _ h2 ⟨⟨r, dr, cur, rfl, R2, T2, nr, ndr⟩, k2⟩
    have ndT := none_up S.up ndr
    replace S := S.same k2
    replace X := X.grown k2
    have Rd : Reader prog w hT (fun v => if v = .ref r then .inl 0 else .inr T) (toksOf l) h2 (.ref r) 0 [r, dr, acc] [dr] :=
      .row r dr acc 0 0 0 cur us (toksOf l) ⟨R2, xacc.keeps k2 List.not_mem_nil, D1.keeps k2 (fun x m => nomatch m), fun n => by rw [Nat.zero_add], rfl, T2, ndT, by omega⟩ (by rw [if_pos rfl])
    have has2 := Rd.has
    have k2' := k2
    clear k2
    k_extra "ww"
    refine (lim_new_ G S.up (R.le (by decide))).mono ?_
    rintro _ h3 ⟨⟨lim, dlim, rfl, nl1, nl2, LM⟩, k3⟩
    replace S := S.same k3
    refine A_nil ⟨S.up, ?_⟩
    refine (lex_new_ G S.up (R.le (by decide)) hz LM).mono ?_
    rintro _ h4 ⟨⟨Y, bl, lcur, j, rfl, eT, el, c, jk, TL, y1, y2, y3, y4, ed⟩, k4⟩
    replace S := S.same k4
    have K24 : Keeps h2 h4 [] := k3.trans k4
    have sp : ∀ x ∈ [Y.l, Y.dl, Y.lim, Y.dlim, Y.kd, bl], h2.get? x = none := fun x m => by
      simp only [List.mem_cons, List.not_mem_nil, or_false] at m
      rcases m with rfl | rfl | rfl | rfl | rfl | rfl
      · exact none_up k3.grown y1
      · exact none_up k3.grown y2
      · rw [el]; exact nl1
      · rw [ed]; exact nl2
      · exact none_up k3.grown y4
      · exact none_up k3.grown y3
    have new9 : ∀ x ∈ [Y.l, Y.dl, Y.lim, Y.dlim, Y.kd, bl, r, dr, acc], h.get? x = none := fun x m => by
      have q : x ∈ [Y.l, Y.dl, Y.lim, Y.dlim, Y.kd, bl] ∨ x = r ∨ x = dr ∨ x = acc := by
        simp only [List.mem_cons, List.not_mem_nil, or_false] at m ⊢
        rcases m with h | h | h | h | h | h | h | h | h <;> simp [h]
      rcases q with q | rfl | rfl | rfl
      · exact none_up (k1.trans k2').grown (sp x q)
      · exact none_up k1.grown nr
      · exact none_up k1.grown ndr
      · exact nacc
    refine A_nil ⟨Nat.le_of_ble_eq_true rfl, fun a h5 na k5 xt => ⟨a, _, _, rfl, xt, fun h6 k6 => ?_⟩⟩
    have K46 : Keeps h4 h6 [] := k5.trans k6
    have N : L4 prog w hT hE (fun v => if v = .ref r then .inl 0 else .inr T) (toksOf l) L [cup] 0 [] r dr acc Y bl j lcur T h6 :=
      ⟨Rd.keeps (K24.trans K46) fun x m => (nomatch m), c.keeps K46 ⟨List.not_mem_nil, List.not_mem_nil, List.not_mem_nil, List.not_mem_nil, List.not_mem_nil, List.not_mem_nil⟩, jk, eT, fun x m => ⟨S0.ne (new9 x m), (fun y my => by rw [List.mem_singleton] at my; subst my; obtain ⟨_, cl⟩ := cup0; exact (fresh_ne (new9 x m) cl.some).symm), none_up S0.kp.grown (new9 x m), fun q m => nomatch m⟩, fun x m mm => by
        obtain ⟨o, e⟩ := has2 x mm
        rw [sp x m] at e; cases e⟩
    replace S := S.same K46
    replace X := X.grown (K24.trans K46)
    refine W_storeK S (.tail (.tail (.tail (.tail (.tail .head))))) fun h7 k7 S7 => ?_
    have n6 := S.neu (by rfl)
    refine W_storeK S7 (.tail (.tail (.tail (.tail .head)))) fun h8 k8 S8 => ?_
    have n7 := S7.neu (by rfl)
    exact qq0 _ _ ⟨rfl, r, dr, acc, Y, bl, j, lcur, S8, (X.neu k7 (neu1 n6)).neu k8 (neu1 n7), (N.move k7 n6).move k8 n7⟩
end
noncomputable def NF (h : Heap) (x : Addr) : Prop := ∀ o vs, h.get? x = some o → o.data ≠ .fields vs
theorem NF.list {h : Heap} {x : Addr} {vs : List Value} (e : IsL h x vs) : NF h x := fun o ws q d => by
  obtain ⟨n, e⟩ := e
  have := Option.some.inj (e.symm.trans q); subst this; cases d
theorem NF.dict {h : Heap} {x : Addr} {o : Obj} {es : Array DictEntry} {ep : Nat} (e : h.get? x = some o) (hd : o.data = .dict es ep) : NF h x := fun o' ws q d => by
  have := Option.some.inj (e.symm.trans q); subst this; rw [hd] at d; cases d
theorem NF.buf {h : Heap} {x : Addr} {bs : List UInt8} (e : IsB h x bs) : NF h x := fun o ws q d => by
  have := Option.some.inj (e.symm.trans q); subst this; cases d
theorem Neu.buf {h : Heap} {x : Addr} {bs : List UInt8} (e : IsB h x bs) : Neu h x := by
  refine ⟨fun vs ⟨n, q⟩ => ?_, fun v ⟨o', q, d⟩ => ?_, NTok.buf e, NTup.buf e⟩
  · have := e.symm.trans q; simp [baO] at this
  · have := Option.some.inj (e.symm.trans q); subst this; cases d
section
variable {A : Around} {hE h h' : Heap} {oz : Value → Nat ⊕ List UInt8} {toks : List (Int × TV)} {v : Value} {a : Nat} {D M F : List Addr} {ρ : List RD} {L cup sl fl pl : Addr} {k : Nat} {fvs pvs : List Value} {l : List (Int × TV × Nat)}
theorem LexC.neu {X : LX} {bl : Addr} {bs : List UInt8} {al : List (Str × Value)} (c : LexC prog w hT h X bl bs al) (e : al.lookup (Str.ofString "kind") = none) : ∀ x ∈ [X.dl, bl], Neu h x := fun x m => by
  rcases List.mem_cons.mp m with rfl | m
  · obtain ⟨es, ep, q, _⟩ := c.i.ad
    exact Neu.dict q rfl (NTok.ad c.i.ad e)
  · rw [List.mem_singleton] at m; subst m; exact Neu.buf c.b
theorem Reader.neu (R : Reader prog w hT oz toks h v a D M) : ∀ x ∈ M, Neu h x := by
  cases R with
  | row r dr pl i off a cur vs tk x ho =>
    obtain ⟨j, I, jk⟩ := x.R
    intro y m
    rw [List.mem_singleton] at m
    subst m
    obtain ⟨es, ep, q, _⟩ := I.ad
    exact Neu.dict q rfl (NTok.ad I.ad rfl)
  | lex X bl bs pos j cur ahead a x ho => exact x.c.neu rfl
theorem RLs.neu (R : RLs prog w hT oz toks h ρ) : ∀ x ∈ muts ρ, Neu h x := fun x m => by
  obtain ⟨r, mr, mx⟩ := List.mem_flatMap.mp m
  exact (R.ok r mr).neu x mx
theorem lex_first {X : LX} {bl : Addr} {j : LJ} {cur : Value} {l' : List (Int × TV × Nat)} (G : GG w hT) (up : Grown hT h) (room : Room A 8) (c : LexC prog w hT h X bl [] (lexAl X 0 (sgn X.T 0) j bl cur .none)) (jk : j.ok 0) (ho : oz (.ref X.l) = .inr X.T)
    (lx : Lexes X.T 0 l') (el : toksOf l' = toks.drop a) :
    W prog w A (call (.ref 287) [.ref X.l] []) h fun r h' => ∃ bl', (bl' = bl ∨ h.get? bl' = none) ∧ Keeps h h' [X.dl, bl] ∧ Reader prog w hT oz toks h' (.ref X.l) a [X.l, X.dl, X.lim, X.dlim, X.kd, bl'] [X.dl, bl'] := by
  obtain ⟨n, q, k, tv, p', sk, tk, e1, ⟨l2, lx2, el2⟩, fin', hle⟩ := toksOf_first lx el
  refine (lex_next_n G up room sk tk c jk).mono ?_
  rintro r h2 ⟨t2, bs2, hb2, j2, bl2, lc, jk2, kk, nb⟩
  have t2' : TokV h2 r (tokN toks a).1 (tokN toks a).2 := by rw [e1]; exact t2
  exact ⟨bl2, nb, kk, .lex X bl2 bs2 p' j2 r .none _ ⟨lc, jk2, hb2, hle, t2', .inl ⟨rfl, ⟨l2, lx2, el2⟩, fun hh => fin' hh⟩⟩ ho⟩
structure LRs (prog : Program) (w : World) (hT : Heap) (oz : Value → Nat ⊕ List UInt8) (toks : List (Int × TV)) (L cup : Addr) (ρ : List RD) (h : Heap) : Prop where
  R : RLs prog w hT oz toks h ρ
  n : ∀ r ∈ ρ, L ∉ r.D ∧ cup ∉ r.D
theorem LRs.keeps (x : LRs prog w hT oz toks L cup ρ h) (K : Keeps h h' F) (n : ∀ y ∈ F, Calm h y ∧ ∀ r ∈ ρ, y ∉ r.D) : LRs prog w hT oz toks L cup ρ h' := ⟨x.R.keeps K fun y m => ⟨(n y m).1.1, (n y m).1.2, (n y m).2⟩, x.n⟩
theorem LRs.loc (x : LRs prog w hT oz toks L cup ρ h) (K : Keeps h h' [L]) (n : Neu h L) : LRs prog w hT oz toks L cup ρ h' := x.keeps K (all1 ⟨⟨n.k, n.t⟩, fun r mr => (x.n r mr).1⟩)
theorem LRs.grown (x : LRs prog w hT oz toks L cup ρ h) (K : Keeps h h' []) : LRs prog w hT oz toks L cup ρ h' := x.keeps K fun _ m => nomatch m
theorem LRs.sip (x : LRs prog w hT oz toks L cup ρ h) (K : Keeps h h' [cup]) (c : ∃ vs, IsL h cup vs) : LRs prog w hT oz toks L cup ρ h' := x.keeps K fun y m => by rw [List.mem_singleton] at m; subst m; obtain ⟨_, c⟩ := c; exact ⟨⟨NTok.list c, NTup.list c⟩, fun r mr => (x.n r mr).2⟩
structure Two (prog : Program) (w : World) (hT hE : Heap) (oz : Value → Nat ⊕ List UInt8) (toks : List (Int × TV)) (L : Addr) (cs : List Addr) (a : Nat) (ρ : List RD) (r dr pl2 : Addr) (X : LX) (bl : Addr) (h : Heap) : Prop where
  R1 : Reader prog w hT oz toks h (.ref r) a [r, dr, pl2] [dr]
  R2 : Reader prog w hT oz toks h (.ref X.l) a [X.l, X.dl, X.lim, X.dlim, X.kd, bl] [X.dl, bl]
  n1 : ∀ x ∈ [r, dr, pl2], L ≠ x ∧ (∀ y ∈ cs, y ≠ x) ∧ hE.get? x = none ∧ ∀ q ∈ ρ, x ∉ q.D
  n2 : ∀ x ∈ [X.l, X.dl, X.lim, X.dlim, X.kd, bl], (L ≠ x ∧ (∀ y ∈ cs, y ≠ x) ∧ hE.get? x = none ∧ ∀ q ∈ ρ, x ∉ q.D) ∧ x ∉ [r, dr, pl2]
theorem Two.off {cs : List Addr} {r dr pl2 bl : Addr} {X : LX} (x : Two prog w hT hE oz toks L cs a ρ r dr pl2 X bl h) : RD.off ⟨.ref r, a, [r, dr, pl2], [dr]⟩ ⟨.ref X.l, a, [X.l, X.dl, X.lim, X.dlim, X.kd, bl], [X.dl, bl]⟩ := by
  refine ⟨fun y m mm => ?_, fun y m mm => ?_⟩
  · rw [List.mem_singleton] at m; subst m
    exact (x.n2 _ mm).2 (.tail _ (.head _))
  · exact (x.n2 y (by simp only [List.mem_cons, List.not_mem_nil, or_false] at m ⊢; rcases m with h | h <;> simp [h])).2 mm
theorem first_next {cs : List Addr} {fr : Fra} {r dr pl2 bl : Addr} {X : LX} {j : LJ} {lcur : Value} {T : List UInt8} {l' : List (Int × TV × Nat)} (G : GG w hT) (R : Room A 8) (S : St hT hE [] (lawEnv L) fr (fun _ => True) h) (c0 : ∀ y ∈ cs, ∃ o, h.get? y = some o)
    (Z : L4 prog w hT hE oz toks L cs a ρ r dr pl2 X bl j lcur T h) (ho : oz (.ref X.l) = .inr T) (lx : Lexes T 0 l') (el : toksOf l' = toks.drop a) (al : ∀ q ∈ ρ, ∀ x ∈ q.D, ∃ o, h.get? x = some o) :
    W prog w A (call (.ref 287) [.ref X.l] []) h fun v h' => ∃ bl', Keeps h h' [X.dl, bl] ∧ (∀ y ∈ [X.dl, bl], Neu h y ∧ NF h y ∧ L ≠ y ∧ (∀ z ∈ cs, z ≠ y) ∧ ∀ q ∈ ρ, y ∉ q.D) ∧ St hT hE [] (lawEnv L) fr (fun _ => True) h' ∧ Two prog w hT hE oz toks L cs a ρ r dr pl2 X bl' h' := by
  refine (lex_first (oz := oz) (a := a) G S.up R Z.c Z.jk (by rw [Z.eT]; exact ho) (by rw [Z.eT]; exact lx) el).mono ?_
  rintro r1 h1 ⟨bl', nb, kk, Rl⟩
  have nu := Z.c.neu rfl
  have in9 : ∀ x ∈ [X.dl, bl], x ∈ [X.l, X.dl, X.lim, X.dlim, X.kd, bl, r, dr, pl2] := fun x m => by
    simp only [List.mem_cons, List.not_mem_nil, or_false] at m ⊢; rcases m with h | h <;> simp [h]
  have in6 : ∀ x ∈ [X.dl, bl], x ∈ [X.l, X.dl, X.lim, X.dlim, X.kd, bl] := fun x m => by
    simp only [List.mem_cons, List.not_mem_nil, or_false] at m ⊢; rcases m with h | h <;> simp [h]
  have R1 := Z.Rd.keeps kk fun x m => ⟨(nu x m).k, (nu x m).t, Z.sep x (in6 x m)⟩
  have nf : ∀ y ∈ [X.dl, bl], NF h y := fun y m => by
    rcases List.mem_cons.mp m with rfl | m
    · obtain ⟨es, ep, q, _⟩ := Z.c.i.ad; exact NF.dict q rfl
    · rw [List.mem_singleton] at m; subst m; exact NF.buf Z.c.b
  have nbE : bl' = bl ∨ ((L ≠ bl' ∧ (∀ y ∈ cs, y ≠ bl') ∧ hE.get? bl' = none ∧ ∀ q ∈ ρ, bl' ∉ q.D) ∧ bl' ∉ [r, dr, pl2]) := by
    rcases nb with e | e
    · exact .inl e
    · exact .inr ⟨⟨S.ne e, (fun y my => (fresh_ne e (c0 y my)).symm), none_up S.kp.grown e, fun q mq m => by obtain ⟨o, z⟩ := al q mq _ m; rw [e] at z; cases z⟩, fun m => by obtain ⟨o, q⟩ := Z.Rd.has _ m; rw [e] at q; cases q⟩
  refine ⟨bl', kk, fun y m => ⟨nu y m, nf y m, (Z.nL y (in9 y m)).1, (Z.nL y (in9 y m)).2.1, (Z.nL y (in9 y m)).2.2.2⟩, S.step (P' := fun _ => True) kk (fun a m => .inr (Z.nL a (in9 a m)).2.2.1) (fun m => (Z.nL _ (in9 _ m)).1 rfl) trivial (fun _ _ _ _ => trivial), R1, Rl, fun x m => Z.nL x (by simp only [List.mem_cons, List.not_mem_nil, or_false] at m ⊢; rcases m with h | h | h <;> simp [h]), fun x m => ?_⟩
  have q : x ∈ [X.l, X.dl, X.lim, X.dlim, X.kd, bl] ∨ (x = bl' ∧ bl' ≠ bl) := by
    simp only [List.mem_cons, List.not_mem_nil, or_false] at m ⊢
    rcases m with h | h | h | h | h | h <;> first | (simp [h]; done) | (by_cases e : bl' = bl <;> simp [h, e])
  rcases q with q | ⟨rfl, q⟩
  · exact ⟨Z.nL x (by simp only [List.mem_cons, List.not_mem_nil, or_false] at q ⊢; rcases q with h | h | h | h | h | h <;> simp [h]), Z.sep x q⟩
  · exact nbE.resolve_left q
theorem law_s5 {s t f p : Value} {r dr pl2 bl : Addr} {X : LX} {j : LJ} {lcur : Value} {T : List UInt8} (G : GG w hT) (R : Room A 9) (S : St hT hE [] (lawEnv L) (lawFr (some s) (some t) (some f) (some p) (some (.ref r)) (some (.ref X.l)) none none none none none none none) (fun _ => True) h)
    (Y : LF L cup sl fl pl k fvs pvs l h) (Z : L4 prog w hT hE oz (toksOf l) L [cup] 0 [] r dr pl2 X bl j lcur T h) (ho : oz (.ref X.l) = .inr T) (lx : Lexes T 0 l) :
    W prog w A (exec (lawT 5) (lawEnv L)) h fun fl' h' => fl' = .next ∧ ∃ bl', St hT hE [] (lawEnv L) (lawFr (some s) (some t) (some f) (some p) (some (.ref r)) (some (.ref X.l)) none none none none none none none) (fun _ => True) h' ∧ LF L cup sl fl pl k fvs pvs l h' ∧
      (∀ x ∈ [X.dl, bl', dr], hE.get? x = none) ∧ LRs prog w hT oz (toksOf l) L cup [⟨.ref r, 0, [r, dr, pl2], [dr]⟩, ⟨.ref X.l, 0, [X.l, X.dl, X.lim, X.dlim, X.kd, bl'], [X.dl, bl']⟩] h' := by
  rw [lawT_eq]
  unfold lawSt lawBodyS
  dsimp only [List.drop, List.headD]
  refine W.cps fun QQ0 qq0 => ?_
  refine W_exprR ?_ rfl rfl
  k_extra "ww"
  refine W_getm (S.X G) Z.c.i (ok_Lexer _) (m_next _).1 (m_next _).2 rfl ?_
  k_extra "ww"
  refine (first_next G (R.le (by decide)) S (fun y m => by rw [List.mem_singleton] at m; subst m; obtain ⟨_, c⟩ := Y.pb.cupL; exact c.some) Z ho lx rfl fun q m => nomatch m).mono ?_
  rintro v h1 ⟨bl', kk, nu, S1, Tw⟩
  refine qq0 _ _ ⟨rfl, bl', S1, Y.neu kk fun y m => (nu y m).1, fun x m => ?_, ⟨⟨fun q m => ?_, ?_⟩, fun q m => ?_⟩⟩
  · simp only [List.mem_cons, List.not_mem_nil, or_false] at m
    rcases m with rfl | rfl | rfl
    · exact (Tw.n2 _ (.tail _ (.head _))).1.2.2.1
    · exact (Tw.n2 _ (by simp)).1.2.2.1
    · exact (Tw.n1 _ (.tail _ (.head _))).2.2.1
  · simp only [List.mem_cons, List.not_mem_nil, or_false] at m
    rcases m with rfl | rfl
    · exact Tw.R1
    · exact Tw.R2
  · refine List.pairwise_cons.mpr ⟨fun q m => ?_, List.pairwise_singleton _ _⟩
    rw [List.mem_singleton] at m; subst m
    exact Tw.off
  · simp only [List.mem_cons, List.not_mem_nil, or_false] at m
    rcases m with rfl | rfl
    · exact ⟨fun m => (Tw.n1 _ m).1 rfl, fun m => (Tw.n1 _ m).2.1 _ (.head _) rfl⟩
    · exact ⟨fun m => (Tw.n2 _ m).1.1 rfl, fun m => (Tw.n2 _ m).1.2.1 _ (.head _) rfl⟩
end
section
variable {A : Around} {hE h h' : Heap} {oz : Value → Nat ⊕ List UInt8} {toks : List (Int × TV)} {v : Value} {a : Nat} {D M F : List Addr} {ρ : List RD} {L cup sl fl pl : Addr} {k : Nat} {fvs pvs : List Value} {l : List (Int × TV × Nat)}
theorem law_s6 {s t p r x : Value} (G : GG w hT) (R : Room A 9) (S : St hT hE [] (lawEnv L) (lawFr (some s) (some t) (some (.ref fl)) (some p) (some r) (some x) none none none none none none none) (fun _ => True) h)
    (Y : LF L cup sl fl pl k fvs pvs l h) (Z : LRs prog w hT oz toks L cup ρ h) (hl : l.length ≤ 11) (hk : k ≤ 900) (ncE : hE.get? cup = none) (ncT : hT.get? cup = none) :
    W prog w A (exec (lawT 6) (lawEnv L)) h fun fl' h' => fl' = .next ∧ ∃ (m : Nat) (u : Tok), m ≤ l.length ∧ St hT hE [] (lawEnv L) (lawFr (some s) (some t) (some (.ref fl)) (some p) (some r) (some x) (some (.int m u)) none none none none none none) (fun _ => True) h' ∧ LF L cup sl fl pl (k + 1) fvs pvs l h' ∧ LRs prog w hT oz toks L cup ρ h' := by
  have hfl : fvs.length = l.length := by rw [Y.D.len]; unfold toksOf; rw [List.length_map]
  rw [lawT_eq]
  unfold lawSt lawBodyS
  dsimp only [List.drop, List.headD]
  refine W.cps fun QQ0 qq0 => ?_
  k_extra "ww"
  refine W_cellName (lk_ L) (kc_ L) (lc_ L) Y.pb.c nd_c ?_
  k_extra "ww"
  refine L_len Y.f (by omega) fun u1 => ?_
  k_extra "ww"
  refine sip_ G (R.le (by decide)) S.up Y.pb (by omega) (by omega) ncT fun m u h1 hm k1 b1 => ?_
  have Y1 := Y.sip k1 b1
  have Z1 := Z.sip k1 Y.pb.cupL
  replace S := S.step (P' := fun _ => True) k1 ((all1 (.inr (ncE)))) (notIn1 Y.pb.n) trivial (fun _ _ _ _ => trivial)
  refine W_storeK S (.tail (.tail (.tail (.tail (.tail (.tail .head)))))) fun h2 k2 S2 => ?_
  have n1 := S.neu (by rfl)
  exact qq0 _ _ ⟨rfl, m, u, by omega, S2, Y1.neu k2 (neu1 n1), Z1.loc k2 n1⟩
theorem law_s7 {s t f p q : Value} {r x : Value} (S : St hT hE [] (lawEnv L) (lawFr (some s) (some t) (some f) (some p) (some r) (some x) (some q) none none none none none none) (fun _ => True) h)
    (Y : LF L cup sl fl pl k fvs pvs l h) (Z : LRs prog w hT oz toks L cup ρ h) (ev : ρ.map RD.v = [r, x]) :
    W prog w A (exec (lawT 7) (lawEnv L)) h fun fl' h' => fl' = .next ∧ ∃ rl, (rl ≠ cup ∧ ∀ r ∈ ρ, rl ∉ r.D) ∧ IsL h' rl (ρ.map RD.v) ∧ St hT hE [] (lawEnv L) (lawFr (some s) (some t) (some f) (some p) (some r) (some x) (some q) (some (.ref rl)) none none none none none) (fun _ => True) h' ∧ LF L cup sl fl pl k fvs pvs l h' ∧ LRs prog w hT oz toks L cup ρ h' := by
  rw [lawT_eq]
  unfold lawSt lawBodyS
  dsimp only [List.drop, List.headD]
  refine W.cps fun QQ0 qq0 => ?_
  refine W_assign (W_list (A_cons (W_loc S (.tail _ (.tail _ (.tail _ (.tail _ (.head _))))) (A_cons (W_loc S (.tail _ (.tail _ (.tail _ (.tail _ (.tail _ (.head _)))))) (A_nil ⟨Nat.le_of_ble_eq_true rfl, fun rl h1 n1 k1 x1 => ?_⟩)))))) rfl
  have S1 := S.same k1
  refine W_storeK S1 (.tail (.tail (.tail (.tail (.tail (.tail (.tail .head))))))) fun h2 k2 S2 => ?_
  have u := S1.neu (by rfl)
  refine qq0 _ _ ⟨rfl, rl, ⟨let ⟨_, c⟩ := Y.pb.cupL; fresh_ne n1 c.some, fun q m mm => by obtain ⟨o, e⟩ := (Z.R.ok q m).has _ mm; rw [n1] at e; cases e⟩, ?_, S2, (Y.grown k1).neu k2 (neu1 u), (Z.grown k1).loc k2 u⟩
  rw [ev]
  exact x1.neu k2 (neu1 u)
noncomputable abbrev tk2 : List (Str × NameKind) := [(Str.ofString ".0", .local), (Str.ofString "token", .local), (Str.ofString "_law_told", .globalImplicit)]
noncomputable abbrev LiI (fl : Addr) (fvs : List Value) (it jt : Addr) (i : Nat) (h : Heap) : Prop := h.IsListIter it fl i ∧ IsL h fl fvs ∧ jt = it
structure Meant (toks : List (Int × TV)) (ml : Addr) (h : Heap) : Prop where
  x : ∃ mvs, IsL h ml mvs ∧ mvs.length = toks.length + 3 ∧ ∀ (i : Nat) (v : Value), mvs[i]? = some v → Told h v (tokN toks i).1 (tokN toks i).2
theorem Meant.keeps {toks : List (Int × TV)} {ml : Addr} (x : Meant toks ml h) (K : Keeps h h' F) (n : ∀ y ∈ F, NTup h y) (m : ml ∉ F) : Meant toks ml h' := let ⟨mvs, a, b, c⟩ := x.x; ⟨mvs, a.keeps K m, b, fun i v e => (c i v e).keeps K n⟩
theorem Meant.neu {toks : List (Int × TV)} {ml : Addr} (x : Meant toks ml h) (K : Keeps h h' F) (n : ∀ y ∈ F, Neu h y) : Meant toks ml h' := let ⟨mvs, a, b, c⟩ := x.x; ⟨mvs, a.neu K n, b, fun i v e => (c i v e).keeps K fun y m => (n y m).t⟩
theorem law_s8 {s t p q r x y : Value} (G : GG w hT) (R : Room A 9) (S : St hT hE [] (lawEnv L) (lawFr (some s) (some t) (some (.ref fl)) (some p) (some r) (some x) (some q) (some y) none none none none none) (fun _ => True) h)
    (Y : LF L cup sl fl pl k fvs pvs l h) (Z : LRs prog w hT oz (toksOf l) L cup ρ h) (hl : l.length ≤ 11) :
    W prog w A (exec (lawT 8) (lawEnv L)) h fun fl' h' => fl' = .next ∧ ∃ ml, (ml ≠ cup ∧ ∀ r ∈ ρ, ml ∉ r.D) ∧ Meant (toksOf l) ml h' ∧ (∀ a vs, IsL h a vs → IsL h' a vs) ∧ St hT hE [] (lawEnv L) (lawFr (some s) (some t) (some (.ref fl)) (some p) (some r) (some x) (some q) (some y) (some (.ref ml)) none none none none) (fun _ => True) h' ∧ LF L cup sl fl pl k fvs pvs l h' ∧ LRs prog w hT oz (toksOf l) L cup ρ h' := by
  have ltok : (toksOf l).length = l.length := by unfold toksOf; rw [List.length_map]
  have hfl : fvs.length = l.length := by rw [Y.D.len, ltok]
  rw [lawT_eq]
  unfold lawSt lawBodyS
  dsimp only [List.drop, List.headD]
  refine W.cps fun QQ0 qq0 => ?_
  refine W_assign (W_binop ?_) rfl
  refine comp_gen (names := tk2) (ks := [Str.ofString ".0", Str.ofString "token"]) (n := fvs.length) (I := LiI fl fvs) (E := fun h i v => Told h v (tokN (toksOf l) i).1 (tokN (toksOf l) i).2) S.up S.ok rfl (by omega) (closureFor_none (by decide)) (by decide) rfl (by decide +kernel) (by decide) (by decide +kernel) (nodupB_iff (by kernel_rfl)) (by decide +kernel) (by decide +kernel) ?_ ?_ ?_ ?_ ?_ ?_ ?_ ?_
  · intro Q q
    refine W_loc S (.tail _ (.tail _ (.head _))) (P_list Y.f fun it h1 nit k1 li => q it it h1 k1 ⟨li, Y.f.keeps k1 List.not_mem_nil, rfl⟩ fun x m => ?_)
    have : x = it := by simpa using m
    subst this
    obtain ⟨o, a, _⟩ := li
    exact ⟨nit, o, a⟩
  · rintro it jt h1 Q ⟨i, _⟩ q
    exact W.any fun g d tk os QQ EE k => wpAny_pyIter_listiter (s := ⟨h1, g, d, tk, os⟩) i (k _ _ _ q)
  · rintro it jt i h1 ⟨li, _, rfl⟩ x m
    have : x = jt := by simpa using m
    subst this
    exact NTok.iter li
  · rintro it jt i h1 h2 F ⟨⟨o, a, b⟩, xl, rfl⟩ K n
    refine ⟨⟨o, K _ _ a fun m => (n _ m).1 (.head _), b⟩, xl.keeps K fun m => ?_, rfl⟩
    obtain ⟨o, e⟩ := Y.f.some
    rw [(n _ m).2] at e; cases e
  · intro h1 h2 F i r e K n
    exact e.keeps K fun x m => (n x m).2
  · rintro it jt i h1 Lc fr ek hi ⟨li, xl, rfl⟩ nL nLh hnw S2
    obtain ⟨u0, u1, rfl⟩ := keys2 ek
    obtain ⟨v, hv⟩ : ∃ v, fvs[i]? = some v := ⟨_, List.getElem?_eq_getElem hi⟩
    have nLi : Lc ≠ jt := fun q => nL (q ▸ .head _)
    have nli := (Neu.li li).l fvs
    refine N_list li xl hv fun h2 k2 li2 => ⟨_, rfl, ?_⟩
    refine W.of_eq (t' := Pure.pure ()) rfl (W.pure ?_)
    have S3 := S2.step (P' := fun _ => True) k2 ((all1 (.inl (.head _)))) (notIn1 nLi) trivial (fun _ _ _ _ => trivial)
    have xl2 := xl.keeps k2 (notIn1 fun q => nli (q ▸ xl))
    refine A_name (W_storeK S3 (.tail .head) fun h3 k3 S4 => ?_)
    have nfl : fl ≠ Lc := fun q => (S3.neu (by cases u1 <;> rfl)).l _ (by rw [← q]; exact xl2)
    have xl3 := xl2.keeps k3 (notIn1 nfl)
    obtain ⟨o, a, b⟩ := li2
    have li3 : h3.IsListIter jt fl (i + 1) := ⟨o, k3 _ _ a (notIn1 (Ne.symm nLi)), b⟩
    have hti : i < (toksOf l).length := by omega
    obtain ⟨v', e1, T1⟩ := Y.D.at_ i _ _ (show (toksOf l)[i]? = some ((tokN (toksOf l) i).1, (tokN (toksOf l) i).2) from by unfold tokN; rw [List.getD_eq_getElem?_getD, List.getElem?_eq_getElem hti]; rfl)
    obtain rfl : v = v' := Option.some.inj (hv.symm.trans e1)
    have T2 := T1.keeps S4.kp fun x m => NTok.none (hnw x m)
    have K13 : Keeps h1 h3 [Lc, jt, jt] := (k2.mono (all1 (.tail _ (.head _)))).trans (k3.mono (all1 (.head _)))
    refine W_call (W_glob S4 G (g_law_told _) (by kernel_rfl) (W_w1 G (kk_law_told _) (A_cons (W_loc S4 (.tail _ (.head _)) (A_nil ⟨S4.up, (law_told_ G S4.up (R.le (by decide)) T2).mono ?_⟩)))))
    rintro x h4 ⟨t4, k4⟩
    exact ⟨⟨⟨o, k4 _ _ (k3 _ _ a (notIn1 (Ne.symm nLi))) List.not_mem_nil, b⟩, xl3.keeps k4 List.not_mem_nil, rfl⟩, ⟨_, rfl, S4.same k4⟩, t4, K13.trans k4.nil⟩
  · rintro it jt h1 ⟨li, xl, rfl⟩
    exact N_list_end R.hh li xl (Nat.le_refl _) fun h2 k2 => ⟨rfl, k2.mono (all1 (.head _))⟩
  · intro acc us h1 nacc xacc ulen E1 k1
    have S1 := S.same k1
    refine W_binop (W_list (A_cons (W_tuple (A_cons (W_glob S1 G (g_TK_EOS _) (by kernel_rfl) (A_cons (W_none (A_nil ⟨Nat.le_of_ble_eq_true rfl, fun ta h2 n2 k2 xt => ?_⟩)))))))) 
    refine A_nil ⟨Nat.le_of_ble_eq_true rfl, fun la h3 n3 k3 xl => ?_⟩
    refine W_int fun t3 => ?_
    refine L_mul (n := 3) xl rfl (by decide) (by simp) (Nat.le_of_ble_eq_true rfl) fun ma h4 n4 k4 xm => ?_
    have K24 : Keeps h1 h4 [] := (k2.trans k3).trans k4
    refine L_cat (xacc.keeps K24 List.not_mem_nil) xm (by simp; omega) fun ml h5 n5 k5 x5 => ?_
    have K15 : Keeps h1 h5 [] := K24.trans k5
    have S5 := S1.same K15
    refine W_storeK S5 (.tail (.tail (.tail (.tail (.tail (.tail (.tail (.tail .head)))))))) fun h6 k6 S6 => ?_
    have u := S5.neu (by rfl)
    have K05 := k1.trans K15
    have n0 := none_up (k1.trans K24).grown n5
    have T0 : Told h5 (.ref ta) 287 .none := ⟨ta, _, _, rfl, ((xt.keeps k3 List.not_mem_nil).keeps k4 List.not_mem_nil).keeps k5 List.not_mem_nil, rfl⟩
    have M5 : Meant (toksOf l) ml h5 := ⟨_, x5, by simp [ulen, hfl, ltok], fun i v e => by
      rw [List.getElem?_append] at e
      split at e
      · exact (E1 i v e).keeps K15 fun y m => nomatch m
      · rename_i hlt
        have e2 : tokN (toksOf l) i = (287, .none) := by unfold tokN; rw [List.getD_eq_getElem?_getD, List.getElem?_eq_none (by omega)]; rfl
        rw [e2]
        have : v = .ref ta := by
          have := List.mem_of_getElem? e
          simpa using this
        subst this
        exact T0⟩
    exact qq0 _ _ ⟨rfl, ml, ⟨(let ⟨_, c⟩ := Y.pb.cupL; fresh_ne n0 c.some), fun r m mm => by obtain ⟨o, e⟩ := (Z.R.ok r m).has _ mm; rw [n0] at e; cases e⟩, M5.neu k6 (neu1 u), fun a vs z => (z.keeps K05 List.not_mem_nil).neu k6 (neu1 u), S6, (Y.grown K05).neu k6 (neu1 u), (Z.grown K05).loc k6 u⟩
end
theorem ri_mv {h h' : Heap} {it : Addr} {n m : Int} {F : List Addr} (x : IsRangeIter h it n m 1) (K : Keeps h h' F) (nn : ∀ y ∈ F, NF h y) : IsRangeIter h' it n m 1 := K _ _ x fun q => nn _ q _ _ x rfl
section
variable {A : Around} {hE h h' : Heap} {oz : Value → Nat ⊕ List UInt8} {toks : List (Int × TV)} {v : Value} {a a' b : Nat} {D M F : List Addr} {ρ ρ' : List RD} {L cup sl fl pl ml rl it : Addr} {k k' : Nat} {i c : Int} {fvs pvs : List Value} {l : List (Int × TV × Nat)} {fr : Fra} {env : Env} {P : Heap → Prop}
theorem St.nf (S : St hT hE F env fr P h) : NF h env.locals := let ⟨_, _, _, e, d, _⟩ := S.ns; NF.dict e d
theorem Reader.nf (R : Reader prog w hT oz toks h v a D M) : ∀ x ∈ M, NF h x := by
  cases R with
  | row r dr pl i off a cur vs tk x ho =>
    obtain ⟨j, I, jk⟩ := x.R
    intro y m
    rw [List.mem_singleton] at m
    subst m
    obtain ⟨es, ep, q, _⟩ := I.ad
    exact NF.dict q rfl
  | lex X bl bs pos j cur ahead a x ho =>
    intro y m
    rcases List.mem_cons.mp m with rfl | m
    · obtain ⟨es, ep, q, _⟩ := x.c.i.ad; exact NF.dict q rfl
    · rw [List.mem_singleton] at m; subst m; exact NF.buf x.c.b
theorem RLs.nf (R : RLs prog w hT oz toks h ρ) : ∀ x ∈ muts ρ, NF h x := fun x m => by
  obtain ⟨r, mr, mx⟩ := List.mem_flatMap.mp m
  exact (R.ok r mr).nf x mx
theorem NF.inst {h : Heap} {x C d : Addr} (e : h.get? x = some (instObj C d)) : NF h x := fun o vs q hd => by
  have := Option.some.inj (e.symm.trans q); subst this; cases hd
theorem Inst.nf {x dx C : Addr} {al : List (Str × Value)} (I : Inst h x dx C al) : NF h x ∧ NF h dx := ⟨NF.inst I.ob, let ⟨_, _, q, _⟩ := I.ad; NF.dict q rfl⟩
theorem Reader.nfD (R : Reader prog w hT oz toks h v a D M) : ∀ x ∈ D, NF h x := by
  cases R with
  | row r dr pl i off a cur vs tk x ho =>
    obtain ⟨j, I, jk⟩ := x.R
    intro y m
    simp only [List.mem_cons, List.not_mem_nil, or_false] at m
    rcases m with rfl | rfl | rfl
    · exact I.nf.1
    · exact I.nf.2
    · exact NF.list x.xl
  | lex X bl bs pos j cur ahead a x ho =>
    intro y m
    obtain ⟨al, t1, t2, I, _⟩ := x.c.m.ex
    obtain ⟨o, es, n, e, _, hd, _⟩ := x.c.k
    simp only [List.mem_cons, List.not_mem_nil, or_false] at m
    rcases m with rfl | rfl | rfl | rfl | rfl | rfl
    · exact x.c.i.nf.1
    · exact x.c.i.nf.2
    · exact I.nf.1
    · exact I.nf.2
    · exact NF.dict e hd
    · exact NF.buf x.c.b
theorem ri_out {it2 : Addr} {n m : Int} (R : RLs prog w hT oz toks h ρ) (r2 : IsRangeIter h it2 n m 1) : ∀ r ∈ ρ, it2 ∉ r.D := fun r mr mm => (R.ok r mr).nfD _ mm _ _ r2 rfl
structure LA (prog : Program) (w : World) (hT hE : Heap) (oz : Value → Nat ⊕ List UInt8) (L cup sl fl pl ml rl it : Addr) (k : Nat) (i c : Int) (fvs pvs : List Value) (l : List (Int × TV × Nat)) (ρ : List RD) (h : Heap) : Prop where
  Y : LF L cup sl fl pl k fvs pvs l h
  Z : LRs prog w hT oz (toksOf l) L cup ρ h
  rd : IsL h rl (ρ.map RD.v)
  rn : rl ≠ cup ∧ ∀ r ∈ ρ, rl ∉ r.D
  m : Meant (toksOf l) ml h
  mn : ml ≠ cup ∧ ∀ r ∈ ρ, ml ∉ r.D
  ri : IsRangeIter h it i c 1
  new : ∀ x ∈ muts ρ, hE.get? x = none
theorem LA.grown (x : LA prog w hT hE oz L cup sl fl pl ml rl it k i c fvs pvs l ρ h) (K : Keeps h h' []) : LA prog w hT hE oz L cup sl fl pl ml rl it k i c fvs pvs l ρ h' :=
  ⟨x.Y.grown K, x.Z.grown K, x.rd.keeps K List.not_mem_nil, x.rn, x.m.keeps K (fun _ m => nomatch m) List.not_mem_nil, x.mn, ri_mv x.ri K (fun _ m => nomatch m), x.new⟩
theorem LA.loc (x : LA prog w hT hE oz L cup sl fl pl ml rl it k i c fvs pvs l ρ h) (K : Keeps h h' [L]) (n : Neu h L) (nf : NF h L) : LA prog w hT hE oz L cup sl fl pl ml rl it k i c fvs pvs l ρ h' :=
  ⟨x.Y.neu K (neu1 n), x.Z.loc K n, x.rd.neu K (neu1 n), x.rn, x.m.neu K (neu1 n), x.mn, ri_mv x.ri K (all1 (nf)), x.new⟩
theorem LA.sip (x : LA prog w hT hE oz L cup sl fl pl ml rl it k i c fvs pvs l ρ h) (K : Keeps h h' [cup]) (b : PB L cup sl k' h') : LA prog w hT hE oz L cup sl fl pl ml rl it k' i c fvs pvs l ρ h' := by
  obtain ⟨vs, cl⟩ := x.Y.pb.cupL
  have n1 : ∀ y ∈ [cup], NTup h y := (all1 (NTup.list cl))
  exact ⟨x.Y.sip K b, x.Z.sip K ⟨vs, cl⟩, x.rd.keeps K (notIn1 x.rn.1), x.rn, x.m.keeps K n1 (notIn1 x.mn.1), x.mn, ri_mv x.ri K (all1 (NF.list cl)), x.new⟩
theorem LA.it2 {it2 : Addr} {n2 m2 : Int} (x : LA prog w hT hE oz L cup sl fl pl ml rl it k i c fvs pvs l ρ h) (K : Keeps h h' [it2]) (r2 : IsRangeIter h it2 n2 m2 1) (ne : it ≠ it2) : LA prog w hT hE oz L cup sl fl pl ml rl it k i c fvs pvs l ρ h' :=
  have n := neu1 (Neu.ri r2)
  have nD := ri_out x.Z.R r2
  ⟨x.Y.neu K n, x.Z.keeps K (all1 ⟨⟨(Neu.ri r2).k, (Neu.ri r2).t⟩, nD⟩), x.rd.neu K n, x.rn, x.m.neu K n, x.mn, K _ _ x.ri (notIn1 ne), x.new⟩
theorem LA.step (x : LA prog w hT hE oz L cup sl fl pl ml rl it k i c fvs pvs l ρ h) (S : St hT hE [] env fr P h) (hL : env.locals = L) (R' : RLs prog w hT oz (toksOf l) h' ρ') (ev : ρ'.map RD.v = ρ.map RD.v)
    (gM : ∀ r ∈ ρ', ∀ x ∈ r.M, x ∈ muts ρ ∨ h.get? x = none) (gD : ∀ r ∈ ρ', ∀ x ∈ r.D, (∃ s ∈ ρ, x ∈ s.D) ∨ h.get? x = none) (K : Keeps h h' (muts ρ)) : LA prog w hT hE oz L cup sl fl pl ml rl it k i c fvs pvs l ρ' h' := by
  have nu := x.Z.R.neu
  have out : ∀ y, (∃ o, h.get? y = some o) → (∀ r ∈ ρ, y ∉ r.D) → ∀ r ∈ ρ', y ∉ r.D := fun y ⟨o, e⟩ n r m mm => by
    rcases gD r m y mm with ⟨s, ms, q⟩ | q
    · exact n s ms q
    · rw [q] at e; cases e
  obtain ⟨vs, cl⟩ := x.Y.pb.cupL
  obtain ⟨mvs, mx, _⟩ := x.m.x
  refine ⟨x.Y.neu K nu, ⟨R', fun r m => ⟨out L (hL ▸ S.locs) (fun r m => (x.Z.n r m).1) r m, out cup cl.some (fun r m => (x.Z.n r m).2) r m⟩⟩, ev ▸ x.rd.neu K nu, ⟨x.rn.1, out rl x.rd.some x.rn.2⟩, x.m.neu K nu, ⟨x.mn.1, out ml mx.some x.mn.2⟩, ri_mv x.ri K x.Z.R.nf, fun y m => ?_⟩
  obtain ⟨r, mr, my⟩ := List.mem_flatMap.mp m
  rcases gM r mr y my with q | q
  · exact x.new y q
  · exact none_up S.kp.grown q
theorem T_readers {elt idx : PySem.Expr} {p1 p2 p3 p4 p5 p6 p7 p8 p9 pos pos2 : Pos} {scope : Scope} {whole : Sem Value} {Q : Bool → Heap → Prop} (G : GG w hT) (R : Room A 8) (hk : scope.kind = .function) (hn : scope.names = rdNames)
    (S : St hT hE [] (lawEnv L) fr (fun _ => True) h) (X : LA prog w hT hE oz L cup sl fl pl ml rl it k i c fvs pvs l ρ h) (ha : ∀ r ∈ ρ, r.a = a) (hz : ρ.length ≤ 10) (hle : a ≤ 900) (hr : (Str.ofString "readers", some (.ref rl)) ∈ fr) (hm : (Str.ofString "meant", some (.ref ml)) ∈ fr)
    (hc : (∃ q1 q2 q3 q4, elt = .Call (.Name (Str.ofString "_law_told") q1) [.Attribute (.Name (Str.ofString "reader") q2) (Str.ofString "current") q3] [] q4 ∧ a' = a ∧ b = a) ∨
      (∃ q1 q2 q3 q4 q5, elt = .Call (.Name (Str.ofString "_law_told") q1) [.Call (.Attribute (.Name (Str.ofString "reader") q2) (Str.ofString "lookahead") q3) [] [] q5] [] q4 ∧ a' = a ∧ b = a + 1 ∧ MethEq scope (lawEnv L) (Str.ofString "lookahead") q2 q3 q5) ∨
      (∃ q1 q2 q3 q4 q5, elt = .Call (.Name (Str.ofString "_law_told") q1) [.Call (.Attribute (.Name (Str.ofString "reader") q2) (Str.ofString "next") q3) [] [] q5] [] q4 ∧ a' = a + 1 ∧ b = a + 1 ∧ MethEq scope (lawEnv L) (Str.ofString "next") q2 q3 q5))
    (hb : b < l.length + 3) (hl : l.length ≤ 11) (hidx : ∀ (h' : Heap) (Q : Value → Heap → Prop), St hT hE [] (lawEnv L) fr (fun _ => True) h' → (∀ t, Q (.int b t) h') → W prog w A (eval idx (lawEnv L)) h' Q) (hu : A.units + 5 < cLine)
    (hs : ∀ v i : Value, subscripted idx false v i = operate [v, i] (getItem v i))
    (q : ∀ ρ' h', St hT hE [] (lawEnv L) fr (fun _ => True) h' → LA prog w hT hE oz L cup sl fl pl ml rl it k i c fvs pvs l ρ' h' → (∀ r ∈ ρ', r.a = a') → ρ'.map RD.v = ρ.map RD.v → (∀ jt n m, IsRangeIter h jt n m 1 → IsRangeIter h' jt n m 1) → Q false h') :
    W prog w A (isTrue (.Compare (.ListComp elt [⟨.Name (Str.ofString "reader") p1, .Name (Str.ofString "readers") p2, [], 0⟩] scope pos) [.NotEq] [.BinOp (.List [.Subscript (.Name (Str.ofString "meant") p3) idx p4] p5) .Mult (.Call (.Name (Str.ofString "len") p6) [.Name (Str.ofString "readers") p7] [] p8) p9] pos2) (lawEnv L) whole) h Q := by
  have ltok : (toksOf l).length = l.length := by unfold toksOf; rw [List.length_map]
  refine T_cmp (told_comp G S.up S.ok R hk hn X.Z.R ha X.rd hz hle (fun Q q => W_loc S hr q) hc fun acc us ρ' h1 nacc xacc ulen ut R' ev ea gM gD K nD => ?_) rfl
  have nlen : ρ'.length = ρ.length := by have := congrArg List.length ev; simpa using this
  have X1 := X.step S rfl R' ev gM gD K
  have S1 := S.step (P' := fun _ => True) K (fun y m => .inr (X.new y m)) (fun m => by
    obtain ⟨r, mr, my⟩ := List.mem_flatMap.mp m
    exact (X.Z.n r mr).1 ((X.Z.R.ok r mr).sub _ my)) trivial (fun _ _ _ _ => trivial)
  obtain ⟨mvs, mx, ml3, mt⟩ := X1.m.x
  have hbl : b < mvs.length := by omega
  have hmv := List.getElem?_eq_getElem hbl
  refine W_binop (W_list (A_cons (W_sub (W_loc S1 hm (hidx _ _ S1 fun t => L_item (j := b) mx rfl hmv (by omega) ?_ ?_))) rfl)) 
  · refine A_nil ⟨Nat.le_of_ble_eq_true rfl, fun la h2 n2 k2 x2 => ?_⟩
    have S2 := S1.same k2
    have X2 := X1.grown k2
    refine W_call (W_glob S2 G (g_len _) (by kernel_rfl) (W_w1 G kkb (A_cons (W_loc S2 hr (A_nil ⟨S2.up, L_len X2.rd (by rw [List.length_map]; omega) fun t => ?_⟩)))))
    refine L_mul (n := (ρ'.map RD.v).length) x2 rfl (by rw [List.length_map]; omega) (by simp) (Nat.le_of_ble_eq_true rfl) fun ma h3 n3 k3 x3 => ?_
    have S3 := S2.same k3
    have X3 := X2.grown k3
    have K13 : Keeps h1 h3 [] := k2.trans k3
    refine C_neLL (xacc.keeps K13 List.not_mem_nil) x3 (by simp [ulen, nlen]) hu (fun j v v' e1 e2 => ⟨_, _, (ut v (List.mem_of_getElem? e1)).keeps K13 (fun _ m => nomatch m), ?_⟩) (T_bool (q ρ' h3 S3 X3 ea ev fun jt n m z => ri_mv (ri_mv z K X.Z.R.nf) K13 fun _ m => nomatch m))
    have : v' = mvs[b] := by
      have := List.mem_of_getElem? e2
      simp at this
      exact this.2
    subst this
    exact (mt b _ hmv).keeps K13 fun _ m => nomatch m
  · exact hs _ _
end
section
variable {A : Around} {hE h h' : Heap} {oz : Value → Nat ⊕ List UInt8} {toks : List (Int × TV)} {v : Value} {a a' b : Nat} {D M F : List Addr} {ρ ρ' : List RD} {L cup sl fl pl ml rl it : Addr} {k k' : Nat} {i c : Int} {fvs pvs : List Value} {l : List (Int × TV × Nat)} {fr : Fra} {env : Env} {P : Heap → Prop}
theorem St.keepsS (S : St hT hE [] env fr (fun _ => True) h) (k : KeepsS h h' [env.locals] []) : Keeps h h' [env.locals] ∧ St hT hE [] env fr (fun _ => True) h' := by
  have kk : Keeps h h' [env.locals] := fun b o e n => (k b o e List.not_mem_nil).1 n
  have kE : Keeps hE h' [] := fun b o e _ => kk b o (S.kp b o e List.not_mem_nil) (notIn1 fun q => by subst q; rw [S.fL] at e; cases e)
  refine ⟨kk, ?_, S.ok, kE, S.fL, fun b o e => kE b o (S.tE b o e) List.not_mem_nil, S.tE, S.tF, trivial, fun _ _ _ _ => trivial⟩
  obtain ⟨o, es, ep, e, d, r⟩ := S.ns
  obtain ⟨_, sl, e2⟩ := k _ _ e List.not_mem_nil
  exact ⟨_, es, ep, e2, d, r⟩
theorem Tk.ok {T : List UInt8} {p p' : Nat} {k : Int} {tv : TV} (t : Tk T p k tv p') : OkKind k := by
  cases t <;> unfold OkKind <;> omega
theorem Lexes.ok {T : List UInt8} {p : Nat} {l : List (Int × TV × Nat)} (x : Lexes T p l) : ∀ i, OkKind (tokN (toksOf l) i).1 := by
  induction x with
  | eos p n s => intro i; exact .inr (.inr (by unfold tokN toksOf; simp))
  | tok p n q p' k tv l s t hk r ih =>
    intro i
    cases i with
    | zero => exact t.ok
    | succ i => exact ih i
theorem refused_ {r : RD} {Q : Value → Heap → Prop} (G : GG w hT) (R : Room A 7) (S : St hT hE [] (lawEnv L) fr (fun _ => True) h) (X : LA prog w hT hE oz L cup sl fl pl ml rl it k i c fvs pvs l ρ h) (hr : r ∈ ρ) (ra : r.a = a) (ok : OkKind (tokN (toksOf l) a).1) (hA : A.frames = some [lawEnv L]) (ek : (fr.lookup (Str.ofString "kind")).join = none)
    (q : ∀ h', St hT hE [] (lawEnv L) fr (fun _ => True) h' → LA prog w hT hE oz L cup sl fl pl ml rl it k i c fvs pvs l ρ h' → Q (.bool true) h') : W prog w A (call (.ref 553) [r.v] []) h Q := by
  have Rd := X.Z.R.ok r hr
  rw [ra] at Rd
  refine (Rd.refused G S.up R ok hA (S.ff (by trivial) rfl)).mono ?_
  rintro v h1 ⟨rfl, k1⟩
  obtain ⟨K, S1⟩ := S.keepsS k1
  exact q h1 S1 (X.loc K (S.neu ek) S.nf)
theorem Reader.rowAt {r : Addr} {Q : Value → Heap → Prop} (R : Reader prog w hT oz toks h (.ref r) a D M) (ho : oz (.ref r) = .inl 0) (G : GG w hT) (up : Grown hT h) (q : ∀ t, Q (.int a t) h) : W prog w A (getAttr (.ref r) (Str.ofString "at") true) h Q := by
  cases R with
  | row _ dr pl i off a cur vs tk x ho' =>
    obtain ⟨j, I, jk⟩ := x.R
    obtain rfl : off = 0 := Sum.inl.inj (ho'.symm.trans ho)
    have := x.ia
    obtain rfl : i = a := by omega
    exact W_get (G.X.keeps up) I (ok_TokenRow _) (a_TokenRow_at _) rfl rfl (q _)
  | lex X bl bs pos j cur ahead a x ho' => cases ho'.symm.trans ho
theorem Reader.lexAt {r : Addr} {T : List UInt8} {Q : Value → Heap → Prop} (R : Reader prog w hT oz toks h (.ref r) a D M) (ho : oz (.ref r) = .inr T) (hl : toks.length ≤ a) (G : GG w hT) (up : Grown hT h) (q : ∀ t, Q (.int T.length t) h) : W prog w A (getAttr (.ref r) (Str.ofString "at") true) h Q := by
  cases R with
  | row _ dr pl i off a cur vs tk x ho' => cases ho'.symm.trans ho
  | lex X bl bs pos j cur ahead a x ho' =>
    have eT : X.T = T := Sum.inr.inj (ho'.symm.trans ho)
    have ep : pos = T.length := by
      rcases x.st with ⟨_, _, f⟩ | ⟨_, _, _, _, f⟩
      · rw [← eT]; exact f hl
      · rw [← eT]; exact f (by omega)
    subst ep
    exact W_get (G.X.keeps up) x.c.i (ok_Lexer _) (a_Lexer_at _) rfl rfl (q _)
end
noncomputable def loopB : { b : List Stmt // ∃ t i o p, lawSt 9 = .For t i b o p } := ⟨_, _, _, _, _, rfl⟩
noncomputable def lpSt (k : Nat) : Stmt := (loopB.1.drop k).headD (.Pass default)
section
variable {A : Around} {hE h h' : Heap} {oz : Value → Nat ⊕ List UInt8} {toks : List (Int × TV)} {v : Value} {a a' b m : Nat} {D M F : List Addr} {ρ ρ' : List RD} {L cup sl fl pl ml rl it r x : Addr} {k k' : Nat} {i c : Int} {fvs pvs : List Value} {l : List (Int × TV × Nat)} {s t p : Value} {u ta : Tok} {tn rs bh : Option Value} {T : List UInt8}
noncomputable abbrev lpFr (s t p : Value) (fl r x : Addr) (m : Nat) (u : Tok) (rl ml : Addr) (a : Nat) (ta : Tok) (tn rs bh : Option Value) : Fra := lawFr (some s) (some t) (some (.ref fl)) (some p) (some (.ref r)) (some (.ref x)) (some (.int m u)) (some (.ref rl)) (some (.ref ml)) (some (.int a ta)) tn rs bh
structure LpOK (l : List (Int × TV × Nat)) (oz : Value → Nat ⊕ List UInt8) (r x : Addr) (T : List UInt8) (a : Nat) (ρ : List RD) : Prop where
  rs : ∃ r0 r1 more, ρ = r0 :: r1 :: more ∧ r0.v = .ref r ∧ r1.v = .ref x ∧ more.length ≤ 2
  o0 : oz (.ref r) = .inl 0
  o1 : oz (.ref x) = .inr T
  ha : ∀ q ∈ ρ, q.a = a
  hl : l.length ≤ 11
  ok : ∀ i, OkKind (tokN (toksOf l) i).1
theorem LpOK.z (o : LpOK l oz r x T a ρ) : ρ.length ≤ 10 := by obtain ⟨r0, r1, more, rfl, _, _, q⟩ := o.rs; simp only [List.length_cons]; omega
theorem LpOK.to (o : LpOK l oz r x T a ρ) (ev : ρ'.map RD.v = ρ.map RD.v) (ea : ∀ q ∈ ρ', q.a = a') : LpOK l oz r x T a' ρ' := by
  obtain ⟨r0, r1, more, rfl, e0, e1, q⟩ := o.rs
  refine ⟨?_, o.o0, o.o1, ea, o.hl, o.ok⟩
  cases ρ' with
  | nil => cases ev
  | cons s0 ρ' =>
    cases ρ' with
    | nil => simp at ev
    | cons s1 more' =>
      simp only [List.map_cons, List.cons.injEq] at ev
      have := congrArg List.length ev.2.2
      simp only [List.length_map] at this
      exact ⟨s0, s1, more', rfl, ev.1.trans e0, ev.2.1.trans e1, by omega⟩
theorem lp_s0 (G : GG w hT) (R : Room A 9) (hu : A.units + 5 < cLine) (S : St hT hE [] (lawEnv L) (lpFr s t p fl r x m u rl ml a ta tn rs bh) (fun _ => True) h) (X : LA prog w hT hE oz L cup sl fl pl ml rl it k i c fvs pvs l ρ h) (o : LpOK l oz r x T a ρ) (ha : a < l.length + 2) :
    W prog w A (exec (lpSt 0) (lawEnv L)) h fun f h' => f = .next ∧ ∃ ρ', St hT hE [] (lawEnv L) (lpFr s t p fl r x m u rl ml a ta tn rs bh) (fun _ => True) h' ∧ LA prog w hT hE oz L cup sl fl pl ml rl it k i c fvs pvs l ρ' h' ∧ LpOK l oz r x T a ρ' ∧ ρ'.map RD.v = ρ.map RD.v := by
  have hl := o.hl
  unfold lpSt loopB
  dsimp only [List.drop, List.headD]
  refine W.cps fun QQ0 qq0 => ?_
  refine W_if (T_or (T_readers (a := a) (a' := a) (b := a) G (R.le (by decide)) rfl rfl S X o.ha o.z (by omega) (by k_extra "mem") (by k_extra "mem") (.inl ⟨_, _, _, _, rfl, rfl, rfl⟩) (by omega) hl (fun h' Q S' q => W_loc S' (by k_extra "mem") (q _)) hu (fun _ _ => by with_unfolding_all rfl) fun ρ' h1 S1 X1 ea ev _ => ?_))
  have o1 := o.to ev ea
  obtain ⟨r0, r1, more, rfl, e0, e1, _⟩ := o1.rs
  have Rd := X1.Z.R.ok r0 (.head _)
  rw [e0, ea r0 (.head _)] at Rd
  refine split_ff (T_or (T_cmp (W_attr (W_loc S1 (.tail _ (.tail _ (.tail _ (.tail _ (.head _))))) (Rd.rowAt o1.o0 G S1.up fun tr => ?_))) rfl))
  refine W_loc S1 (.tail _ (.tail _ (.tail _ (.tail _ (.tail _ (.tail _ (.tail _ (.tail _ (.tail _ (.head _)))))))))) (C_ne (T_bool ?_))
  refine split_f (fun q => q rfl) (T_or0 (split_ff (W_nil ?_)))
  exact qq0 _ _ ⟨rfl, _, S1, X1, o1, ev⟩
theorem lp_s1 (G : GG w hT) (R : Room A 9) (hA : A.frames = some [lawEnv L]) (S : St hT hE [] (lawEnv L) (lpFr s t p fl r x m u rl ml a ta tn rs bh) (fun _ => True) h) (X : LA prog w hT hE oz L cup sl fl pl ml rl it k i c fvs pvs l ρ h) (o : LpOK l oz r x T a ρ) :
    W prog w A (exec (lpSt 1) (lawEnv L)) h fun f h' => f = .next ∧ St hT hE [] (lawEnv L) (lpFr s t p fl r x m u rl ml a ta tn rs bh) (fun _ => True) h' ∧ LA prog w hT hE oz L cup sl fl pl ml rl it k i c fvs pvs l ρ h' := by
  unfold lpSt loopB
  dsimp only [List.drop, List.headD]
  refine W.cps fun QQ0 qq0 => ?_
  obtain ⟨r0, r1, more, eρ, e0, e1, _⟩ := o.rs
  have m0 : r0 ∈ ρ := by rw [eρ]; exact .head _
  have m1 : r1 ∈ ρ := by rw [eρ]; exact .tail _ (.head _)
  refine W_if (T_or (T_not (T_plain (W_call (W_glob S G (g_law_refused _) (by kernel_rfl) (W_w1 G (kk_law_refused _) (A_cons (W_loc S (by k_extra "mem") (A_nil ⟨S.up, e0 ▸ refused_ G (R.le (by decide)) S X m0 (o.ha _ m0) (o.ok a) hA rfl fun h1 S1 X1 => T_bool ?_⟩))))))))) 
  refine split_ff (T_or (T_not (T_plain (W_call (W_glob S1 G (g_law_refused _) (by kernel_rfl) (W_w1 G (kk_law_refused _) (A_cons (W_loc S1 (by k_extra "mem") (A_nil ⟨S1.up, e1 ▸ refused_ G (R.le (by decide)) S1 X1 m1 (o.ha _ m1) (o.ok a) hA rfl fun h2 S2 X2 => T_bool ?_⟩)))))))))
  refine split_ff (T_or0 (split_ff (W_nil ?_)))
  exact qq0 _ _ ⟨rfl, S2, X2⟩
end
section
variable {A : Around} {hE h h' : Heap} {oz : Value → Nat ⊕ List UInt8} {toks : List (Int × TV)} {v : Value} {a a' b m : Nat} {D M F : List Addr} {ρ ρ' : List RD} {L cup sl fl pl ml rl it r x : Addr} {k k' : Nat} {i c : Int} {fvs pvs : List Value} {l : List (Int × TV × Nat)} {s t p : Value} {u ta : Tok} {tn rs bh : Option Value} {T : List UInt8}
inductive L2I (hE : Heap) (s t p : Value) (fl r x : Addr) (m : Nat) (u : Tok) (rl ml : Addr) (a : Nat) (ta : Tok) (rs bh : Option Value) (oz : Value → Nat ⊕ List UInt8) (L cup sl pl it it2 : Addr) (k : Nat) (i c : Int) (fvs pvs : List Value) (l : List (Int × TV × Nat)) (T : List UInt8) (ρ : List RD) (n : Nat) (h1 : Heap) : Prop
  | mk (j : Int) (tn' : Option Value) (ρ' : List RD) (I : IsRangeIter h1 it2 j n 1) (S : St hT hE [] (lawEnv L) (lpFr s t p fl r x m u rl ml a ta tn' rs bh) (fun _ => True) h1) (X : LA prog w hT hE oz L cup sl fl pl ml rl it (k + 1) i c fvs pvs l ρ' h1) (o : LpOK l oz r x T a ρ') (e : ρ'.map RD.v = ρ.map RD.v)
theorem lp_s2 (G : GG w hT) (R : Room A 9) (hu : A.units + 5 < cLine) (S : St hT hE [] (lawEnv L) (lpFr s t p fl r x m u rl ml a ta tn rs bh) (fun _ => True) h) (X : LA prog w hT hE oz L cup sl fl pl ml rl it k i c fvs pvs l ρ h) (o : LpOK l oz r x T a ρ) (ha : a < l.length + 2) (hk : k ≤ 900) (ncE : hE.get? cup = none) (ncT : hT.get? cup = none) :
    W prog w A (exec (lpSt 2) (lawEnv L)) h fun f h' => f = .next ∧ ∃ tn' ρ', St hT hE [] (lawEnv L) (lpFr s t p fl r x m u rl ml a ta tn' rs bh) (fun _ => True) h' ∧ LA prog w hT hE oz L cup sl fl pl ml rl it (k + 1) i c fvs pvs l ρ' h' ∧ LpOK l oz r x T a ρ' ∧ ρ'.map RD.v = ρ.map RD.v := by
  have hl := o.hl
  unfold lpSt loopB
  dsimp only [List.drop, List.headD]
  refine W.cps fun QQ0 qq0 => ?_
  refine W_for ?_
  k_extra "ww"
  refine W_cellName (lk_ L) (kc_ L) (lc_ L) X.Y.pb.c nd_c ?_
  k_extra "ww"
  refine sip_ G (R.le (by decide)) S.up X.Y.pb (by omega) (by decide) ncT fun m2 u2 h1 hm k1 b1 => ?_
  have X1 := X.sip k1 b1
  have S1 := S.step (P' := fun _ => True) k1 ((all1 (.inr (ncE)))) (notIn1 X.Y.pb.n) trivial (fun _ _ _ _ => trivial)
  refine A_nil ⟨S1.up, ?_⟩
  refine R_range fun ra t1 t2 nra h2 k2 x2 => P_range x2 (by omega) fun it2 h3 nit k3 i3 => ?_
  have K13 : Keeps h1 h3 [] := k2.trans k3
  have S3 := S1.same K13
  have X3 := X1.grown K13
  have ne : it ≠ it2 := (fresh_ne (none_up k2.grown nit) ⟨_, X1.ri⟩).symm
  have nit0 : hE.get? it2 = none := none_up (S1.same k2).kp.grown nit
  have nc : it2 ≠ L := fun q => S3.nf _ _ (q ▸ i3) rfl
  clear X X1 S S1 k1 b1 K13 k2 k3 x2 nra nit
  refine CW_down (I := L2I hE s t p fl r x m u rl ml a ta rs bh oz L cup sl pl it it2 k i c fvs pvs l T ρ) ?_ ?_ m2 ⟨0, tn, ρ, i3, S3, X3, o, rfl⟩
  · clear S3 X3 i3 o
    rintro n ih h4 ⟨j, tn', ρ', i4, S4, X4, o4, e4⟩
    refine CW_for (N_range i4 (by omega) fun t5 h5 k5 i5 => ?_)
    refine W.of_eq (t' := Pure.pure ()) rfl (W.pure ?_)
    have X5 := X4.it2 k5 i4 ne
    have S5 := S4.step (P' := fun _ => True) k5 ((all1 (.inr (nit0)))) (notIn1 (Ne.symm nc)) trivial (fun _ _ _ _ => trivial)
    refine A_name (W_storeK S5 (.tail (.tail (.tail (.tail (.tail (.tail (.tail (.tail (.tail (.tail .head)))))))))) fun h6 k6 S6 => ?_)
    have X6 := X5.loc k6 (S5.neu (by rfl)) S5.nf
    have i6 : IsRangeIter h6 it2 _ _ 1 := ri_mv i5 k6 (all1 (S5.nf))
    refine W_cons (W_if (T_readers (a := a) (a' := a) (b := a + 1) G (R.le (by decide)) rfl rfl S6 X6 o4.ha o4.z (by omega) (by k_extra "mem") (by k_extra "mem") (.inr (.inl ⟨_, _, _, _, _, rfl, rfl, rfl, fun Lc => ⟨_, rfl⟩⟩)) (by omega) hl (fun h' Q S' q => ?_) hu (fun _ _ => by with_unfolding_all rfl) fun ρ1 h7 S7 X7 ea7 ev7 hri7 => ?_))
    · refine W_binop (W_loc S' (by k_extra "mem") (W_int fun t1 => I_add fun t2 => q t2))
    have o7 := o4.to ev7 ea7
    have i7 := hri7 _ _ _ i6
    refine split_ff (W_nil ?_)
    refine W_cons (W_if (T_readers (a := a) (a' := a) (b := a) G (R.le (by decide)) rfl rfl S7 X7 o7.ha o7.z (by omega) (by k_extra "mem") (by k_extra "mem") (.inl ⟨_, _, _, _, rfl, rfl, rfl⟩) (by omega) hl (fun h' Q S' q => W_loc S' (by k_extra "mem") (q _)) hu (fun _ _ => by with_unfolding_all rfl) fun ρ2 h8 S8 X8 ea8 ev8 hri8 => ?_))
    refine split_ff (W_nil (W_nil ?_))
    have i8 := hri8 _ _ _ i7
    rw [show ((n + 1 : Nat) : Int) - 1 = (n : Nat) by omega] at i8
    exact ih _ ⟨_, _, _, i8, S8, X8, o7.to ev8 ea8, ev8.trans (ev7.trans e4)⟩
  · clear S3 X3 i3 o
    rintro h4 ⟨j, tn', ρ', i4, S4, X4, o4, e4⟩
    refine CW_for (N_range_end R.hh i4 (by omega) fun h5 k5 => W_nil ?_)
    exact qq0 _ _ ⟨rfl, tn', ρ', S4.step (P' := fun _ => True) k5 ((all1 (.inr (nit0)))) (notIn1 (Ne.symm nc)) trivial (fun _ _ _ _ => trivial), X4.it2 k5 i4 ne, o4, e4⟩
end
section
variable {A : Around} {hE h h' : Heap} {oz : Value → Nat ⊕ List UInt8} {toks : List (Int × TV)} {v : Value} {a a' b m : Nat} {D M F : List Addr} {ρ ρ' : List RD} {L cup sl fl pl ml rl it r x : Addr} {k k' : Nat} {i c : Int} {fvs pvs : List Value} {l : List (Int × TV × Nat)} {s t p : Value} {u ta : Tok} {tn rs bh : Option Value} {T : List UInt8}
theorem LA.flen (X : LA prog w hT hE oz L cup sl fl pl ml rl it k i c fvs pvs l ρ h) : fvs.length = l.length := by rw [X.Y.D.len]; unfold toksOf; rw [List.length_map]
theorem lp_s4 (G : GG w hT) (R : Room A 9) (hu : A.units + 5 < cLine) (S : St hT hE [] (lawEnv L) (lpFr s t p fl r x m u rl ml a ta tn rs bh) (fun _ => True) h) (X : LA prog w hT hE oz L cup sl fl pl ml rl it k i c fvs pvs l ρ h) (o : LpOK l oz r x T a ρ) (ha : a < l.length + 2) :
    W prog w A (exec (lpSt 4) (lawEnv L)) h fun f h' => f = .next ∧ ∃ ρ', St hT hE [] (lawEnv L) (lpFr s t p fl r x m u rl ml a ta tn rs bh) (fun _ => True) h' ∧ LA prog w hT hE oz L cup sl fl pl ml rl it k i c fvs pvs l ρ' h' ∧ LpOK l oz r x T (if a < l.length + 1 then a + 1 else a) ρ' ∧ ρ'.map RD.v = ρ.map RD.v := by
  have hl := o.hl
  have hfl := X.flen
  unfold lpSt loopB
  dsimp only [List.drop, List.headD]
  refine W.cps fun QQ0 qq0 => ?_
  refine W_if (T_and (T_cmp (W_loc S (.tail _ (.tail _ (.tail _ (.tail _ (.tail _ (.tail _ (.tail _ (.tail _ (.tail _ (.head _)))))))))) (W_binop (W_call (W_glob S G (g_len _) (by kernel_rfl) (W_w1 G kkb (A_cons (W_loc S (.tail _ (.tail _ (.head _))) (A_nil ⟨S.up, L_len X.Y.f (by omega) fun t1 => W_int fun t2 => I_add fun t3 => C_lt (T_bool ?_)⟩)))))))) rfl))
  by_cases hc : a < l.length + 1
  · rw [if_pos hc] at qq0
    refine split_t (by omega) (T_and (T_readers (a := a) (a' := a + 1) (b := a + 1) G (R.le (by decide)) rfl rfl S X o.ha o.z (by omega) (by k_extra "mem") (by k_extra "mem") (.inr (.inr ⟨_, _, _, _, _, rfl, rfl, rfl, fun Lc => ⟨_, rfl⟩⟩)) (by omega) hl (fun h' Q S' q => W_binop (W_loc S' (by k_extra "mem") (W_int fun t1 => I_add fun t2 => q t2))) hu (fun _ _ => by with_unfolding_all rfl) fun ρ1 h1 S1 X1 ea ev _ => ?_))
    refine split_ff (split_ff (W_nil ?_))
    exact qq0 _ _ ⟨rfl, ρ1, S1, X1, o.to ev ea, ev⟩
  · rw [if_neg hc] at qq0
    refine split_f (by omega) (split_ff (W_nil ?_))
    exact qq0 _ _ ⟨rfl, ρ, S, X, o, rfl⟩
end
theorem drop_app {α : Type} {T a r : List α} {p : Nat} (h : T.drop p = a ++ r) : T.drop (p + a.length) = r := by
  rw [← List.drop_drop, h, List.drop_left]
theorem drop_end {α : Type} {T r : List α} {p : Nat} (h : T.drop p = r) (hp : p ≤ T.length) : T.length = p + r.length := by
  rw [← h, List.length_drop]; omega
theorem Lexes.skip {T : List UInt8} {p q : Nat} {l : List (Int × TV × Nat)} (s : Skip T p q) (x : Lexes T q l) : Lexes T p l := by
  cases x with
  | eos _ n z => exact .eos p (n + 1) (.succ p q n _ s z)
  | tok _ n q' p' k tv l z t hk r => exact .tok p (n + 1) q' p' k tv l (.succ p q n q' s z) t hk r
theorem Lexes.one {T : List UInt8} {p p' : Nat} {k : Int} {tv : TV} {l : List (Int × TV × Nat)} (t : Tk T p k tv p') (hk : k ≠ 287) (x : Lexes T p' l) : Lexes T p ((k, tv, p') :: l) := .tok p 0 p p' k tv l (.zero p) t hk x
noncomputable def Gap (r : List UInt8) : Prop := r = [] ∨ ∃ r', r = 32 :: r'
theorem Gap.ne {T r : List UInt8} {p : Nat} (g : Gap r) (h : T.drop p = r) : isNewlineZ (sgn T p) = false ∧ sgn T p ≠ 46 := by
  rcases g with rfl | ⟨r', rfl⟩
  · rw [at_end h]; exact ⟨by decide, by decide⟩
  · rw [at_sgn h]; exact ⟨by decide, by decide⟩
theorem blank1 {T r : List UInt8} {p : Nat} {l : List (Int × TV × Nat)} (h : T.drop p = 32 :: r) (x : Lexes T (p + 1) l) : Lexes T p l := x.skip (.sp r h)
theorem piece_lexes {T P r : List UInt8} {p : Nat} {l : List (Int × TV × Nat)} (m : P ∈ lawPieces) (h : T.drop p = P ++ r) (g : Gap r) (x : Lexes T (p + P.length) l) : ∃ l', Lexes T p l' ∧ l'.length ≤ l.length + 1 := by
  simp only [lawPieces, List.mem_cons, List.not_mem_nil, or_false] at m
  have key : ∀ {k : Int} {tv : TV} {p' : Nat}, Tk T p k tv p' → k ≠ 287 → Lexes T p' l → ∃ l', Lexes T p l' ∧ l'.length ≤ l.length + 1 := fun t hk y => ⟨_, y.one t hk, Nat.le_refl _⟩
  have skp : ∀ {q : Nat}, Skip T p q → Lexes T q l → ∃ l', Lexes T p l' ∧ l'.length ≤ l.length + 1 := fun s y => ⟨_, y.skip s, Nat.le_succ _⟩
  have hP := drop_app h
  have n1 : ∀ {b c : UInt8} {r : List UInt8} {p : Nat}, T.drop p = b :: c :: r → T.drop (p + 1) = c :: r := at_next
  rcases m with rfl | rfl | rfl | rfl | rfl | rfl | rfl | rfl | rfl | rfl | rfl | rfl | rfl | rfl | rfl | rfl | rfl
  · exact key (.wx _ h) (by decide) (blank1 (at_next h) x)
  · exact key (.wand _ h) (by decide) (blank1 (at_next (n1 (n1 h))) x)
  · exact key (.n12 _ h) (by decide) (blank1 (at_next (n1 h)) x)
  · exact key (.n1F _ h) (by decide) (blank1 (at_next (n1 (n1 (n1 h)))) x)
  · exact key (.strn _ h) (by decide) x
  · exact key (.strq _ h) (by decide) x
  · exact key (.brk _ h) (by decide) x
  · have h3 : T.drop (p + 3) = 10 :: r := n1 (n1 (n1 h))
    exact skp (.com1 _ h) (x.skip (.nl _ h3 (g.ne hP).1))
  · exact skp (.com2 _ h) x
  · exact key (.dots2 _ h (g.ne hP).2) (by decide) x
  · exact key (.dots3 _ h) (by decide) x
  · have h2 : T.drop (p + 2) = 32 :: r := n1 (n1 h)
    exact key (.le _ h) (by decide) (blank1 h2 x)
  · have h2 : T.drop (p + 2) = 32 :: r := n1 (n1 h)
    exact key (.ne _ h) (by decide) (blank1 h2 x)
  · exact key (.minus _ h) (by decide) (blank1 (at_next h) x)
  · exact skp (.crlf _ h) x
  · exact key (.paren _ h) (by decide) (blank1 (at_next h) x)
  · exact key (.we1 _ h) (by decide) (blank1 (at_next (n1 (n1 h))) x)
theorem gaps_flat (ps : List (List UInt8)) : Gap ((ps.map (([32] : List UInt8) ++ ·)).flatten) := by
  cases ps with
  | nil => exact .inl rfl
  | cons P r => exact .inr ⟨_, rfl⟩
theorem lexes_flat {T : List UInt8} : ∀ (ps : List (List UInt8)) (p : Nat), p ≤ T.length → (∀ P ∈ ps, P ∈ lawPieces) → T.drop p = (ps.map (([32] : List UInt8) ++ ·)).flatten → ∃ l, Lexes T p l ∧ l.length ≤ ps.length
  | [], p, hp, _, h => by
    have : p = T.length := by have := drop_end h hp; simp at this; omega
    subst this
    exact ⟨[], .eos _ 0 (.zero _), Nat.le_refl _⟩
  | P :: ps, p, hp, hm, h => by
    have h' : T.drop p = 32 :: (P ++ (ps.map (([32] : List UInt8) ++ ·)).flatten) := h
    have h1 := at_next h'
    have h2 := drop_app h1
    have hz : p + 1 + P.length ≤ T.length := by
      have := drop_end h' hp
      simp only [List.length_cons, List.length_append] at this
      omega
    obtain ⟨l, x, hl⟩ := lexes_flat ps (p + 1 + P.length) hz (fun Q m => hm Q (.tail _ m)) h2
    obtain ⟨l', x', hl'⟩ := piece_lexes (hm P (.head _)) h1 (gaps_flat ps) x
    exact ⟨l', blank1 h' x', by rw [List.length_cons]; omega⟩
theorem lexes_join {ps : List (List UInt8)} (h1 : 1 ≤ ps.length) (hm : ∀ P ∈ ps, P ∈ lawPieces) : ∃ l, Lexes (joinL [32] ps) 0 l ∧ l.length ≤ ps.length := by
  cases ps with
  | nil => simp at h1
  | cons P ps =>
    have h : (joinL [32] (P :: ps)).drop 0 = P ++ (ps.map (([32] : List UInt8) ++ ·)).flatten := rfl
    have h2 := drop_app h
    rw [Nat.zero_add] at h2
    have hz : P.length ≤ (joinL [32] (P :: ps)).length := by
      show P.length ≤ (P ++ (ps.map (([32] : List UInt8) ++ ·)).flatten).length
      rw [List.length_append]; omega
    obtain ⟨l, x, hl⟩ := lexes_flat ps P.length hz (fun Q m => hm Q (.tail _ m)) h2
    obtain ⟨l', x', hl'⟩ := piece_lexes (l := l) (hm P (.head _)) h (gaps_flat ps) (by rw [Nat.zero_add]; exact x)
    exact ⟨l', x', by rw [List.length_cons]; omega⟩
theorem Skip.mono {T : List UInt8} {p q : Nat} (s : Skip T p q) : p ≤ q := by cases s <;> omega
theorem Skips.mono {T : List UInt8} {p q n : Nat} (s : Skips T p n q) : p ≤ q := by
  induction s with
  | zero p => exact Nat.le_refl _
  | succ p q n p' a b ih => exact Nat.le_trans a.mono ih
theorem Tk.mono {T : List UInt8} {p p' : Nat} {k : Int} {tv : TV} (t : Tk T p k tv p') : p ≤ p' := by cases t <;> omega
theorem sgn_drop {T : List UInt8} {m p : Nat} (h : m ≤ p) : sgn (T.drop m) (p - m) = sgn T p := by
  unfold sgn
  rw [List.getElem?_drop, show m + (p - m) = p by omega]
theorem Skip.cut {T : List UInt8} {m p q : Nat} (h : m ≤ p) (s : Skip T p q) : Skip (T.drop m) (p - m) (q - m) := by
  have e : (T.drop m).drop (p - m) = T.drop p := by rw [List.drop_drop, show m + (p - m) = p by omega]
  cases s with
  | sp r hd => rw [show p + 1 - m = p - m + 1 by omega]; exact .sp r (e.trans hd)
  | nl r hd hn => rw [show p + 1 - m = p - m + 1 by omega]; exact .nl r (e.trans hd) (by rw [show p - m + 1 = p + 1 - m by omega, sgn_drop (by omega)]; exact hn)
  | crlf r hd => rw [show p + 2 - m = p - m + 2 by omega]; exact .crlf r (e.trans hd)
  | com1 r hd => rw [show p + 3 - m = p - m + 3 by omega]; exact .com1 r (e.trans hd)
  | com2 r hd => rw [show p + 12 - m = p - m + 12 by omega]; exact .com2 r (e.trans hd)
theorem Skips.cut {T : List UInt8} {m p q n : Nat} (h : m ≤ p) (s : Skips T p n q) : Skips (T.drop m) (p - m) n (q - m) := by
  induction s with
  | zero p => exact .zero _
  | succ p q n p' a b ih => exact .succ _ _ _ _ (a.cut h) (ih (Nat.le_trans h a.mono))
theorem Tk.cut {T : List UInt8} {m p p' : Nat} {k : Int} {tv : TV} (h : m ≤ p) (t : Tk T p k tv p') : Tk (T.drop m) (p - m) k tv (p' - m) := by
  have e : (T.drop m).drop (p - m) = T.drop p := by rw [List.drop_drop, show m + (p - m) = p by omega]
  have z : ∀ d, p + d - m = p - m + d := fun d => by omega
  cases t with
  | eos hd => exact .eos (e.trans hd)
  | strn r hd => rw [z]; exact .strn r (e.trans hd)
  | strq r hd => rw [z]; exact .strq r (e.trans hd)
  | brk r hd => rw [z]; exact .brk r (e.trans hd)
  | dots2 r hd hs => rw [z]; exact .dots2 r (e.trans hd) (by rw [show p - m + 1 + 1 = p + 1 + 1 - m by omega, sgn_drop (by omega)]; exact hs)
  | dots3 r hd => rw [z]; exact .dots3 r (e.trans hd)
  | n12 r hd => rw [z]; exact .n12 r (e.trans hd)
  | n1F r hd => rw [z]; exact .n1F r (e.trans hd)
  | wx r hd => rw [z]; exact .wx r (e.trans hd)
  | wand r hd => rw [z]; exact .wand r (e.trans hd)
  | we1 r hd => rw [z]; exact .we1 r (e.trans hd)
  | minus r hd => rw [z]; exact .minus r (e.trans hd)
  | le r hd => rw [z]; exact .le r (e.trans hd)
  | ne r hd => rw [z]; exact .ne r (e.trans hd)
  | paren r hd => rw [z]; exact .paren r (e.trans hd)
theorem Lexes.bound {T : List UInt8} {p : Nat} {l : List (Int × TV × Nat)} (x : Lexes T p l) : p ≤ T.length := by
  induction x with
  | eos p n s => exact s.mono
  | tok p n q p' k tv l s t hk r ih => exact Nat.le_trans s.mono (Nat.le_trans t.mono ih)
theorem Lexes.cut {T : List UInt8} {m p : Nat} {l : List (Int × TV × Nat)} (x : Lexes T p l) (h : m ≤ p) : Lexes (T.drop m) (p - m) (l.map fun y => (y.1, y.2.1, y.2.2 - m)) := by
  induction x with
  | eos p n s => exact .eos _ n (by rw [List.length_drop]; exact s.cut h)
  | tok p n q p' k tv l s t hk r ih =>
    have h2 : m ≤ q := Nat.le_trans h s.mono
    exact .tok _ n (q - m) (p' - m) k tv _ (s.cut h) (t.cut h2) hk (ih (Nat.le_trans h2 t.mono))
theorem Lexes.at {T : List UInt8} {p : Nat} {l : List (Int × TV × Nat)} (x : Lexes T p l) : ∀ (i : Nat) (k : Int) (tv : TV) (p' : Nat), l[i]? = some (k, tv, p') → Lexes T p' (l.drop (i + 1)) := by
  induction x with
  | eos p n s => intro i k tv p' e; simp at e
  | tok p n q p1 k1 tv1 l s t hk r ih =>
    intro i k tv p' e
    cases i with
    | zero =>
      simp only [List.getElem?_cons_zero, Option.some.injEq, Prod.mk.injEq] at e
      obtain ⟨rfl, rfl, rfl⟩ := e
      exact r
    | succ i => exact ih i k tv p' (by simpa using e)
theorem Lexes.tail {T : List UInt8} {l : List (Int × TV × Nat)} (x : Lexes T 0 l) {i : Nat} {k : Int} {tv : TV} {p' : Nat} (e : l[i]? = some (k, tv, p')) : p' ≤ T.length ∧ ∃ l', Lexes (T.drop p') 0 l' ∧ toksOf l' = (toksOf l).drop (i + 1) := by
  have y := x.at i k tv p' e
  refine ⟨y.bound, _, by have := y.cut (Nat.le_refl _); rwa [Nat.sub_self] at this, ?_⟩
  unfold toksOf
  rw [List.map_map, ← List.map_drop]
  rfl
noncomputable def spB : { b : List Stmt // ∃ t o p, lpSt 3 = .If t b o p } := ⟨_, _, _, _, rfl⟩
noncomputable def spSt (k : Nat) : Stmt := (spB.1.drop k).headD (.Pass default)
section
variable {A : Around} {hE h h' : Heap} {oz : Value → Nat ⊕ List UInt8} {toks : List (Int × TV)} {v : Value} {a a' b m : Nat} {D M F : List Addr} {ρ ρ' : List RD} {L cup sl fl pl ml rl it r x : Addr} {k k' : Nat} {i c : Int} {fvs pvs : List Value} {l : List (Int × TV × Nat)} {s t p : Value} {u ta tT : Tok} {tn rs bh : Option Value} {T : List UInt8}
theorem Ints.at {vs : List Value} {ns : List Int} (x : Ints vs ns) : ∀ (i : Nat) (n : Int), ns[i]? = some n → ∃ t, vs[i]? = some (Value.int n t) := by
  induction x with
  | nil => intro i n e; simp at e
  | cons n t r ih =>
    intro i n' e
    cases i with
    | zero => exact ⟨t, by simpa using e⟩
    | succ i => exact ih i n' (by simpa using e)
theorem sp_text {p1 p2 p3 p4 p5 p6 p7 p8 p9 p10 p11 p12 p13 : Pos} {Q : Value → Heap → Prop} (G : GG w hT) (R : Room A 9) (S : St hT hE [] (lawEnv L) (lpFr s (.bytes T.toArray tT) (.ref pl) fl r x m u rl ml a ta tn rs bh) (fun _ => True) h) (xp : IsL h pl pvs) (pi : Ints pvs (placesOf l)) (hz : T.length ≤ 900) (hl : l.length ≤ 11) (lx : Lexes T 0 l) (ha : a ≤ l.length)
    (q : ∀ T' l' t' h', Keeps h h' [] → T'.length ≤ 900 → Lexes T' 0 l' → toksOf l' = (toksOf l).drop a → Q (.bytes T'.toArray t') h') :
    W prog w A (eval (.IfExp (.Compare (.Name (Str.ofString "at") p1) [.Gt] [.Constant (.int 0) 0 p2] p3) (.Subscript (.Name (Str.ofString "text") p4) (.Slice (some (.Subscript (.Name (Str.ofString "places") p5) (.BinOp (.Name (Str.ofString "at") p6) .Sub (.Constant (.int 1) 0 p7) p8) p9)) none none p10) p11) (.Name (Str.ofString "text") p12) p13) (lawEnv L)) h Q := by
  have lp : pvs.length = l.length := by rw [pi.length]; unfold placesOf; rw [List.length_map]
  k_extra "ww"
  · have hi : a - 1 < l.length := by omega
    have e0 := List.getElem?_eq_getElem hi
    generalize l[a - 1] = y at e0
    obtain ⟨yk, ytv, p'⟩ := y
    obtain ⟨t1, e1⟩ := pi.at (a - 1) p' (by unfold placesOf; rw [List.getElem?_map, e0]; rfl)
    obtain ⟨hp, l', lx', el'⟩ := lx.tail e0
    refine L_item (j := a - 1) xp (by omega) e1 (by omega) (P_none fun sa h2 n2 k2 x2 => B_slice (by omega) x2 (.int _ _) .none (fun t' => ?_) (by with_unfolding_all rfl)) (by with_unfolding_all rfl)
    rw [cut_from]
    exact q _ l' t' h2 k2 (by rw [List.length_drop]; omega) lx' (by rw [el']; congr 1; omega)
  · obtain rfl : a = 0 := by omega
    exact q T l tT _ Keeps.refl hz lx rfl
theorem tokN_at {a n : Nat} : tokN (toks.drop a) n = tokN toks (a + n) := by
  unfold tokN
  rw [List.getD_eq_getElem?_getD, List.getD_eq_getElem?_getD, List.getElem?_drop]
noncomputable abbrev tk2b : List (Str × NameKind) := [(Str.ofString ".0", .local), (Str.ofString "token", .local)]
theorem sp_row {fr : Fra} {q1 q2 q3 q4 q5 q6 q7 q8 pos : Pos} {scope : Scope} {Q : Value → Heap → Prop} (R : Room A 9) (hk : scope.kind = .function) (hn : scope.names = tk2b) (S : St hT hE [] (lawEnv L) fr (fun _ => True) h) (hf : (Str.ofString "found", some (.ref fl)) ∈ fr) (hat : (Str.ofString "at", some (.int (a : Nat) ta)) ∈ fr) (xf : IsL h fl fvs) (D : FoundV h fvs toks) (hl : toks.length ≤ 11) (ha : a ≤ toks.length)
    (q : ∀ acc us h', h.get? acc = none → IsL h' acc us → DataAt h' us (toks.drop a) → Keeps h h' [] → Q (.ref acc) h') :
    W prog w A (eval (.ListComp (.Tuple [.Name (Str.ofString "token") q1, .Constant (.int 5) 0 q2] 0 q3) [⟨.Name (Str.ofString "token") q4, .Subscript (.Name (Str.ofString "found") q5) (.Slice (some (.Name (Str.ofString "at") q6)) none none q7) q8, [], 0⟩] scope pos) (lawEnv L)) h Q := by
  have hfl := D.len
  have hxs : (fvs.drop a).length = fvs.length - a := List.length_drop
  have hne : ∀ {hh : Heap} {it jt : Addr} {n : Nat}, hh.IsListIter it jt n → IsL hh jt (fvs.drop a) → jt ≠ it := fun li xl e => (Neu.li li).l _ (e ▸ xl)
  refine comp_gen (names := tk2b) (ks := [Str.ofString ".0", Str.ofString "token"]) (n := fvs.length - a) (I := fun it jt n hh => hh.IsListIter it jt n ∧ IsL hh jt (fvs.drop a)) (E := PairE (toks.drop a)) S.up S.ok hk (by omega) (closureFor_none (by rw [hn]; decide)) (by rw [hn]; decide) (by rw [hn]; rfl) (by rw [hn]; decide +kernel) (by decide) (by decide +kernel) (nodupB_iff (by kernel_rfl)) (by decide +kernel) (by decide +kernel) ?_ ?_ ?_ ?_ ?_ ?_ ?_ ?_
  · intro Q q
    refine W_sub (W_loc S hf (W_slice (P_some (W_loc S hat (P_none fun sa h1 n1 k1 x1 => L_slice (xf.keeps k1 List.not_mem_nil) (by omega) x1 (.int _ _) .none (fun sl2 h2 n2 k2 x2 => ?_) (by with_unfolding_all rfl))))))
    rw [cut_from] at x2
    refine P_list x2 fun it h3 n3 k3 li => q it sl2 h3 ((k1.trans k2).trans k3) ⟨li, x2.keeps k3 List.not_mem_nil⟩ fun y m => ?_
    rcases List.mem_cons.mp m with rfl | m
    · obtain ⟨o, e, _⟩ := li; exact ⟨none_up (k1.trans k2).grown n3, o, e⟩
    · rw [List.mem_singleton] at m; subst m; exact ⟨none_up k1.grown n2, (x2.keeps k3 List.not_mem_nil).some⟩
  · rintro it jt h1 Q ⟨i, _⟩ q
    exact W.any fun g d tk os QQ EE k => wpAny_pyIter_listiter (s := ⟨h1, g, d, tk, os⟩) i (k _ _ _ q)
  · rintro it jt i h1 ⟨li, xl⟩ y m
    rcases List.mem_cons.mp m with rfl | m
    · exact NTok.iter li
    · rw [List.mem_singleton] at m; subst m; exact ⟨NTok.list xl, NTup.list xl⟩
  · rintro it jt i h1 h2 F ⟨⟨o, e, b⟩, xl⟩ K n
    exact ⟨⟨o, K _ _ e fun m => (n _ m).1 (.head _), b⟩, xl.keeps K fun m => (n _ m).1 (.tail _ (.head _))⟩
  · intro h1 h2 F i r e K n k tv ek
    obtain ⟨p, a, ln, t, e1, e2, e3, e4⟩ := e k tv ek
    exact ⟨p, a, ln, t, e1, e2.keep K fun x m => (n x m).2, e3.keeps K fun x m => (n x m).1, e4⟩
  · rintro it jt i h1 Lc fr ek hi ⟨li, xl⟩ nL nLh hnw S2
    obtain ⟨u0, u1, rfl⟩ := keys2 ek
    have hi2 : i < (fvs.drop a).length := by omega
    obtain ⟨v, hv⟩ : ∃ v, (fvs.drop a)[i]? = some v := ⟨_, List.getElem?_eq_getElem hi2⟩
    have nLi : Lc ≠ it := fun q => nL (q ▸ .head _)
    have nLj : Lc ≠ jt := fun q => nL (q ▸ .tail _ (.head _))
    refine N_list li xl hv fun h2 k2 li2 => ⟨_, rfl, ?_⟩
    refine W.of_eq (t' := Pure.pure ()) rfl (W.pure ?_)
    have S3 := S2.step (P' := fun _ => True) k2 ((all1 (.inl (.head _)))) (notIn1 nLi) trivial (fun _ _ _ _ => trivial)
    have xl2 := xl.keeps k2 (notIn1 (hne li xl))
    refine A_name (W_storeK S3 (.tail .head) fun h3 k3 S4 => ?_)
    have xl3 := xl2.keeps k3 (notIn1 (Ne.symm nLj))
    obtain ⟨o, e, b⟩ := li2
    have li3 : h3.IsListIter it jt (i + 1) := ⟨o, k3 _ _ e (notIn1 (Ne.symm nLi)), b⟩
    have K13 : Keeps h1 h3 [Lc, it, jt] := (k2.mono (all1 (.tail _ (.head _)))).trans (k3.mono (all1 (.head _)))
    refine W_tuple (A_cons (W_loc S4 (.tail _ (.head _)) (A_cons (W_int fun t5 => A_nil ⟨Nat.le_of_ble_eq_true rfl, fun pa h4 n4 k4 x4 => ?_⟩))))
    refine ⟨⟨⟨o, k4 _ _ (k3 _ _ e (notIn1 (Ne.symm nLi))) List.not_mem_nil, b⟩, xl3.keeps k4 List.not_mem_nil⟩, ⟨_, rfl, S4.same k4⟩, fun kk tv ek => ?_, K13.trans k4.nil⟩
    rw [List.getElem?_drop] at hv ek
    obtain ⟨v', e1, T1⟩ := D.at_ (a + i) kk tv ek
    obtain rfl : v = v' := Option.some.inj (hv.symm.trans e1)
    obtain ⟨a0, rfl, T2⟩ := T1.keeps (S4.same k4).kp fun x m => NTok.none (hnw x m)
    exact ⟨pa, a0, 5, t5, rfl, x4, T2, by decide, by decide⟩
  · rintro it jt h1 ⟨li, xl⟩
    exact N_list_end R.hh li xl (by omega) fun h2 k2 => ⟨rfl, k2.mono (all1 (.head _))⟩
  · intro acc us h1 nacc xacc ulen E1 k1
    refine q acc us h1 nacc xacc ⟨by rw [ulen, List.length_drop]; omega, by rw [List.length_drop]; omega, fun i kk tv e => ?_⟩ k1
    have hi : i < us.length := by have := (List.getElem?_eq_some_iff.mp e).1; rw [List.length_drop] at this; omega
    obtain ⟨p, a, ln, t, e1, e2⟩ := E1 i _ (List.getElem?_eq_getElem hi) kk tv e
    exact ⟨p, a, ln, t, by rw [List.getElem?_eq_getElem hi, e1], e2⟩
theorem LexC.has6 {X : LX} {bl : Addr} {bs : List UInt8} {al : List (Str × Value)} (c : LexC prog w hT h X bl bs al) : ∀ x ∈ [X.l, X.dl, X.lim, X.dlim, X.kd, bl], ∃ o, h.get? x = some o := by
  obtain ⟨a1, a2, a3, a4, a5, a6⟩ := c.has
  intro y m
  simp only [List.mem_cons, List.not_mem_nil, or_false] at m
  rcases m with rfl | rfl | rfl | rfl | rfl | rfl <;> assumption
theorem sp_s0 (G : GG w hT) (R : Room A 9) (S : St hT hE [] (lawEnv L) (lpFr s (.bytes T.toArray tT) (.ref pl) fl r x m u rl ml a ta tn rs bh) (fun _ => True) h) (X : LA prog w hT hE oz L cup sl fl pl ml rl it k i c fvs pvs l ρ h) (hz : T.length ≤ 900) (hl : l.length ≤ 11) (lx : Lexes T 0 l) (ha : a ≤ l.length) :
    W prog w A (exec (spSt 0) (lawEnv L)) h fun f h' => f = .next ∧ ∃ T' l' r2 dr2 pl3 Y bl j lcur, Lexes T' 0 l' ∧ toksOf l' = (toksOf l).drop a ∧ Y.l ≠ r2 ∧ St hT hE [] (lawEnv L) (lpFr s (.bytes T.toArray tT) (.ref pl) fl r x m u rl ml a ta tn (some (.ref Y.l)) (some (.ref r2))) (fun _ => True) h' ∧ LA prog w hT hE oz L cup sl fl pl ml rl it k i c fvs pvs l ρ h' ∧
      L4 prog w hT hE (fun v => if v = .ref r2 then .inl a else if v = .ref Y.l then .inr T' else oz v) (toksOf l) L [cup, ml] a ρ r2 dr2 pl3 Y bl j lcur T' h' := by
  have ltok : (toksOf l).length = l.length := by unfold toksOf; rw [List.length_map]
  unfold spSt spB
  dsimp only [List.drop, List.headD]
  refine W.cps fun QQ0 qq0 => ?_
  refine W_asg2s R.hh (W_tuple (A_cons (W_call (W_glob S G (g_Lexer _) (by kernel_rfl) (W_w1 G (kk_Lexer _) (A_cons (sp_text G R S X.Y.p X.Y.pi hz hl lx ha fun T' l' t' h1 k1 hz' lx' el' => ?_)))))))
  have S0 := S
  have X0 := X
  replace S := S.same k1
  k_extra "ww"
  refine (lim_new_ G S.up (R.le (by decide))).mono ?_
  rintro _ h2 ⟨⟨lim, dlim, rfl, nl1, nl2, LM⟩, k2⟩
  replace S := S.same k2
  refine A_nil ⟨S.up, ?_⟩
  refine (lex_new_ G S.up (R.le (by decide)) hz' LM).mono ?_
  rintro _ h3 ⟨⟨Y, bl, lcur, j, rfl, eT, el, cc, jk, TL, y1, y2, y3, y4, ed⟩, k3⟩
  replace S := S.same k3
  have K13 : Keeps h1 h3 [] := k2.trans k3
  have K03 : Keeps h h3 [] := k1.trans K13
  refine A_cons (W_call (W_glob S G (g_TokenRow _) (by kernel_rfl) (W_w1 G (kk_TokenRow _) (A_cons (sp_row (a := a) (toks := toksOf l) R rfl rfl S (by k_extra "mem") (by k_extra "mem") (X.Y.f.keeps K03 List.not_mem_nil) (X.Y.D.keeps K03 fun _ m => nomatch m) (by omega) (by omega) fun acc us h4 nacc xacc D4 k4 => ?_)))))
  replace S := S.same k4
  refine A_nil ⟨S.up, ?_⟩
  refine (row_new_ G S.up (R.le (by decide)) xacc D4).mono ?_
  rintro _ h5 ⟨⟨r2, dr2, cur, rfl, R2, T2, nr, ndr⟩, k5⟩
  have ndT := none_up S.up ndr
  replace S := S.same k5
  have K35 : Keeps h3 h5 [] := k4.trans k5
  have nY : Y.l ≠ r2 := fun q => by obtain ⟨o, e⟩ := (cc.keeps k4 ⟨List.not_mem_nil, List.not_mem_nil, List.not_mem_nil, List.not_mem_nil, List.not_mem_nil, List.not_mem_nil⟩).has6 _ (.head _); rw [q, nr] at e; cases e
  have Rd : Reader prog w hT (fun v => if v = .ref r2 then .inl a else if v = .ref Y.l then .inr T' else oz v) (toksOf l) h5 (.ref r2) a [r2, dr2, acc] [dr2] := by
    rw [tokN_at] at T2
    exact .row r2 dr2 acc 0 a a cur us _ ⟨R2, xacc.keeps k5 List.not_mem_nil, D4.keeps k5 (fun x m => nomatch m), fun n => tokN_at, rfl, T2, ndT, by omega⟩ (by rw [if_pos rfl])
  refine A_nil ⟨Nat.le_of_ble_eq_true rfl, fun tp h6 na k6 xt => ⟨tp, _, _, rfl, xt, fun h7 k7 => ?_⟩⟩
  have K57 : Keeps h5 h7 [] := k6.trans k7
  have K37 : Keeps h3 h7 [] := K35.trans K57
  have nn : ∀ y : Addr, y ∉ ([] : List Addr) := fun _ => List.not_mem_nil
  have c7 := cc.keeps K37 ⟨nn _, nn _, nn _, nn _, nn _, nn _⟩
  have cs0 : ∀ z ∈ [cup, ml], ∃ o, h.get? z = some o := fun z m => by
    rcases List.mem_cons.mp m with rfl | m
    · obtain ⟨_, cl⟩ := X0.Y.pb.cupL; exact cl.some
    · rw [List.mem_singleton] at m; subst m; obtain ⟨_, mx, _⟩ := X0.m.x; exact mx.some
  have six : ∀ y ∈ [Y.l, Y.dl, Y.lim, Y.dlim, Y.kd, bl], h.get? y = none := fun y m => by
    simp only [List.mem_cons, List.not_mem_nil, or_false] at m
    rcases m with rfl | rfl | rfl | rfl | rfl | rfl
    · exact none_up (k1.trans k2).grown y1
    · exact none_up (k1.trans k2).grown y2
    · rw [el]; exact none_up k1.grown nl1
    · rw [ed]; exact none_up k1.grown nl2
    · exact none_up (k1.trans k2).grown y4
    · exact none_up (k1.trans k2).grown y3
  have three : ∀ y ∈ [r2, dr2, acc], h3.get? y = none := fun y m => by
    simp only [List.mem_cons, List.not_mem_nil, or_false] at m
    rcases m with rfl | rfl | rfl
    · exact none_up k4.grown nr
    · exact none_up k4.grown ndr
    · exact nacc
  have N : L4 prog w hT hE (fun v => if v = .ref r2 then .inl a else if v = .ref Y.l then .inr T' else oz v) (toksOf l) L [cup, ml] a ρ r2 dr2 acc Y bl j lcur T' h7 :=
    ⟨Rd.keeps K57 fun x m => (nomatch m), c7, jk, eT, fun y m => by
      have e : h.get? y = none := by
        have q : y ∈ [Y.l, Y.dl, Y.lim, Y.dlim, Y.kd, bl] ∨ y ∈ [r2, dr2, acc] := by
          simp only [List.mem_cons, List.not_mem_nil, or_false] at m ⊢
          rcases m with h | h | h | h | h | h | h | h | h <;> simp [h]
        rcases q with q | q
        · exact six y q
        · exact none_up K03.grown (three y q)
      exact ⟨S0.ne e, (fun z mz => (fresh_ne e (cs0 z mz)).symm), none_up S0.kp.grown e, fun q mq mm => by obtain ⟨o, z⟩ := (X0.Z.R.ok q mq).has _ mm; rw [e] at z; cases z⟩, fun y m mm => by
      obtain ⟨o, e⟩ := cc.has6 y m
      rw [three y mm] at e; cases e⟩
  replace S := S.same K57
  have X7 := X0.grown (K03.trans K37)
  refine W_storeK S (.tail (.tail (.tail (.tail (.tail (.tail (.tail (.tail (.tail (.tail (.tail (.tail .head)))))))))))) fun h8 k8 S8 => ?_
  have n7 := S.neu (by rfl)
  have f7 := S.nf
  refine W_storeK S8 (.tail (.tail (.tail (.tail (.tail (.tail (.tail (.tail (.tail (.tail (.tail .head))))))))))) fun h9 k9 S9 => ?_
  have n8 := S8.neu (by rfl)
  exact qq0 _ _ ⟨rfl, T', l', r2, dr2, acc, Y, bl, j, lcur, lx', el', nY, S9, (X7.loc k8 n7 f7).loc k9 n8 S8.nf, (N.move k8 n7).move k9 n8⟩
end
section
variable {A : Around} {hE h h' : Heap} {oz oz' : Value → Nat ⊕ List UInt8} {toks : List (Int × TV)} {v : Value} {a a' b m : Nat} {D M F : List Addr} {ρ ρ' : List RD} {L cup sl fl pl ml rl it r x r2 dr2 pl3 bl : Addr} {Y : LX} {k k' : Nat} {i c : Int} {fvs pvs : List Value} {l : List (Int × TV × Nat)} {s t p : Value} {u ta tT : Tok} {tn rs bh : Option Value} {T : List UInt8}
theorem LA.keeps (x : LA prog w hT hE oz L cup sl fl pl ml rl it k i c fvs pvs l ρ h) (K : Keeps h h' F) (n : ∀ y ∈ F, Neu h y ∧ NF h y ∧ ∀ q ∈ ρ, y ∉ q.D) : LA prog w hT hE oz L cup sl fl pl ml rl it k i c fvs pvs l ρ h' :=
  have nu : ∀ y ∈ F, Neu h y := fun y m => (n y m).1
  ⟨x.Y.neu K nu, x.Z.keeps K fun y m => ⟨⟨(nu y m).k, (nu y m).t⟩, (n y m).2.2⟩, x.rd.neu K nu, x.rn, x.m.neu K nu, x.mn, ri_mv x.ri K fun y m => (n y m).2.1, x.new⟩
theorem Reader.reoz (e : oz' v = oz v) (R : Reader prog w hT oz toks h v a D M) : Reader prog w hT oz' toks h v a D M := by
  cases R with
  | row r dr pl i off a cur vs tk x ho => exact .row r dr pl i off _ cur vs tk x (e.trans ho)
  | lex X bl bs pos j cur ahead a x ho => exact .lex X bl bs pos j cur ahead _ x (e.trans ho)
theorem Reader.head (R : Reader prog w hT oz toks h v a D M) : ∃ y, v = .ref y ∧ y ∈ D := by
  cases R with
  | row r dr pl i off a cur vs tk x ho => exact ⟨r, rfl, .head _⟩
  | lex X bl bs pos j cur ahead a x ho => exact ⟨X.l, rfl, .head _⟩
theorem LA.reoz (x : LA prog w hT hE oz L cup sl fl pl ml rl it k i c fvs pvs l ρ h) (e : ∀ q ∈ ρ, oz' q.v = oz q.v) : LA prog w hT hE oz' L cup sl fl pl ml rl it k i c fvs pvs l ρ h :=
  ⟨x.Y, ⟨⟨fun q m => (x.Z.R.ok q m).reoz (e q m), x.Z.R.pw⟩, x.Z.n⟩, x.rd, x.rn, x.m, x.mn, x.ri, x.new⟩
theorem LA.cs0 (X : LA prog w hT hE oz L cup sl fl pl ml rl it k i c fvs pvs l ρ h) : ∀ z ∈ [cup, ml], ∃ o, h.get? z = some o := fun z m => by
  rcases List.mem_cons.mp m with rfl | m
  · obtain ⟨_, cl⟩ := X.Y.pb.cupL; exact cl.some
  · rw [List.mem_singleton] at m; subst m; obtain ⟨_, mx, _⟩ := X.m.x; exact mx.some
theorem sp_s1 {j : LJ} {lcur : Value} {l' : List (Int × TV × Nat)} (G : GG w hT) (R : Room A 9) (S : St hT hE [] (lawEnv L) (lpFr s t p fl r x m u rl ml a ta tn (some (.ref Y.l)) bh) (fun _ => True) h) (X : LA prog w hT hE oz L cup sl fl pl ml rl it k i c fvs pvs l ρ h)
    (Z : L4 prog w hT hE oz' (toksOf l) L [cup, ml] a ρ r2 dr2 pl3 Y bl j lcur T h) (ho : oz' (.ref Y.l) = .inr T) (lx : Lexes T 0 l') (el : toksOf l' = (toksOf l).drop a) :
    W prog w A (exec (spSt 1) (lawEnv L)) h fun f h' => f = .next ∧ ∃ bl', St hT hE [] (lawEnv L) (lpFr s t p fl r x m u rl ml a ta tn (some (.ref Y.l)) bh) (fun _ => True) h' ∧ LA prog w hT hE oz L cup sl fl pl ml rl it k i c fvs pvs l ρ h' ∧ Two prog w hT hE oz' (toksOf l) L [cup, ml] a ρ r2 dr2 pl3 Y bl' h' := by
  unfold spSt spB
  dsimp only [List.drop, List.headD]
  refine W.cps fun QQ0 qq0 => ?_
  refine W_exprR ?_ rfl rfl
  k_extra "ww"
  refine W_getm (S.X G) Z.c.i (ok_Lexer _) (m_next _).1 (m_next _).2 rfl ?_
  k_extra "ww"
  refine (first_next G (R.le (by decide)) S X.cs0 Z ho lx el fun q m => (X.Z.R.ok q m).has).mono ?_
  rintro v h1 ⟨bl', kk, nu, S1, Tw⟩
  exact qq0 _ _ ⟨rfl, bl', S1, X.keeps kk fun y m => ⟨(nu y m).1, (nu y m).2.1, (nu y m).2.2.2.2⟩, Tw⟩
theorem sp_s2 (S : St hT hE [] (lawEnv L) (lpFr s t p fl r x m u rl ml a ta tn (some (.ref Y.l)) (some (.ref r2))) (fun _ => True) h) (X : LA prog w hT hE oz L cup sl fl pl ml rl it k i c fvs pvs l ρ h)
    (Tw : Two prog w hT hE oz' (toksOf l) L [cup, ml] a ρ r2 dr2 pl3 Y bl h) (e : ∀ q ∈ ρ, oz' q.v = oz q.v) (hz : ρ.length ≤ 10) :
    W prog w A (exec (spSt 2) (lawEnv L)) h fun f h' => f = .next ∧ ∃ rl', St hT hE [] (lawEnv L) (lpFr s t p fl r x m u rl' ml a ta tn (some (.ref Y.l)) (some (.ref r2))) (fun _ => True) h' ∧
      LA prog w hT hE oz' L cup sl fl pl ml rl' it k i c fvs pvs l (ρ ++ [⟨.ref Y.l, a, [Y.l, Y.dl, Y.lim, Y.dlim, Y.kd, bl], [Y.dl, bl]⟩, ⟨.ref r2, a, [r2, dr2, pl3], [dr2]⟩]) h' := by
  unfold spSt spB
  dsimp only [List.drop, List.headD]
  refine W.cps fun QQ0 qq0 => ?_
  refine W_assign (W_binop (W_loc S (.tail _ (.tail _ (.tail _ (.tail _ (.tail _ (.tail _ (.tail _ (.head _)))))))) ?_)) rfl
  refine W_list (A_cons (W_loc S (.tail _ (.tail _ (.tail _ (.tail _ (.tail _ (.tail _ (.tail _ (.tail _ (.tail _ (.tail _ (.tail _ (.head _)))))))))))) ?_))
  refine A_cons (W_loc S (.tail _ (.tail _ (.tail _ (.tail _ (.tail _ (.tail _ (.tail _ (.tail _ (.tail _ (.tail _ (.tail _ (.tail _ (.head _))))))))))))) ?_)
  refine A_nil ⟨Nat.le_of_ble_eq_true rfl, fun la h1 n1 k1 x1 => ?_⟩
  refine L_cat (X.rd.keeps k1 List.not_mem_nil) x1 (by rw [List.length_map]; show ρ.length + 2 ≤ _; omega) fun rl' h2 n2 k2 x2 => ?_
  have K02 : Keeps h h2 [] := k1.trans k2
  have S2 := S.same K02
  refine W_storeK S2 (.tail (.tail (.tail (.tail (.tail (.tail (.tail .head))))))) fun h3 k3 S3 => ?_
  have nu := S2.neu (by rfl)
  have X3 := ((X.reoz e).grown K02).loc k3 nu S2.nf
  have n0 : h.get? rl' = none := none_up k1.grown n2
  have mv : Keeps h h3 [L] := K02.nil.trans k3
  have nL0 := S.neu (by rfl)
  have R1 := Tw.R1.keeps mv (all1 ⟨nL0.k, nL0.t, fun mm => (Tw.n1 _ mm).1 rfl⟩)
  have R2 := Tw.R2.keeps mv (all1 ⟨nL0.k, nL0.t, fun mm => (Tw.n2 _ mm).1.1 rfl⟩)
  have two : ∀ {P : RD → Prop}, (∀ q ∈ ρ, P q) → P ⟨.ref Y.l, a, [Y.l, Y.dl, Y.lim, Y.dlim, Y.kd, bl], [Y.dl, bl]⟩ → P ⟨.ref r2, a, [r2, dr2, pl3], [dr2]⟩ → ∀ q ∈ ρ ++ [⟨.ref Y.l, a, [Y.l, Y.dl, Y.lim, Y.dlim, Y.kd, bl], [Y.dl, bl]⟩, ⟨.ref r2, a, [r2, dr2, pl3], [dr2]⟩], P q := fun p0 p1 p2 q m => by
    rw [List.mem_append] at m
    rcases m with m | m
    · exact p0 q m
    · simp only [List.mem_cons, List.not_mem_nil, or_false] at m
      rcases m with rfl | rfl
      · exact p1
      · exact p2
  have alive1 : ∀ y, h.get? y = none → y ∉ [r2, dr2, pl3] := fun y e m => by obtain ⟨o, q⟩ := Tw.R1.has _ m; rw [e] at q; cases q
  have alive2 : ∀ y, h.get? y = none → y ∉ [Y.l, Y.dl, Y.lim, Y.dlim, Y.kd, bl] := fun y e m => by obtain ⟨o, q⟩ := Tw.R2.has _ m; rw [e] at q; cases q
  obtain ⟨mvs, mx, _⟩ := X.m.x
  have sm : ∀ y ∈ [dr2], y ∈ [r2, dr2, pl3] := fun y m => Tw.R1.sub y m
  have sl2 : ∀ y ∈ [Y.dl, bl], y ∈ [Y.l, Y.dl, Y.lim, Y.dlim, Y.kd, bl] := fun y m => Tw.R2.sub y m
  refine qq0 _ _ ⟨rfl, rl', S3, X3.Y, ⟨⟨two (fun q m => X3.Z.R.ok q m) R2 R1, ?_⟩, two (fun q m => X3.Z.n q m) ⟨fun mm => (Tw.n2 _ mm).1.1 rfl, fun mm => (Tw.n2 _ mm).1.2.1 _ (.head _) rfl⟩ ⟨fun mm => (Tw.n1 _ mm).1 rfl, fun mm => (Tw.n1 _ mm).2.1 _ (.head _) rfl⟩⟩, ?_, ⟨(let ⟨_, cl⟩ := X.Y.pb.cupL; fresh_ne n0 cl.some), two (fun q m mm => by obtain ⟨o, z⟩ := (X.Z.R.ok q m).has _ mm; rw [n0] at z; cases z) (alive2 _ n0) (alive1 _ n0)⟩, X3.m, ⟨X3.mn.1, two X3.mn.2 (fun mm => (Tw.n2 _ mm).1.2.1 _ (.tail _ (.head _)) rfl) (fun mm => (Tw.n1 _ mm).2.1 _ (.tail _ (.head _)) rfl)⟩, X3.ri, fun y m => ?_⟩
  · refine List.pairwise_append.mpr ⟨X3.Z.R.pw, List.pairwise_cons.mpr ⟨fun q m => ?_, List.pairwise_singleton _ _⟩, fun q mq q2 m2 => ?_⟩
    · rw [List.mem_singleton] at m; subst m
      exact RD.off_symm Tw.off
    · have sub := (X.Z.R.ok q mq).sub
      simp only [List.mem_cons, List.not_mem_nil, or_false] at m2
      rcases m2 with rfl | rfl
      · exact ⟨fun y my mm => (Tw.n2 y mm).1.2.2.2 q mq (sub y my), fun y my mm => (Tw.n2 y (sl2 y my)).1.2.2.2 q mq mm⟩
      · exact ⟨fun y my mm => (Tw.n1 y mm).2.2.2 q mq (sub y my), fun y my mm => (Tw.n1 y (sm y my)).2.2.2 q mq mm⟩
  · rw [List.map_append]
    exact x2.neu k3 (neu1 nu)
  · rw [muts, List.flatMap_append, List.mem_append] at m
    rcases m with m | m
    · exact X3.new y m
    · simp only [List.flatMap_cons, List.flatMap_nil, List.append_nil, List.mem_append] at m
      rcases m with m | m
      · exact (Tw.n2 y (sl2 y m)).1.2.2.1
      · exact (Tw.n1 y (sm y m)).2.2.1
end
section
variable {A : Around} {hE h h' : Heap} {oz oz' : Value → Nat ⊕ List UInt8} {toks : List (Int × TV)} {v : Value} {a a' b m : Nat} {D M F : List Addr} {ρ ρ' : List RD} {L cup sl fl pl ml rl it r x r2 dr2 pl3 bl : Addr} {Y : LX} {k k' : Nat} {i c : Int} {fvs pvs : List Value} {l : List (Int × TV × Nat)} {s t p : Value} {u ta tT : Tok} {tn rs bh : Option Value} {T : List UInt8}
theorem sp_s3 {y z : Addr} {q1 q2 : RD} (G : GG w hT) (R : Room A 9) (hu : A.units + 5 < cLine) (S : St hT hE [] (lawEnv L) (lpFr s t p fl r x m u rl ml a ta tn (some (.ref y)) (some (.ref z))) (fun _ => True) h) (X : LA prog w hT hE oz L cup sl fl pl ml rl it k i c fvs pvs l ρ h)
    (m1 : q1 ∈ ρ) (e1 : q1.v = .ref y) (a1 : q1.a = a) (m2 : q2 ∈ ρ) (e2 : q2.v = .ref z) (a2 : q2.a = a) (ha : a ≤ l.length) (hl : l.length ≤ 11) :
    W prog w A (exec (spSt 3) (lawEnv L)) h fun f h' => f = .next ∧ St hT hE [] (lawEnv L) (lpFr s t p fl r x m u rl ml a ta tn (some (.ref y)) (some (.ref z))) (fun _ => True) h' ∧ LA prog w hT hE oz L cup sl fl pl ml rl it k i c fvs pvs l ρ h' := by
  have ltok : (toksOf l).length = l.length := by unfold toksOf; rw [List.length_map]
  unfold spSt spB
  dsimp only [List.drop, List.headD]
  refine W.cps fun Q qq => ?_
  have R1 := X.Z.R.ok q1 m1
  rw [e1, a1] at R1
  refine W_if (T_cmp (W_list (A_cons (W_call (W_glob S G (g_law_told _) (by kernel_rfl) (W_w1 G (kk_law_told _) (A_cons (W_attr (W_loc S (.tail _ (.tail _ (.tail _ (.tail _ (.tail _ (.tail _ (.tail _ (.tail _ (.tail _ (.tail _ (.tail _ (.head _)))))))))))) (R1.current G S.up fun c1 T1 => A_nil ⟨S.up, (law_told_ G S.up (R.le (by decide)) T1).mono ?_⟩))))))))) rfl)
  rintro t1 h1 ⟨t1', k1⟩
  have S1 := S.same k1
  have X1 := X.grown k1
  have R2 := X1.Z.R.ok q2 m2
  rw [e2, a2] at R2
  refine A_cons (W_call (W_glob S1 G (g_law_told _) (by kernel_rfl) (W_w1 G (kk_law_told _) (A_cons (W_attr (W_loc S1 (.tail _ (.tail _ (.tail _ (.tail _ (.tail _ (.tail _ (.tail _ (.tail _ (.tail _ (.tail _ (.tail _ (.tail _ (.head _))))))))))))) (R2.current G S1.up fun c2 T2 => A_nil ⟨S1.up, (law_told_ G S1.up (R.le (by decide)) T2).mono ?_⟩)))))))
  rintro t2 h2 ⟨t2', k2⟩
  refine A_nil ⟨Nat.le_of_ble_eq_true rfl, fun la h3 n3 k3 x3 => ?_⟩
  have K13 : Keeps h1 h3 [] := k2.trans k3
  have S3 := S1.same K13
  have X3 := X1.grown K13
  obtain ⟨mvs, mx, ml3, mt⟩ := X3.m.x
  have hbl : a < mvs.length := by omega
  have hmv := List.getElem?_eq_getElem hbl
  refine W_list (A_cons (W_sub (W_loc S3 (.tail _ (.tail _ (.tail _ (.tail _ (.tail _ (.tail _ (.tail _ (.tail _ (.head _))))))))) (W_loc S3 (.tail _ (.tail _ (.tail _ (.tail _ (.tail _ (.tail _ (.tail _ (.tail _ (.tail _ (.head _)))))))))) (L_item (j := a) mx rfl hmv (by omega) ?_ (by with_unfolding_all rfl))))))
  refine A_cons (W_sub (W_loc S3 (.tail _ (.tail _ (.tail _ (.tail _ (.tail _ (.tail _ (.tail _ (.tail _ (.head _))))))))) (W_loc S3 (.tail _ (.tail _ (.tail _ (.tail _ (.tail _ (.tail _ (.tail _ (.tail _ (.tail _ (.head _)))))))))) (L_item (j := a) mx rfl hmv (by omega) ?_ (by with_unfolding_all rfl)))))
  refine A_nil ⟨Nat.le_of_ble_eq_true rfl, fun lb h4 n4 k4 x4 => ?_⟩
  have no : ∀ y ∈ ([] : List Addr), NTup h3 y := fun _ m => nomatch m
  have u1 : Told h4 t1 (tokN (toksOf l) a).1 (tokN (toksOf l) a).2 := (t1'.keeps K13 fun _ m => nomatch m).keeps k4 no
  have u2 : Told h4 t2 (tokN (toksOf l) a).1 (tokN (toksOf l) a).2 := (t2'.keeps k3 fun _ m => nomatch m).keeps k4 no
  have um : Told h4 mvs[a] (tokN (toksOf l) a).1 (tokN (toksOf l) a).2 := (mt a _ hmv).keeps k4 no
  refine C_neLL (x3.keeps k4 List.not_mem_nil) x4 rfl hu (fun j v v' e1 e2 => ⟨(tokN (toksOf l) a).1, (tokN (toksOf l) a).2, ?_, ?_⟩) (T_bool (split_ff (W_nil ?_)))
  · have := List.mem_of_getElem? e1
    simp only [List.mem_cons, List.not_mem_nil, or_false] at this
    rcases this with rfl | rfl
    · exact u1
    · exact u2
  · have := List.mem_of_getElem? e2
    simp only [List.mem_cons, List.not_mem_nil, or_false, or_self] at this
    rw [this]
    exact um
  · exact qq _ _ ⟨rfl, S3.same k4, X3.grown k4⟩
theorem lp_s3 (G : GG w hT) (R : Room A 9) (hu : A.units + 5 < cLine) (S : St hT hE [] (lawEnv L) (lpFr s (.bytes T.toArray tT) (.ref pl) fl r x m u rl ml a ta tn rs bh) (fun _ => True) h) (X : LA prog w hT hE oz L cup sl fl pl ml rl it k i c fvs pvs l ρ h) (o : LpOK l oz r x T a ρ) (hz : T.length ≤ 900) (lx : Lexes T 0 l) (hm : m ≤ l.length) (h2 : a = m → ρ.length = 2) :
    W prog w A (exec (lpSt 3) (lawEnv L)) h fun f h' => f = .next ∧ ∃ oz' rl' rs' bh' ρ', St hT hE [] (lawEnv L) (lpFr s (.bytes T.toArray tT) (.ref pl) fl r x m u rl' ml a ta tn rs' bh') (fun _ => True) h' ∧ LA prog w hT hE oz' L cup sl fl pl ml rl' it k i c fvs pvs l ρ' h' ∧ LpOK l oz' r x T a ρ' ∧ (a ≠ m → ρ'.length = ρ.length) := by
  have hl := o.hl
  have e : ∃ tb p1 p2 p3 pos, lpSt 3 = .If (.Compare (.Name (Str.ofString "at") p1) [.Eq] [.Name (Str.ofString "split") p2] p3) tb [] pos ∧ tb = [spSt 0, spSt 1, spSt 2, spSt 3] := ⟨_, _, _, _, _, rfl, rfl⟩
  obtain ⟨tb, p1, p2, p3, pos, e1, e2⟩ := e
  rw [e1]
  refine W.cps fun Q qq => ?_
  refine W_if (T_cmp (W_loc S (.tail _ (.tail _ (.tail _ (.tail _ (.tail _ (.tail _ (.tail _ (.tail _ (.tail _ (.head _)))))))))) (W_loc S (.tail _ (.tail _ (.tail _ (.tail _ (.tail _ (.tail _ (.head _))))))) (C_eq (T_bool ?_)))) rfl)
  by_cases hc : a = m
  · refine split_t (by omega) ?_
    rw [e2]
    have h2' := h2 hc
    refine W_seq (sp_s0 G R S X hz hl lx (by omega)) ?_
    rintro h1 ⟨T', l', r2, dr2, pl3, Y, bl, j, lcur, lx', el', nY, S1, X1, Z1⟩
    have oY : (fun v => if v = Value.ref r2 then Sum.inl a else if v = .ref Y.l then .inr T' else oz v) (.ref Y.l) = .inr T' := by
      show (if Value.ref Y.l = .ref r2 then _ else _) = _
      rw [if_neg (by intro q; exact nY (Value.ref.inj q)), if_pos rfl]
    refine W_seq (sp_s1 G R S1 X1 Z1 oY lx' el') ?_
    rintro h2 ⟨bl', S2, X2, Tw⟩
    have nv : ∀ q ∈ ρ, q.v ≠ .ref r2 ∧ q.v ≠ .ref Y.l := fun q mq => by
      obtain ⟨y, ev, my⟩ := (X2.Z.R.ok q mq).head
      refine ⟨fun z => ?_, fun z => ?_⟩
      · rw [ev] at z; have := Value.ref.inj z; subst this; exact (Tw.n1 _ (.head _)).2.2.2 q mq my
      · rw [ev] at z; have := Value.ref.inj z; subst this; exact (Tw.n2 _ (.head _)).1.2.2.2 q mq my
    have eo : ∀ q ∈ ρ, (fun v => if v = Value.ref r2 then Sum.inl a else if v = .ref Y.l then .inr T' else oz v) q.v = oz q.v := fun q mq => by
      show (if q.v = .ref r2 then _ else _) = _
      rw [if_neg (nv q mq).1, if_neg (nv q mq).2]
    refine W_seq (sp_s2 S2 X2 Tw eo (by omega)) ?_
    rintro h3 ⟨rl', S3, X3⟩
    obtain ⟨r0, r1, more, eρ, v0, v1, hmore⟩ := o.rs
    have hmore0 : more = [] := by rw [eρ] at h2'; exact List.eq_nil_of_length_eq_zero (by simpa using h2')
    subst hmore0
    have o3 : LpOK l (fun v => if v = Value.ref r2 then Sum.inl a else if v = .ref Y.l then .inr T' else oz v) r x T a (ρ ++ [⟨.ref Y.l, a, [Y.l, Y.dl, Y.lim, Y.dlim, Y.kd, bl'], [Y.dl, bl']⟩, ⟨.ref r2, a, [r2, dr2, pl3], [dr2]⟩]) := by
      refine ⟨⟨r0, r1, _, by rw [eρ]; rfl, v0, v1, by simp⟩, ?_, ?_, fun q mq => ?_, hl, o.ok⟩
      · have q := eo r0 (by rw [eρ]; exact .head _)
        rw [v0] at q
        exact q.trans o.o0
      · have q := eo r1 (by rw [eρ]; exact .tail _ (.head _))
        rw [v1] at q
        exact q.trans o.o1
      · rw [List.mem_append] at mq
        rcases mq with mq | mq
        · exact o.ha q mq
        · simp only [List.mem_cons, List.not_mem_nil, or_false] at mq
          rcases mq with rfl | rfl <;> rfl
    refine W_seq (sp_s3 G R hu S3 X3 (List.mem_append_right _ (.head _)) rfl rfl (List.mem_append_right _ (.tail _ (.head _))) rfl rfl (by omega) hl) ?_
    rintro h4 ⟨S4, X4⟩
    exact W_nil (qq _ _ ⟨rfl, _, _, _, _, _, S4, X4, o3, fun n => absurd hc n⟩)
  · refine split_f (by omega) (W_nil ?_)
    exact qq _ _ ⟨rfl, oz, rl, rs, bh, ρ, S, X, o, fun _ => rfl⟩
end
section
variable {A : Around} {hE h h' : Heap} {oz : Value → Nat ⊕ List UInt8} {m : Nat} {ρ : List RD} {L cup sl fl pl ml rl r x : Addr} {k : Nat} {fvs pvs : List Value} {l : List (Int × TV × Nat)} {s : Value} {u tT : Tok} {T : List UInt8}
noncomputable abbrev lqFr (s t p : Value) (fl r x : Addr) (m : Nat) (u : Tok) (rl ml : Addr) (at_ tn rs bh : Option Value) : Fra := lawFr (some s) (some t) (some (.ref fl)) (some p) (some (.ref r)) (some (.ref x)) (some (.int m u)) (some (.ref rl)) (some (.ref ml)) at_ tn rs bh
inductive S9I (hE : Heap) (L cup sl fl pl ml it r x : Addr) (m : Nat) (u tT : Tok) (s : Value) (T : List UInt8) (fvs pvs : List Value) (l : List (Int × TV × Nat)) (n : Nat) (h1 : Heap) : Prop
  | mk (a : Nat) (a' tn rs bh : Option Value) (oz' : Value → Nat ⊕ List UInt8) (rl' : Addr) (k' : Nat) (ρ' : List RD) (e : a + n = l.length + 2) (e' : k' ≤ 20 + a) (S : St hT hE [] (lawEnv L) (lqFr s (.bytes T.toArray tT) (.ref pl) fl r x m u rl' ml a' tn rs bh) (fun _ => True) h1)
    (X : LA prog w hT hE oz' L cup sl fl pl ml rl' it k' a n fvs pvs l ρ' h1) (o : LpOK l oz' r x T (min a (l.length + 1)) ρ') (h : a ≤ m → ρ'.length = 2)
theorem law_s9 (G : GG w hT) (R : Room A 9) (hA : A.frames = some [lawEnv L]) (hu : A.units + 5 < cLine) (S : St hT hE [] (lawEnv L) (lqFr s (.bytes T.toArray tT) (.ref pl) fl r x m u rl ml none none none none) (fun _ => True) h)
    (Y : LF L cup sl fl pl k fvs pvs l h) (Z : LRs prog w hT oz (toksOf l) L cup ρ h) (rd : IsL h rl (ρ.map RD.v)) (rn : rl ≠ cup ∧ ∀ r ∈ ρ, rl ∉ r.D) (me : Meant (toksOf l) ml h) (mn : ml ≠ cup ∧ ∀ r ∈ ρ, ml ∉ r.D) (new : ∀ x ∈ muts ρ, hE.get? x = none)
    (o : LpOK l oz r x T 0 ρ) (h2 : ρ.length = 2) (hz : T.length ≤ 900) (lx : Lexes T 0 l) (hm : m ≤ l.length) (hk : k ≤ 20) (ncE : hE.get? cup = none) (ncT : hT.get? cup = none) :
    W prog w A (exec (lawT 9) (lawEnv L)) h fun f h' => f = .next ∧ ∃ oz' rl' a' tn rs bh ρ', St hT hE [] (lawEnv L) (lqFr s (.bytes T.toArray tT) (.ref pl) fl r x m u rl' ml a' tn rs bh) (fun _ => True) h' ∧ LRs prog w hT oz' (toksOf l) L cup ρ' h' ∧ LpOK l oz' r x T (l.length + 1) ρ' := by
  have hl := o.hl
  have hfl : fvs.length = l.length := by rw [Y.D.len]; unfold toksOf; rw [List.length_map]
  have e : ∃ q1 q2 q3 q4 q5 q6 q7 q8 pos b, lawSt 9 = .For (.Name (Str.ofString "at") q1) (.Call (.Name (Str.ofString "range") q2) [.BinOp (.Call (.Name (Str.ofString "len") q3) [.Name (Str.ofString "found") q4] [] q5) .Add (.Constant (.int 2) 0 q6) q7] [] q8) b [] pos ∧ b = [lpSt 0, lpSt 1, lpSt 2, lpSt 3, lpSt 4] := ⟨_, _, _, _, _, _, _, _, _, _, rfl, rfl⟩
  obtain ⟨q1, q2, q3, q4, q5, q6, q7, q8, pos, b, e1, e2⟩ := e
  rw [lawT_eq, e1]
  refine W.cps fun Q qq => ?_
  refine W_for ?_
  k_extra "ww"
  refine L_len Y.f (by omega) fun t1 => ?_
  k_extra "ww"
  refine R_range fun ra t2 t3 nra h2' k2 x2 => ?_
  rw [hfl] at x2
  refine P_range (n := l.length + 2) x2 (by omega) fun it h3 nit k3 i3 => ?_
  have K13 : Keeps h h3 [] := k2.trans k3
  have S3 := S.same K13
  have X3 : LA prog w hT hE oz L cup sl fl pl ml rl it k 0 (l.length + 2 : Nat) fvs pvs l ρ h3 := ⟨Y.grown K13, Z.grown K13, rd.keeps K13 List.not_mem_nil, rn, me.keeps K13 (fun _ m => nomatch m) List.not_mem_nil, mn, i3, new⟩
  have nit0 : hE.get? it = none := none_up (S.same k2).kp.grown nit
  have nc : it ≠ L := fun q => S3.nf _ _ (q ▸ i3) rfl
  rw [e2]
  clear S K13 k2 k3 x2 nra nit i3 Y Z rd rn me mn new
  refine CW_down (I := S9I hE L cup sl fl pl ml it r x m u tT s T fvs pvs l) ?_ ?_ (l.length + 2) ⟨0, none, none, none, none, oz, rl, k, ρ, Nat.zero_add _, hk, S3, X3, by rw [Nat.zero_min]; exact o, fun _ => h2⟩
  · clear S3 X3 o h2
    rintro n ih h4 ⟨a, a', tn, rs, bh, oz4, rl4, k4, ρ4, han, hk4, S4, X4, o4, h24⟩
    have i4 := X4.ri
    refine CW_for (N_range i4 (by omega) fun t5 h5 k5 i5 => ?_)
    refine W.of_eq (t' := Pure.pure ()) rfl (W.pure ?_)
    have n5 := neu1 (Neu.ri i4)
    have S5 := S4.step (P' := fun _ => True) k5 ((all1 (.inr (nit0)))) (notIn1 (Ne.symm nc)) trivial (fun _ _ _ _ => trivial)
    have X5 : LA prog w hT hE oz4 L cup sl fl pl ml rl4 it k4 ((a + 1 : Nat) : Int) n fvs pvs l ρ4 h5 := ⟨X4.Y.neu k5 n5, X4.Z.keeps k5 (all1 ⟨⟨(Neu.ri i4).k, (Neu.ri i4).t⟩, ri_out X4.Z.R i4⟩), X4.rd.neu k5 n5, X4.rn, X4.m.neu k5 n5, X4.mn, by rw [show (n : Int) = ((n + 1 : Nat) : Int) - 1 by omega]; exact i5, X4.new⟩
    refine A_name (W_storeK S5 (.tail (.tail (.tail (.tail (.tail (.tail (.tail (.tail (.tail .head))))))))) fun h6 k6 S6 => ?_)
    have X6 := X5.loc k6 (S5.neu (by rfl)) S5.nf
    clear S4 S5 X4 X5 i4 i5 k5 k6 n5
    rw [Nat.min_eq_left (by omega)] at o4
    refine W_seq (lp_s0 G R hu S6 X6 o4 (by omega)) ?_
    rintro h7 ⟨ρ7, S7, X7, o7, e7⟩
    refine W_seq (lp_s1 G R hA S7 X7 o7) ?_
    rintro h8 ⟨S8, X8⟩
    refine W_seq (lp_s2 G R hu S8 X8 o7 (by omega) (by omega) ncE ncT) ?_
    rintro h9 ⟨tn9, ρ9, S9, X9, o9, e9⟩
    have l9 : ρ9.length = ρ4.length := by have := congrArg List.length (e9.trans e7); simpa using this
    refine W_seq (lp_s3 G R hu S9 X9 o9 hz lx hm fun q => l9.trans (h24 (by omega))) ?_
    rintro h10 ⟨oz10, rl10, rs10, bh10, ρ10, S10, X10, o10, l10⟩
    refine W_seq (lp_s4 G R hu S10 X10 o10 (by omega)) ?_
    rintro h11 ⟨ρ11, S11, X11, o11, e11⟩
    have l11 : ρ11.length = ρ10.length := by have := congrArg List.length e11; simpa using this
    rw [show (if a < l.length + 1 then a + 1 else a) = min (a + 1) (l.length + 1) by split <;> omega] at o11
    exact W_nil (ih _ ⟨a + 1, _, _, _, _, _, _, _, _, by omega, by omega, S11, X11, o11, fun q => l11.trans ((l10 (by omega)).trans (l9.trans (h24 (by omega))))⟩)
  · rintro h4 ⟨a, a', tn, rs, bh, oz4, rl4, k4, ρ4, han, hk4, S4, X4, o4, h24⟩
    have i4 := X4.ri
    refine CW_for (N_range_end R.hh i4 (by omega) fun h5 k5 => W_nil ?_)
    have Z5 := X4.Z.keeps k5 (all1 ⟨⟨(Neu.ri i4).k, (Neu.ri i4).t⟩, ri_out X4.Z.R i4⟩)
    exact qq _ _ ⟨rfl, _, _, _, _, _, _, _, S4.step (P' := fun _ => True) k5 ((all1 (.inr (nit0)))) (notIn1 (Ne.symm nc)) trivial (fun _ _ _ _ => trivial), Z5, by rw [Nat.min_eq_right (by omega)] at o4; exact o4⟩
end
section
variable {A : Around} {hE h h' : Heap} {oz : Value → Nat ⊕ List UInt8} {m : Nat} {ρ : List RD} {L cup sl fl pl ml rl r x : Addr} {k : Nat} {fvs pvs : List Value} {l : List (Int × TV × Nat)} {s : Value} {u tT : Tok} {T : List UInt8} {at_ tn rs bh : Option Value}
theorem law_s10 (G : GG w hT) (S : St hT hE [] (lawEnv L) (lqFr s (.bytes T.toArray tT) (.ref pl) fl r x m u rl ml at_ tn rs bh) (fun _ => True) h) (Z : LRs prog w hT oz (toksOf l) L cup ρ h) (o : LpOK l oz r x T (l.length + 1) ρ) (hz : T.length ≤ 900) :
    W prog w A (exec (lawT 10) (lawEnv L)) h fun f h' => retv f = .bool true ∧ Keeps hE h' [] := by
  rw [lawT_eq]
  unfold lawSt lawBodyS
  dsimp only [List.drop, List.headD]
  obtain ⟨r0, r1, more, rfl, e0, e1, _⟩ := o.rs
  have Rd := Z.R.ok r1 (.tail _ (.head _))
  rw [e1, o.ha r1 (.tail _ (.head _))] at Rd
  k_extra "ww"
  refine Rd.lexAt o.o1 (by unfold toksOf; rw [List.length_map]; omega) G S.up fun t1 => ?_
  k_extra "ww"
  refine B_len (by omega) fun t2 => C_eq ⟨by rw [decide_eq_true rfl]; rfl, S.kp⟩
noncomputable def lawB : List Stmt := [lawT 0, lawT 1, lawT 2, lawT 3, lawT 4, lawT 5, lawT 6, lawT 7, lawT 8, lawT 9, lawT 10]
theorem law_body {sl0 : Addr} {svs : List Value} {sns : List Int} (G : GG w hT) (up : Grown hT hE) (R : Room A 9) (hA : A.frames = some [lawEnv L]) (hu : A.units + 5 < cLine) (S : St hT hE [] (lawEnv L) (lawFr0 (.ref sl0)) (P0 L) h) (n1 : hE.get? (L + 1) = none) (n2 : hE.get? (L + 2) = none) (xs : IsL hE sl0 svs) (xi : Ints svs sns) (hz : svs.length ≤ 63) :
    W prog w A (execs lawB (lawEnv L)) h fun f h' => retv f = .bool true ∧ Keeps hE h' [] := by
  unfold lawB
  refine W.cps fun Q qq => ?_
  refine W_seq (law_s0 S n1) ?_
  rintro h2 ⟨la, ts, hts, S2⟩
  refine W_seq (law_s1 G S2 n2 xs xi hz) ?_
  rintro h3 ⟨cup, sl, ncE, S3⟩
  refine W_seq (law_s2 G (R.le (by decide)) S3 hts ncE (none_up up ncE)) ?_
  rintro h4 ⟨ps, t, p1, p2, pm, S4⟩
  obtain ⟨l, lx, hl⟩ := lexes_join (ps := ps) (by omega) pm
  have hT9 : (joinL [32] ps).length ≤ 900 := by
    have := joinL_len (sep := [32]) (ps := ps) (m := 13) (by decide) fun p m => (by decide : ∀ q ∈ lawPieces, q.length ≤ 13) p (pm p m)
    omega
  generalize joinL [32] ps = T at *
  refine W_seq (law_s3 G R S4 hT9 (by omega) lx) ?_
  rintro h5 ⟨fl, pl, fvs, pvs, S5, Y5⟩
  refine W_seq (law_s4 G R S5 Y5 hT9 (by omega) lx) ?_
  rintro h6 ⟨r, dr, pl2, X, bl, j, lcur, S6, Y6, Z6⟩
  have nx : X.l ≠ r := fun e => Z6.sep _ (.head _) (e ▸ .head _)
  have ox : (fun v => if v = Value.ref r then Sum.inl 0 else Sum.inr T : Value → Nat ⊕ List UInt8) (.ref X.l) = .inr T := if_neg fun e => nx (Value.ref.inj e)
  refine W_seq (law_s5 G R S6 Y6 Z6 ox lx) ?_
  rintro h7 ⟨bl', S7, Y7, new, Z7⟩
  refine W_seq (law_s6 G R S7 Y7 Z7 (by omega) (by decide) ncE (none_up up ncE)) ?_
  rintro h8 ⟨m, u, hm, S8, Y8, Z8⟩
  refine W_seq (law_s7 S8 Y8 Z8 rfl) ?_
  rintro h9 ⟨rl, rn, rd, S9, Y9, Z9⟩
  refine W_seq (law_s8 G R S9 Y9 Z9 (by omega)) ?_
  rintro h10 ⟨ml, mn, me, isl, S10, Y10, Z10⟩
  refine W_cons ((law_s9 G R (hA) hu S10 Y10 Z10 (isl _ _ rd) rn me mn (fun y my => new y ?_) ⟨⟨_, _, [], rfl, rfl, rfl, Nat.zero_le _⟩, if_pos rfl, ox, fun q mq => ?_, by omega, lx.ok⟩ rfl hT9 lx hm (by decide) ncE (none_up up ncE)).mono ?_)
  · simp only [muts, List.flatMap_cons, List.flatMap_nil, List.append_nil, List.mem_append, List.mem_cons, List.not_mem_nil, or_false] at my
    rcases my with rfl | rfl | rfl <;> simp
  · simp only [List.mem_cons, List.not_mem_nil, or_false] at mq
    rcases mq with rfl | rfl <;> rfl
  rintro f h11 ⟨rfl, oz', rl', a', tn, rs, bh, ρ', S11, Z11, o11⟩
  refine W_cons ((law_s10 G S11 Z11 o11 hT9).mono ?_)
  rintro f h12 ⟨q, kk⟩
  cases f with
  | next => cases q
  | ret v => exact qq _ _ ⟨q, kk⟩
  | brk => cases q
  | cont => cases q
theorem law_ {sl0 : Addr} {svs : List Value} {sns : List Int} (G : GG w hT) (up : Grown hT h) (room : Room A 10) (hA : A.frames = some []) (hu : A.units + 8 < cLine) (xs : IsL h sl0 svs) (xi : Ints svs sns) (hz : svs.length ≤ 63) :
    W prog w A (call (.ref 558) [.ref sl0] []) h fun v h' => v = .bool true ∧ Keeps h h' [] := by
  have hb : fd_law.body = .stmts lawB := by
    have e : lawB = lawBodyS.1 := by
      unfold lawB
      simp only [lawT_eq]
      kernel_rfl
    rw [e]; exact lawBodyS.2
  refine W_law (n := 9) G up room hb fun L h1 S n1 n2 c1 c2 R => ?_
  have S1 := S.turn (P' := P0 L) ⟨c1, c2⟩ fun h h' k p => ⟨p.1.keeps k L1, p.2.keeps k L2⟩
  exact law_body G up R (by show A.frames.map _ = _; rw [hA]; rfl) (by show A.units + 3 + 5 < _; omega) S1 n1 n2 xs xi hz
end
section
theorem lay_ints {R : WRecords} {cl : Str → Option Addr} {P : Params} {ord : List DictEntry → List DictEntry} : ∀ (xs : List WData) (s : Shared), (∀ x ∈ xs, ∃ i, x = .int i) → ∃ vs ns k, layAllW R cl P ord xs s = some (vs, { s with toks := k }) ∧ Ints vs ns ∧ vs.length = xs.length
  | [], s, _ => ⟨[], [], s.toks, rfl, .nil, rfl⟩
  | x :: xs, s, hx => by
    obtain ⟨i, rfl⟩ := hx x (.head _)
    obtain ⟨vs, ns, k, e, v, z⟩ := lay_ints (R := R) (cl := cl) (P := P) (ord := ord) xs { s with toks := s.toks + 1 } fun x m => hx x (.tail _ m)
    refine ⟨.int i s.toks :: vs, i :: ns, k, ?_, .cons i s.toks v, by simp [z]⟩
    simp only [layAllW, layW, e]
theorem lay_list {R : WRecords} {cl : Str → Option Addr} {P : Params} {ord : List DictEntry → List DictEntry} {xs : List WData} {s s1 : Shared} {vs : List Value} (hx : ∀ x ∈ xs, ∃ i, x = .int i) (e : layAllW R cl P ord [.list xs] s = some (vs, s1)) : ∃ a us ns, vs = [.ref a] ∧ IsL s1.heap a us ∧ Ints us ns ∧ us.length = xs.length := by
  obtain ⟨us, ns, k, e1, v, z⟩ := lay_ints (R := R) (cl := cl) (P := P) (ord := ord) xs s hx
  simp only [layAllW, layW, e1] at e
  obtain ⟨rfl, rfl⟩ := Prod.mk.inj (Option.some.inj e)
  exact ⟨_, us, ns, rfl, ⟨_, Heap.get?_push_size _ rfl⟩, v, z⟩
theorem ints_of {R : WRecords} : ∀ {xs : List WData}, WShape.hasItems R xs .int = true → ∀ x ∈ xs, ∃ i, x = .int i
  | [], _, _, m => nomatch m
  | y :: ys, h, x, m => by
    simp only [WShape.hasItems, Bool.and_eq_true] at h
    rcases List.mem_cons.mp m with rfl | m
    · exact hasW_int h.1
    · exact ints_of h.2 x m
theorem len_of {R : WRecords} {xs : List WData} (h : (WTm.and (.not (.lt (.lit (.int 63)) (.len (.arg 0)))) (.lit (.bool true))).holds R { args := [.list xs] } = true) : xs.length ≤ 63 := by
  by_cases hz : xs.length ≤ 63
  · exact hz
  · exfalso
    unfold WTm.holds at h
    have e : less? (WData.int 63) (WData.int xs.length) = some true := by
      show some (decide ((63 : Int) < xs.length)) = some true
      rw [decide_eq_true (by omega)]
    simp [WTm.value, e] at h
theorem law_ask : Ask w hT := by
  intro mg a us ns G gN gl xl xi hz
  have hl := law_ (A := callerA) G (fun _ _ e => e) ⟨by decide +kernel, by decide +kernel⟩ rfl (by decide +kernel) xl xi hz
  refine W.bind (W.any fun g d tk os QQ EE k => wpAny_nsGet (m := mg) gN (k _ _ _ ?_))
  rw [gl]
  refine W.bind (hl.mono ?_)
  rintro v h1 ⟨rfl, K⟩
  exact W.pure ⟨rfl, fun b o e => K b o e List.not_mem_nil⟩
theorem W_monoG {prog : Program} {w : World} {A : Around} {h : Heap} {α : Type} {t : Sem α} {Q Q' : α → Heap → Prop} (H : W prog w A t h Q) (k : ∀ v h', Q v h' → Q' v h') : W prog w A t h Q' :=
  fun g d tk os QQ kk => H g d tk os QQ fun v h' tk' q => kk v h' tk' (k v h' q)
theorem thread_endsW {prog : Program} {w : World} {t : Sem Fin} {s : Shared} {R : Result → Shared → Prop} (hreg : s.asleep) (hG : s.gens = #[])
    (h : W prog w callerA t s.heap fun fin h' => ∃ f, fin = .done f ∧ ∀ tk, R (.ok f) ⟨h', s.gens, s.drawn, tk, s.os⟩) :
    ∃ n r s' s'', runN (denote table) prog w n s ⟨t, .builtin "claim.caller" {}, default, []⟩ = .halted (outcomeOf r) s' ∧
      schedN (denote table) prog w n (.single s ⟨t, .builtin "claim.caller" {}, default, []⟩) = .halted (outcomeOf r) s' ∧ s'.forget = s''.forget ∧ R r s'' := by
  have hw := h s.gens s.drawn s.toks s.os (fun fin s' => ∃ f, fin = .done f ∧ (R (.ok f) s' ∧ leftWithCleanup s'.gens = false)) (fun v h' tk' ⟨f, e, q⟩ => ⟨f, e, q tk', by rw [hG]; simp [leftWithCleanup]⟩) _ default caller_in ⟨by decide +kernel, fun _ m => nomatch m⟩
  obtain ⟨n, r, s₁, s₂, hs, hn, hfo, hR⟩ := wp_halts_full (M := model prog w) (R := R) hreg (Sem.wp_mono _ _ t (fun fin p' s' ⟨f, e, q⟩ => by subst e; exact q) (fun _ _ _ x => x.elim) default s hw)
  exact ⟨n, r, s₂, s₁, hn, hs, hfo, hR⟩
theorem sealP {G : Prop} (H : ∀ P : Prop, (G → P) → P) : G := H G id
theorem own_open {q : Program} {loose : List Str} {α : Type} {Yf : Shared → α} {Ya : World → α} {N : Nat} {d : DefRec} {kwd : List (Str × PySem.Expr)} (left : LeftO lp q loose (fun _ => true) Yf Ya N) (hY : ∀ w s, Yf s = Ya w → (KK w.params).In s.heap ∧ s.heap.nsMap mainGlobals lw.name = some (.ref 558))
    (hdef : defOf q lw.name = some (d, kwd)) (hp : lp.theDef lw.name = some (d.params, d.body, d.scope)) (hk : kwWritten? d.params.kwonlyargs d.params.kw_defaults = some kwd)
    (ok : (chainsOk q && opensWell lp && (frees lw.row.toRowW && lw.row.within.isEmpty)) = true) (hb : lp.bare) (hw : lw.row.toRowW.promised) (said : lw.wellSaid = true) : lw.Holds := by
  refine holds_law said fun k1 => ⟨k1, hw, ?_⟩
  obtain ⟨ok, k5⟩ := Bool.and_eq_true_iff.mp ok
  obtain ⟨hch, o1⟩ := Bool.and_eq_true_iff.mp ok
  obtain ⟨k5, k6⟩ := Bool.and_eq_true_iff.mp k5
  obtain ⟨hsame, hu, ha, hap, hm⟩ := frees_parts k5
  have hX : ∀ s : Shared, (fun _ => true) s = true → (fun (_ : Str → Option Value) (_ : Heap) => True) (s.heap.nsMap mainGlobals) s.heap := fun _ _ => trivial
  refine ⟨⟨hb, o1, rfl⟩, hw.witness, fun w => ⟨(left.behind (XP := fun _ _ => True) hX hch w).1, fun s' hs' => ?_⟩⟩
  refine sealP fun P1 kk1 => ?_
  obtain ⟨s₀, hf, hg0, s, hT, hz, hgens, hg, G0, y⟩ := (left.behind (XP := fun _ _ => True) hX hch w).2 s' hs'
  have hgens : s.gens = #[] := Array.eq_empty_of_size_eq_zero (beq_iff_eq.mp hgens)
  obtain ⟨y1, y2⟩ := hY w s y
  refine kk1 ⟨s₀, hf, hg0, s, hT, fun n hn => ?_, fun x m => (nomatch m), fun x m => (nomatch m), ?_⟩
  all_goals clear kk1 P1
  · obtain rfl : n = lw.name := List.mem_singleton.mp hn
    exact pinned_of_view hg G0 hdef hp hk
  intro args hpre hlay ord hord
  refine sealP fun P2 kk2 => ?_
  obtain ⟨⟨vs, s₁⟩, hlaid⟩ := Option.isSome_iff_exists.mp (layAllW_isSome (R := []) (P := w.params) (ord := ord) G0.has args lw.row.args s (pre_splitW hpre).1)
  have keeps := layAllW_keeps _ _ _ hlaid
  have hal := layAllW_rest _ _ _ hlaid
  obtain ⟨as, hrd, hin, hold⟩ := reads_layAllW hord _ _ _ hlaid hlay s₁.heap (fun _ _ e => e)
  have L : Laid [] w s s₁ args vs as := ⟨⟨ord, hord, hlaid⟩, hrd, hin, hold, keeps, hal.1.trans hgens, hal.2.2.1⟩
  have G₁ := G0.keeps (XP := fun _ _ => True) (fun _ _ _ _ _ => trivial) keeps
  obtain ⟨p1, p2⟩ := pre_splitW hpre
  obtain ⟨d0, r0, rfl, q1, q2⟩ := hasAllW_cons p1
  obtain rfl := hasAllW_nil q2
  obtain ⟨xs, rfl, q3⟩ := hasW_list q1
  have hz63 := len_of p2
  obtain ⟨a, us, ns, rfl, xl, xi, zl⟩ := lay_list (ints_of q3) hlaid
  have hl := w_all law_ask w s₁.heap _ a us ns ⟨fun b o e => keeps _ _ (y1 b o e), ⟨_, G₁.T.g⟩, ⟨_, G₁.T.b, G₁.T.builtins⟩, G₁.T.nolimit⟩ G₁.T.g y2 xl xi (by omega)
  obtain ⟨k, r, s', s'', hrun, hsched, hfo, hcase, hos⟩ := thread_endsW (t := (callStub lw.name [.ref a]).cur) (s := s₁)
    (R := fun r s' => lw.row.claim.Ends s [.list xs] [.ref a] s₁ r s' ∧ s'.os = s.os)
    (Shared.asleep_of_life hal.2.2.2 hz) (hal.1.trans hgens) (W_monoG hl fun fin h1 ⟨e, K⟩ => ⟨_, e, fun tk => by
      have g : GoodWG lw.row.claim (classAt s.heap) (ExcName.means s.heap) [.list xs] s₁ (.ok (.ret (.bool true))) ⟨h1, s₁.gens, s₁.drawn, tk, s₁.os⟩ :=
        ⟨.inl ⟨_, .bool true, [], rfl, fun _ => rfl, .bool true, by kernel_rfl, fun _ => ⟨.nil, fun _ m => nomatch m⟩⟩, .of_keep K, rfl, .of_eq (hal.1.trans hgens)⟩
      have z := g.laid (c := lw.row.claim) hsame (List.isEmpty_iff.mp k6) (ident_freeW hu ha hap) L
      exact ⟨z.1, z.2.1⟩⟩)
  rw [prog_is] at hrun hsched
  obtain ⟨eh, _, _, eo, _⟩ := Shared.forget_eq hfo
  have hcase := hcase.congr eh
  rw [← eo] at hos
  have hlife : s'.heap.life = s.heap.life := (runN_life _ _ _ hrun).trans hal.2.2.2
  refine kk2 ⟨_, s₁, hlaid, k, _, s', hsched, ?_, (fun _ i x hx => by rw [hgens] at hx; simp at hx), (fun q => nomatch q), by rw [hlife], Shared.rest_eq hos⟩
  rcases hcase with ⟨v, rfl, d1, d2, d3, d4, d5⟩ | ⟨e, ob, cls, rfl, d1, d2, d3, d4, d5⟩
  · exact .inl ⟨v, rfl, d1, d2, d3, fun b o y _ => d4 b o y, d5⟩
  · exact .inr ⟨e, ob, cls, rfl, d1, d2, d3, d4, fun b o y _ => d5 b o y⟩
end
end Mine
end
theorem PySem.Challenge.cw_sm0068_01_holds : PySem.Challenge.rw_sm0068_01.Holds := by
  exact Mine.own_open Mine.left_ Mine.hY_ Mine.def_ Mine.the_ Mine.kw_ Mine.ok_ Mine.bare_ Mine.wit_ Mine.said_
