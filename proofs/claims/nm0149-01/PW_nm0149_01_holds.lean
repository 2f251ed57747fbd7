import PyProof.Rows.All
import Wide.All
import OpenK.AllK
import Wide.FinOn
import Lean
import PySem.Challenge.RW_nm0149_01
open PySem PySem.W PyProof.Rows PySem.Spec PySem.Calls
set_option Elab.async false
set_option maxRecDepth 100000
set_option maxHeartbeats 8000000
set_option linter.all false
set_option genSizeOf false
set_option bootstrap.genMatcherCode false
set_option compiler.extract_closed false
open PySem.Challenge
namespace Mine
noncomputable section
noncomputable def nthS : List Stmt → Nat → Stmt
 | [], _ => .Pass ⟨0, 0, 0, 0⟩
 | s :: _, 0 => s
 | _ :: r, n + 1 => nthS r n
noncomputable def fnOfS : Stmt → FuncBody
 | .FunctionDef _ _ b _ _ _ _ _ _ _ => .stmts b
 | _ => .stmts []
noncomputable def clOfS : Stmt → List Stmt
 | .ClassDef _ _ _ b _ _ _ _ _ _ _ => b
 | _ => []
def fnB (i : Nat) : FuncBody := fnOfS (nthS pw_nm0149_01.main.body i)
def fnM (i j : Nat) : FuncBody := fnOfS (nthS (clOfS (nthS pw_nm0149_01.main.body i)) j)
noncomputable abbrev fd (n q : Str) (p : Arguments) (b : FuncBody) (s : Scope) (g : Addr) (a b' c d : Value) (e : Option Addr) (f h : Value) (i : Addr) : FuncData := ⟨n, q, p, b, s, g, [], a, b', c, d, e, f, h, i⟩
noncomputable abbrev cf (t : Tok) : Value := .str "/claim/cut.py" t
noncomputable abbrev z0 : Value := .int 0 0
noncomputable abbrev oC (a : Array Value) : Obj := ⟨.type "code", none, .fields a, #[]⟩
noncomputable abbrev oT (a : Array Value) : Obj := ⟨.type "tuple", none, .seq a 0, #[]⟩
noncomputable abbrev oF (v : Value) (f : FuncData) : Obj := ⟨v, none, .func f, #[]⟩
noncomputable abbrev de (P : Params) (k : Str) (t : Tok) (v : Value) : DictEntry := ⟨PySem.PyData.keyHash P k, .str k t, v⟩
noncomputable def nl : Params → BT := fun _ => .nil
noncomputable def lf (f : Params → Obj) : Params → BT := fun P => .node (f P) .nil .nil
noncomputable def nd (f : Params → Obj) (a b : Params → BT) : Params → BT := fun P => .node (f P) (a P) (b P)
noncomputable def E0 : Env := { scope := pw_nm0149_01.main.scope, locals := mainNs, globals := mainNs, cells := [], code := (.ref 13), frame := some 14 }
noncomputable def bE : List Stmt := behindTheImports pw_nm0149_01
def cE : Code := .body bE E0
noncomputable def qE : Pos := ⟨0, 0, 0, 0⟩
def BF : List Frame := [topFrame qE]
noncomputable def annE : Option Value := (some (.ref 6))
abbrev O0 (P : Params) : Obj := oT #[]
noncomputable abbrev O1 (P : Params) : Obj := ⟨.none, none, (.fields #[]), #[]⟩
abbrev O2 (P : Params) : Obj := oC #[(.str "<module>" 182), (.str "<module>" 183), (cf 184), (.int 1 0), z0, z0, z0, z0, (.ref 11), (.bool false), (.int 181 0), (.ref 12), .none, .none, .none, .none, (.int 185 0), (.int 1 0), (cf 186)]
noncomputable abbrev O3 (P : Params) : Obj := ⟨(.type "frame"), none, .plain, #[(some (.ref 13)), (some (.ref 3)), (some (.ref 3)), none, (some (.str "__main__" 164)), none, (some (.ref 0))]⟩
def Ha (P : Params) : Heap := ⟨⟨[boot_o_0 P, boot_o_1 P, boot_o_2 P, boot_o_3 P, boot_o_4 P, boot_o_5 P, boot_o_6 P, boot_o_7 P, boot_o_8 P, boot_o_9 P, boot_o_10 P, O0 P, O1 P, O2 P, O3 P]⟩, ⟨[], [], [], 0, [], [], false, #[], [], 0, false, false, false, 0, [2000, 10, 10], false, 0, true, [], [], 0, false⟩⟩
def Sa (w : World) (os : OsState) : Shared := ⟨Ha w.params, ⟨[]⟩, ⟨0, 0, 0, 0⟩, 187, os⟩
-- pre steps 12 rows [] []
def T0 : Params → BT := (nd boot_o_0 (nd boot_o_1 (nd boot_o_3 (lf boot_o_7) (lf O0)) (nd boot_o_5 (lf boot_o_9) (lf O2))) (nd boot_o_2 (nd boot_o_4 (lf boot_o_8) (lf O1)) (nd boot_o_6 (lf boot_o_10) (lf O3))))
def S0 (w : World) (os : OsState) : SharedT := ⟨T0 w.params, 15, ⟨[], [], [], 0, [], [], false, #[], [], 0, false, false, false, 0, [2000, 10, 10], false, 0, true, [], [], 0, false⟩, ⟨[]⟩, ⟨0, 0, 0, 0⟩, 187, os⟩
abbrev O4 (P : Params) : Obj := ⟨.none, none, (.dict #[(de P "type.__subclasses__.Exception.0" 221 (.int 38 0)), (de P "type.__subclasses__.Exception.n" 222 (.int 1 0))] 2), #[]⟩
abbrev O5 (P : Params) : Obj := ⟨(.type "dict"), none, (.dict #[(de P "__name__" 165 (.str "wasmcore.faults" 194)), (de P "__doc__" 166 .none), (de P "__package__" 167 .none), (de P "__loader__" 168 (.builtin "__main__.__loader__#opaque")), (de P "__spec__" 169 .none), (de P "__annotations__" 170 (.ref 6)), (de P "__builtins__" 171 (.ref 4)), (de P "__file__" 173 (cf 172)), (de P "__cached__" 174 .none), (de P "_wall" 193 (.ref 21)), (de P "WasmFault" 224 (.ref 38))] 11), #[]⟩
abbrev O6 (P : Params) : Obj := ⟨.none, none, (.fields #[(.int 1 0), z0, (.ref 20), (.int 5 0), z0, (.ref 27)]), #[]⟩
abbrev O7 (P : Params) : Obj := oT #[(.str "k" 190)]
abbrev F9 : FuncBody := fnB 0
abbrev D9 := fd "_wall" "_wall" ⟨[], [⟨"k", none, ⟨1, 10, 1, 11⟩⟩], none, [], [], none, []⟩ F9 ⟨.function, [("k", .local)], false, false, []⟩
abbrev O8 (P : Params) : Obj := oF .none (D9 0 .none .none .none .none none .none .none 0)
abbrev O9 (P : Params) : Obj := oC #[(.str "_wall" 187), (.str "_wall" 188), (cf 189), (.int 1 0), (.int 1 0), z0, z0, (.int 3 0), (.ref 15), (.bool true), (.int 181 0), (.ref 16), .none, (.ref 17), (.ref 18), (.ref 19), (.int 191 0), (.int 1 0), (cf 192)]
abbrev O10 (P : Params) : Obj := oF (.type "function") (D9 3 .none .none .none (.str "__main__" 164) none (.ref 20) .none 0)
abbrev O11 (P : Params) : Obj := oT #[(.type "Exception")]
noncomputable abbrev O12 (P : Params) : Obj := ⟨(.type "builtin_function_or_method"), none, (.fields #[(.builtin "type.__prepare__"), (.type "type")]), #[]⟩
abbrev O13 (P : Params) : Obj := ⟨(.type "dict"), none, (.dict #[(de P "__module__" 203 (.str "wasmcore.faults" 194)), (de P "__qualname__" 205 (.str "WasmFault" 204)), (de P "__firstlineno__" 207 (.int 5 206)), (de P "__init__" 215 (.ref 35)), (de P "__static_attributes__" 217 (.ref 36))] 5), #[]⟩
noncomputable abbrev O14 (P : Params) : Obj := ⟨.none, none, (.fields #[(.int 7 0), (.int 4 0), (.ref 34)]), #[]⟩
abbrev O15 (P : Params) : Obj := oC #[(.str "WasmFault" 198), (.str "WasmFault" 199), (cf 200), (.int 5 0), z0, z0, z0, z0, (.ref 25), (.bool false), (.int 181 0), (.ref 26), .none, .none, .none, .none, (.int 201 0), (.int 5 0), (cf 202)]
noncomputable abbrev O16 (P : Params) : Obj := ⟨(.type "frame"), none, .plain, #[(some (.ref 27)), (some (.ref 3)), (some (.ref 24)), none, (some (.str "wasmcore.faults" 194)), none, (some (.ref 0))]⟩
abbrev O17 (P : Params) : Obj := oT #[(.str "self" 211), (.str "why" 212)]
abbrev F19 : FuncBody := fnM 2 0
abbrev D19 := fd "__init__" "WasmFault.__init__" ⟨[], [⟨"self", none, ⟨7, 17, 7, 21⟩⟩, ⟨"why", none, ⟨7, 23, 7, 26⟩⟩], none, [], [], none, []⟩ F19 ⟨.function, [("self", .local), ("why", .local), ("Exception", .globalImplicit)], false, false, []⟩
abbrev O18 (P : Params) : Obj := oF .none (D19 0 .none .none .none .none none .none .none 0)
abbrev O19 (P : Params) : Obj := oC #[(.str "__init__" 208), (.str "WasmFault.__init__" 209), (cf 210), (.int 7 0), (.int 2 0), z0, z0, (.int 3 0), (.ref 29), (.bool true), (.int 181 0), (.ref 30), .none, (.ref 31), (.ref 32), (.ref 33), (.int 213 0), (.int 7 0), (cf 214)]
abbrev O20 (P : Params) : Obj := oF (.type "function") (D19 3 .none .none .none (.str "wasmcore.faults" 194) none (.ref 34) .none 0)
abbrev O21 (P : Params) : Obj := oT #[(.str "why" 216)]
abbrev O22 (P : Params) : Obj := ⟨(.type "dict"), none, (.dict #[(de P "__module__" 203 (.str "wasmcore.faults" 194)), (de P "__firstlineno__" 207 (.int 5 206)), (de P "__init__" 215 (.ref 35)), (de P "__static_attributes__" 217 (.ref 36)), (de P "__weakref__" 219 (.ref 39)), (de P "__doc__" 220 .none)] 3), #[]⟩
noncomputable abbrev O23 (P : Params) : Obj := ⟨(.type "type"), none, (.cls ⟨"WasmFault", [(.type "Exception")], [(.ref 38), (.type "Exception"), (.type "BaseException"), (.type "object")], 37, "WasmFault", true, [], [], false, none, false⟩), #[(some (.ref 22)), none, (some (.str "WasmFault" 196)), (some (.str "WasmFault" 204)), (some (.builtin "Exception.__new__")), (some (.bool true))]⟩
noncomputable abbrev O24 (P : Params) : Obj := ⟨(.type "getset_descriptor"), none, (.fields #[(.str "__weakref__" 218), (.ref 38), (.builtin "ExceptionGroup.__weakref__"), .none]), #[]⟩
noncomputable abbrev O25 (P : Params) : Obj := ⟨(.type "super"), none, (.fields #[(.ref 38), (.ref 38), (.ref 38)]), #[]⟩
noncomputable abbrev O26 (P : Params) : Obj := ⟨(.type "builtin_function_or_method"), none, (.fields #[(.builtin "object.__init_subclass__"), (.ref 38)]), #[]⟩
def T1 : Params → BT := (nd boot_o_0 (nd boot_o_1 (nd O5 (nd boot_o_7 (nd O0 (lf O17) nl) (nd O12 (lf O24) nl)) (nd O0 (nd O8 (lf O20) nl) (lf O15))) (nd boot_o_5 (nd boot_o_9 (nd O7 (lf O18) nl) (nd O0 (lf O26) nl)) (nd O2 (nd O10 (lf O22) nl) (lf O0)))) (nd O4 (nd boot_o_4 (nd boot_o_8 (nd O1 (lf O0) nl) (nd O13 (lf O25) nl)) (nd O6 (nd O9 (lf O21) nl) (lf O16))) (nd boot_o_6 (nd boot_o_10 (nd O0 (lf O19) nl) (lf O14)) (nd O3 (nd O11 (lf O23) nl) (lf O1)))))
def S1 (w : World) (os : OsState) : SharedT := ⟨T1 w.params, 42, ⟨[], [], [], 0, [], [], false, #[], [], 0, false, false, false, 0, [2000, 10, 10], false, 0, true, [], [], 0, false⟩, ⟨[]⟩, ⟨0, 0, 0, 0⟩, 225, os⟩
abbrev O27 (P : Params) : Obj := ⟨(.type "dict"), none, (.dict #[(de P "__name__" 165 (.str "wasmcore.faults" 194)), (de P "__doc__" 166 .none), (de P "__package__" 167 .none), (de P "__loader__" 168 (.builtin "__main__.__loader__#opaque")), (de P "__spec__" 169 .none), (de P "__annotations__" 170 (.ref 6)), (de P "__builtins__" 171 (.ref 4)), (de P "__file__" 173 (cf 172)), (de P "__cached__" 174 .none), (de P "_wall" 193 (.ref 21)), (de P "WasmFault" 224 (.ref 38)), (de P "BadText" 252 (.ref 58))] 12), #[]⟩
abbrev O28 (P : Params) : Obj := ⟨.none, none, (.fields #[(.int 1 0), z0, (.ref 20), (.int 5 0), z0, (.ref 27), (.int 10 0), z0, (.ref 47)]), #[]⟩
noncomputable abbrev O29 (P : Params) : Obj := ⟨(.type "type"), none, (.cls ⟨"WasmFault", [(.type "Exception")], [(.ref 38), (.type "Exception"), (.type "BaseException"), (.type "object")], 37, "WasmFault", true, [], [(.ref 58)], false, none, false⟩), #[(some (.ref 22)), none, (some (.str "WasmFault" 196)), (some (.str "WasmFault" 204)), (some (.builtin "Exception.__new__")), (some (.bool true))]⟩
abbrev O30 (P : Params) : Obj := oT #[(.ref 38)]
abbrev O31 (P : Params) : Obj := ⟨(.type "dict"), none, (.dict #[(de P "__module__" 232 (.str "wasmcore.faults" 194)), (de P "__qualname__" 234 (.str "BadText" 233)), (de P "__firstlineno__" 236 (.int 10 235)), (de P "__init__" 246 (.ref 55)), (de P "__static_attributes__" 249 (.ref 56))] 5), #[]⟩
noncomputable abbrev O32 (P : Params) : Obj := ⟨.none, none, (.fields #[(.int 12 0), (.int 4 0), (.ref 54)]), #[]⟩
abbrev O33 (P : Params) : Obj := oC #[(.str "BadText" 227), (.str "BadText" 228), (cf 229), (.int 10 0), z0, z0, z0, z0, (.ref 45), (.bool false), (.int 181 0), (.ref 46), .none, .none, .none, .none, (.int 230 0), (.int 10 0), (cf 231)]
noncomputable abbrev O34 (P : Params) : Obj := ⟨(.type "frame"), none, .plain, #[(some (.ref 47)), (some (.ref 3)), (some (.ref 44)), none, (some (.str "wasmcore.faults" 194)), none, (some (.ref 0))]⟩
abbrev O35 (P : Params) : Obj := oT #[(.str "self" 240), (.str "why" 241), (.str "row" 242), (.str "column" 243)]
abbrev F37 : FuncBody := fnM 3 0
abbrev D37 := fd "__init__" "BadText.__init__" ⟨[], [⟨"self", none, ⟨12, 17, 12, 21⟩⟩, ⟨"why", none, ⟨12, 23, 12, 26⟩⟩, ⟨"row", none, ⟨12, 28, 12, 31⟩⟩, ⟨"column", none, ⟨12, 33, 12, 39⟩⟩], none, [], [], none, []⟩ F37 ⟨.function, [("self", .local), ("why", .local), ("row", .local), ("column", .local), ("WasmFault", .globalImplicit)], false, false, []⟩
abbrev O36 (P : Params) : Obj := oF .none (D37 0 .none .none .none .none none .none .none 0)
abbrev O37 (P : Params) : Obj := oC #[(.str "__init__" 237), (.str "BadText.__init__" 238), (cf 239), (.int 12 0), (.int 4 0), z0, z0, (.int 3 0), (.ref 49), (.bool true), (.int 181 0), (.ref 50), .none, (.ref 51), (.ref 52), (.ref 53), (.int 244 0), (.int 12 0), (cf 245)]
abbrev O38 (P : Params) : Obj := oF (.type "function") (D37 3 .none .none .none (.str "wasmcore.faults" 194) none (.ref 54) .none 0)
abbrev O39 (P : Params) : Obj := oT #[(.str "column" 247), (.str "row" 248)]
abbrev O40 (P : Params) : Obj := ⟨(.type "dict"), none, (.dict #[(de P "__module__" 232 (.str "wasmcore.faults" 194)), (de P "__firstlineno__" 236 (.int 10 235)), (de P "__init__" 246 (.ref 55)), (de P "__static_attributes__" 249 (.ref 56)), (de P "__doc__" 250 .none)] 2), #[]⟩
noncomputable abbrev O41 (P : Params) : Obj := ⟨(.type "type"), none, (.cls ⟨"BadText", [(.ref 38)], [(.ref 58), (.ref 38), (.type "Exception"), (.type "BaseException"), (.type "object")], 57, "BadText", true, [], [], false, none, false⟩), #[(some (.ref 42)), none, (some (.str "BadText" 225)), (some (.str "BadText" 233)), (some (.builtin "Exception.__new__")), (some (.bool true))]⟩
noncomputable abbrev O42 (P : Params) : Obj := ⟨(.type "super"), none, (.fields #[(.ref 58), (.ref 58), (.ref 58)]), #[]⟩
noncomputable abbrev O43 (P : Params) : Obj := ⟨(.type "builtin_function_or_method"), none, (.fields #[(.builtin "object.__init_subclass__"), (.ref 58)]), #[]⟩
def T2 : Params → BT := (nd boot_o_0 (nd boot_o_1 (nd O27 (nd boot_o_7 (nd O0 (lf O17) (lf O33)) (nd O12 (lf O24) (lf O38))) (nd O0 (nd O8 (lf O20) (lf O35)) (nd O15 (lf O12) (lf O42)))) (nd boot_o_5 (nd boot_o_9 (nd O7 (lf O18) (lf O0)) (nd O0 (lf O26) (lf O40))) (nd O2 (nd O10 (lf O22) (lf O36)) (nd O0 (lf O0) nl)))) (nd O4 (nd boot_o_4 (nd boot_o_8 (nd O1 (lf O0) (lf O34)) (nd O13 (lf O25) (lf O39))) (nd O28 (nd O9 (lf O21) (lf O0)) (nd O16 (lf O31) (lf O43)))) (nd boot_o_6 (nd boot_o_10 (nd O0 (lf O19) (lf O1)) (nd O14 (lf O30) (lf O41))) (nd O3 (nd O11 (lf O29) (lf O37)) (nd O1 (lf O32) nl)))))
def S2 (w : World) (os : OsState) : SharedT := ⟨T2 w.params, 61, ⟨[], [], [], 0, [], [], false, #[], [], 0, false, false, false, 0, [2000, 10, 10], false, 0, true, [], [], 0, false⟩, ⟨[]⟩, ⟨0, 0, 0, 0⟩, 253, os⟩
abbrev O44 (P : Params) : Obj := ⟨(.type "dict"), none, (.dict #[(de P "__name__" 165 (.str "wasmcore.faults" 194)), (de P "__doc__" 166 .none), (de P "__package__" 167 .none), (de P "__loader__" 168 (.builtin "__main__.__loader__#opaque")), (de P "__spec__" 169 .none), (de P "__annotations__" 170 (.ref 6)), (de P "__builtins__" 171 (.ref 4)), (de P "__file__" 173 (cf 172)), (de P "__cached__" 174 .none), (de P "_wall" 193 (.ref 21)), (de P "WasmFault" 224 (.ref 38)), (de P "BadText" 252 (.ref 58)), (de P "LeftOut" 278 (.ref 77))] 13), #[]⟩
abbrev O45 (P : Params) : Obj := ⟨.none, none, (.fields #[(.int 1 0), z0, (.ref 20), (.int 5 0), z0, (.ref 27), (.int 10 0), z0, (.ref 47), (.int 16 0), z0, (.ref 66)]), #[]⟩
noncomputable abbrev O46 (P : Params) : Obj := ⟨(.type "type"), none, (.cls ⟨"WasmFault", [(.type "Exception")], [(.ref 38), (.type "Exception"), (.type "BaseException"), (.type "object")], 37, "WasmFault", true, [], [(.ref 58), (.ref 77)], false, none, false⟩), #[(some (.ref 22)), none, (some (.str "WasmFault" 196)), (some (.str "WasmFault" 204)), (some (.builtin "Exception.__new__")), (some (.bool true))]⟩
abbrev O47 (P : Params) : Obj := ⟨(.type "dict"), none, (.dict #[(de P "__module__" 260 (.str "wasmcore.faults" 194)), (de P "__qualname__" 262 (.str "LeftOut" 261)), (de P "__firstlineno__" 264 (.int 16 263)), (de P "__init__" 273 (.ref 74)), (de P "__static_attributes__" 275 (.ref 75))] 5), #[]⟩
noncomputable abbrev O48 (P : Params) : Obj := ⟨.none, none, (.fields #[(.int 18 0), (.int 4 0), (.ref 73)]), #[]⟩
abbrev O49 (P : Params) : Obj := oC #[(.str "LeftOut" 255), (.str "LeftOut" 256), (cf 257), (.int 16 0), z0, z0, z0, z0, (.ref 64), (.bool false), (.int 181 0), (.ref 65), .none, .none, .none, .none, (.int 258 0), (.int 16 0), (cf 259)]
noncomputable abbrev O50 (P : Params) : Obj := ⟨(.type "frame"), none, .plain, #[(some (.ref 66)), (some (.ref 3)), (some (.ref 63)), none, (some (.str "wasmcore.faults" 194)), none, (some (.ref 0))]⟩
abbrev O51 (P : Params) : Obj := oT #[(.str "self" 268), (.str "why" 269), (.str "at" 270)]
abbrev F53 : FuncBody := fnM 4 0
abbrev D53 := fd "__init__" "LeftOut.__init__" ⟨[], [⟨"self", none, ⟨18, 17, 18, 21⟩⟩, ⟨"why", none, ⟨18, 23, 18, 26⟩⟩, ⟨"at", none, ⟨18, 28, 18, 30⟩⟩], none, [], [], none, []⟩ F53 ⟨.function, [("self", .local), ("why", .local), ("at", .local), ("WasmFault", .globalImplicit)], false, false, []⟩
abbrev O52 (P : Params) : Obj := oF .none (D53 0 .none .none .none .none none .none .none 0)
abbrev O53 (P : Params) : Obj := oC #[(.str "__init__" 265), (.str "LeftOut.__init__" 266), (cf 267), (.int 18 0), (.int 3 0), z0, z0, (.int 3 0), (.ref 68), (.bool true), (.int 181 0), (.ref 69), .none, (.ref 70), (.ref 71), (.ref 72), (.int 271 0), (.int 18 0), (cf 272)]
abbrev O54 (P : Params) : Obj := oF (.type "function") (D53 3 .none .none .none (.str "wasmcore.faults" 194) none (.ref 73) .none 0)
abbrev O55 (P : Params) : Obj := oT #[(.str "at" 274)]
abbrev O56 (P : Params) : Obj := ⟨(.type "dict"), none, (.dict #[(de P "__module__" 260 (.str "wasmcore.faults" 194)), (de P "__firstlineno__" 264 (.int 16 263)), (de P "__init__" 273 (.ref 74)), (de P "__static_attributes__" 275 (.ref 75)), (de P "__doc__" 276 .none)] 2), #[]⟩
noncomputable abbrev O57 (P : Params) : Obj := ⟨(.type "type"), none, (.cls ⟨"LeftOut", [(.ref 38)], [(.ref 77), (.ref 38), (.type "Exception"), (.type "BaseException"), (.type "object")], 76, "LeftOut", true, [], [], false, none, false⟩), #[(some (.ref 61)), none, (some (.str "LeftOut" 253)), (some (.str "LeftOut" 261)), (some (.builtin "Exception.__new__")), (some (.bool true))]⟩
noncomputable abbrev O58 (P : Params) : Obj := ⟨(.type "super"), none, (.fields #[(.ref 77), (.ref 77), (.ref 77)]), #[]⟩
noncomputable abbrev O59 (P : Params) : Obj := ⟨(.type "builtin_function_or_method"), none, (.fields #[(.builtin "object.__init_subclass__"), (.ref 77)]), #[]⟩
def T3 : Params → BT := (nd boot_o_0 (nd boot_o_1 (nd O44 (nd boot_o_7 (nd O0 (nd O17 (lf O47) nl) (nd O33 (lf O59) nl)) (nd O12 (nd O24 (lf O0) nl) (lf O38))) (nd O0 (nd O8 (nd O20 (lf O50) nl) (lf O35)) (nd O15 (nd O12 (lf O55) nl) (lf O42)))) (nd boot_o_5 (nd boot_o_9 (nd O7 (nd O18 (lf O48) nl) (lf O0)) (nd O0 (nd O26 (lf O53) nl) (lf O40))) (nd O2 (nd O10 (nd O22 (lf O1) nl) (lf O36)) (nd O0 (nd O0 (lf O57) nl) (lf O30))))) (nd O4 (nd boot_o_4 (nd boot_o_8 (nd O1 (nd O0 (lf O0) nl) (lf O34)) (nd O13 (nd O25 (lf O52) nl) (lf O39))) (nd O45 (nd O9 (nd O21 (lf O0) nl) (lf O0)) (nd O16 (nd O31 (lf O56) nl) (lf O43)))) (nd boot_o_6 (nd boot_o_10 (nd O0 (nd O19 (lf O49) nl) (lf O1)) (nd O14 (nd O30 (lf O54) nl) (lf O41))) (nd O3 (nd O11 (nd O46 (lf O51) nl) (lf O37)) (nd O1 (nd O32 (lf O58) nl) (lf O12))))))
def S3 (w : World) (os : OsState) : SharedT := ⟨T3 w.params, 80, ⟨[], [], [], 0, [], [], false, #[], [], 0, false, false, false, 0, [2000, 10, 10], false, 0, true, [], [], 0, false⟩, ⟨[]⟩, ⟨0, 0, 0, 0⟩, 279, os⟩
abbrev O60 (P : Params) : Obj := ⟨(.type "dict"), none, (.dict #[(de P "__name__" 165 (.str "wasmcore.lexer" 307)), (de P "__doc__" 166 .none), (de P "__package__" 167 .none), (de P "__loader__" 168 (.builtin "__main__.__loader__#opaque")), (de P "__spec__" 169 .none), (de P "__annotations__" 170 (.ref 6)), (de P "__builtins__" 171 (.ref 4)), (de P "__file__" 173 (cf 172)), (de P "__cached__" 174 .none), (de P "_wall" 193 (.ref 21)), (de P "WasmFault" 224 (.ref 38)), (de P "BadText" 252 (.ref 58)), (de P "LeftOut" 278 (.ref 77)), (de P "Misused" 294 (.ref 89)), (de P "utf8_of" 306 (.ref 98)), (de P "DIGITS" 310 (.str "0123456789" 309)), (de P "HEX_DIGITS" 312 (.str "0123456789abcdefABCDEF" 311)), (de P "SMALL_LETTERS" 314 (.str "abcdefghijklmnopqrstuvwxyz" 313)), (de P "GREAT_LETTERS" 316 (.str "ABCDEFGHIJKLMNOPQRSTUVWXYZ" 315)), (de P "ID_SIGNS" 321 (.str "0123456789abcdefghijklmnopqrstuvwxyzABCDEFGHIJKLMNOPQRSTUVWXYZ!#$%&'*+-./:<=>?@\\^_`|~" 320)), (de P "LONE_SIGNS" 323 (.str ",;[]{}" 322)), (de P "BLANKS" 325 (.str " \t\n\x0d" 324))] 22), #[]⟩
abbrev O61 (P : Params) : Obj := ⟨.none, none, (.fields #[(.int 1 0), z0, (.ref 20), (.int 5 0), z0, (.ref 27), (.int 10 0), z0, (.ref 47), (.int 16 0), z0, (.ref 66), (.int 21 0), z0, (.ref 85), (.int 24 0), z0, (.ref 97)]), #[]⟩
noncomputable abbrev O62 (P : Params) : Obj := ⟨(.type "type"), none, (.cls ⟨"WasmFault", [(.type "Exception")], [(.ref 38), (.type "Exception"), (.type "BaseException"), (.type "object")], 37, "WasmFault", true, [], [(.ref 58), (.ref 77), (.ref 89)], false, none, false⟩), #[(some (.ref 22)), none, (some (.str "WasmFault" 196)), (some (.str "WasmFault" 204)), (some (.builtin "Exception.__new__")), (some (.bool true))]⟩
abbrev O63 (P : Params) : Obj := ⟨(.type "dict"), none, (.dict #[(de P "__module__" 286 (.str "wasmcore.faults" 194)), (de P "__qualname__" 288 (.str "Misused" 287)), (de P "__firstlineno__" 290 (.int 21 289)), (de P "__static_attributes__" 291 (.ref 87))] 4), #[]⟩
abbrev O64 (P : Params) : Obj := oC #[(.str "Misused" 281), (.str "Misused" 282), (cf 283), (.int 21 0), z0, z0, z0, z0, (.ref 83), (.bool false), (.int 181 0), (.ref 84), .none, .none, .none, .none, (.int 284 0), (.int 21 0), (cf 285)]
noncomputable abbrev O65 (P : Params) : Obj := ⟨(.type "frame"), none, .plain, #[(some (.ref 85)), (some (.ref 3)), (some (.ref 82)), none, (some (.str "wasmcore.faults" 194)), none, (some (.ref 0))]⟩
abbrev O66 (P : Params) : Obj := ⟨(.type "dict"), none, (.dict #[(de P "__module__" 286 (.str "wasmcore.faults" 194)), (de P "__firstlineno__" 290 (.int 21 289)), (de P "__static_attributes__" 291 (.ref 87)), (de P "__doc__" 292 .none)] 2), #[]⟩
noncomputable abbrev O67 (P : Params) : Obj := ⟨(.type "type"), none, (.cls ⟨"Misused", [(.ref 38)], [(.ref 89), (.ref 38), (.type "Exception"), (.type "BaseException"), (.type "object")], 88, "Misused", true, [], [], false, none, false⟩), #[(some (.ref 80)), none, (some (.str "Misused" 279)), (some (.str "Misused" 287)), (some (.builtin "Exception.__new__")), (some (.bool true))]⟩
noncomputable abbrev O68 (P : Params) : Obj := ⟨(.type "super"), none, (.fields #[(.ref 89), (.ref 89), (.ref 89)]), #[]⟩
noncomputable abbrev O69 (P : Params) : Obj := ⟨(.type "builtin_function_or_method"), none, (.fields #[(.builtin "object.__init_subclass__"), (.ref 89)]), #[]⟩
abbrev O70 (P : Params) : Obj := oT #[(.str "text" 300), (.str "found" 301), (.str "sign" 302), (.str "point" 303)]
abbrev F72 : FuncBody := fnB 7
abbrev D72 := fd "utf8_of" "utf8_of" ⟨[], [⟨"text", none, ⟨24, 12, 24, 16⟩⟩], none, [], [], none, []⟩ F72 ⟨.function, [("text", .local), ("found", .local), ("sign", .local), ("point", .local), ("bytearray", .globalImplicit), ("ord", .globalImplicit), ("Misused", .globalImplicit), ("bytes", .globalImplicit)], false, false, []⟩
abbrev O71 (P : Params) : Obj := oF .none (D72 0 .none .none .none .none none .none .none 0)
abbrev O72 (P : Params) : Obj := oC #[(.str "utf8_of" 297), (.str "utf8_of" 298), (cf 299), (.int 24 0), (.int 1 0), z0, z0, (.int 3 0), (.ref 92), (.bool true), (.int 181 0), (.ref 93), .none, (.ref 94), (.ref 95), (.ref 96), (.int 304 0), (.int 24 0), (cf 305)]
abbrev O73 (P : Params) : Obj := oF (.type "function") (D72 3 .none .none .none (.str "wasmcore.octets" 295) none (.ref 97) .none 0)
def T4 : Params → BT := (nd boot_o_0 (nd boot_o_1 (nd O60 (nd boot_o_7 (nd O0 (nd O17 (lf O47) (lf O0)) (nd O33 (lf O59) nl)) (nd O12 (nd O24 (lf O0) nl) (nd O38 (lf O0) nl))) (nd O0 (nd O8 (nd O20 (lf O50) nl) (nd O35 (lf O0) nl)) (nd O15 (nd O12 (lf O55) nl) (nd O42 (lf O69) nl)))) (nd boot_o_5 (nd boot_o_9 (nd O7 (nd O18 (lf O48) (lf O72)) (nd O0 (lf O12) nl)) (nd O0 (nd O26 (lf O53) nl) (nd O40 (lf O67) nl))) (nd O2 (nd O10 (nd O22 (lf O1) nl) (nd O36 (lf O64) nl)) (nd O0 (nd O0 (lf O57) nl) (nd O30 (lf O1) nl))))) (nd O4 (nd boot_o_4 (nd boot_o_8 (nd O1 (nd O0 (lf O0) (lf O71)) (nd O34 (lf O30) nl)) (nd O13 (nd O25 (lf O52) nl) (nd O39 (lf O66) nl))) (nd O61 (nd O9 (nd O21 (lf O0) nl) (nd O0 (lf O1) nl)) (nd O16 (nd O31 (lf O56) nl) (nd O43 (lf O0) nl)))) (nd boot_o_6 (nd boot_o_10 (nd O0 (nd O19 (lf O49) (lf O73)) (nd O1 (lf O63) nl)) (nd O14 (nd O30 (lf O54) nl) (nd O41 (lf O68) nl))) (nd O3 (nd O11 (nd O62 (lf O51) nl) (nd O37 (lf O65) nl)) (nd O1 (nd O32 (lf O58) nl) (nd O12 (lf O70) nl))))))
def S4 (w : World) (os : OsState) : SharedT := ⟨T4 w.params, 99, ⟨[], [], [], 0, [], [], false, #[], [], 0, false, false, false, 0, [2000, 10, 10], false, 0, true, [], [], 0, false⟩, ⟨[]⟩, ⟨0, 0, 0, 0⟩, 326, os⟩
abbrev O74 (P : Params) : Obj := ⟨(.type "dict"), none, (.dict #[(de P "__name__" 165 (.str "wasmcore.lexer" 307)), (de P "__doc__" 166 .none), (de P "__package__" 167 .none), (de P "__loader__" 168 (.builtin "__main__.__loader__#opaque")), (de P "__spec__" 169 .none), (de P "__annotations__" 170 (.ref 6)), (de P "__builtins__" 171 (.ref 4)), (de P "__file__" 173 (cf 172)), (de P "__cached__" 174 .none), (de P "_wall" 193 (.ref 21)), (de P "WasmFault" 224 (.ref 38)), (de P "BadText" 252 (.ref 58)), (de P "LeftOut" 278 (.ref 77)), (de P "Misused" 294 (.ref 89)), (de P "utf8_of" 306 (.ref 98)), (de P "DIGITS" 310 (.str "0123456789" 309)), (de P "HEX_DIGITS" 312 (.str "0123456789abcdefABCDEF" 311)), (de P "SMALL_LETTERS" 314 (.str "abcdefghijklmnopqrstuvwxyz" 313)), (de P "GREAT_LETTERS" 316 (.str "ABCDEFGHIJKLMNOPQRSTUVWXYZ" 315)), (de P "ID_SIGNS" 321 (.str "0123456789abcdefghijklmnopqrstuvwxyzABCDEFGHIJKLMNOPQRSTUVWXYZ!#$%&'*+-./:<=>?@\\^_`|~" 320)), (de P "LONE_SIGNS" 323 (.str ",;[]{}" 322)), (de P "BLANKS" 325 (.str " \t\n\x0d" 324)), (de P "ESCAPES" 344 (.ref 99)), (de P "Token" 381 (.ref 116))] 24), #[]⟩
abbrev O75 (P : Params) : Obj := ⟨.none, none, (.fields #[(.int 1 0), z0, (.ref 20), (.int 5 0), z0, (.ref 27), (.int 10 0), z0, (.ref 47), (.int 16 0), z0, (.ref 66), (.int 21 0), z0, (.ref 85), (.int 24 0), z0, (.ref 97), (.int 48 0), z0, (.ref 105)]), #[]⟩
abbrev O76 (P : Params) : Obj := ⟨(.type "dict"), none, (.dict #[(de P "t" 326 (.int 9 327)), (de P "n" 328 (.int 10 329)), (de P "r" 330 (.int 13 331)), (de P "\"" 332 (.int 34 333)), (de P "'" 334 (.int 39 335)), (de P "\\" 336 (.int 92 337))] 6), #[]⟩
abbrev O77 (P : Params) : Obj := ⟨(.type "dict"), none, (.dict #[(de P "__module__" 352 (.str "wasmcore.lexer" 307)), (de P "__qualname__" 354 (.str "Token" 353)), (de P "__firstlineno__" 356 (.int 48 355)), (de P "__init__" 368 (.ref 113)), (de P "__static_attributes__" 374 (.ref 114))] 5), #[]⟩
noncomputable abbrev O78 (P : Params) : Obj := ⟨.none, none, (.fields #[(.int 50 0), (.int 4 0), (.ref 112)]), #[]⟩
abbrev O79 (P : Params) : Obj := oC #[(.str "Token" 347), (.str "Token" 348), (cf 349), (.int 48 0), z0, z0, z0, z0, (.ref 103), (.bool false), (.int 181 0), (.ref 104), .none, .none, .none, .none, (.int 350 0), (.int 48 0), (cf 351)]
noncomputable abbrev O80 (P : Params) : Obj := ⟨(.type "frame"), none, .plain, #[(some (.ref 105)), (some (.ref 3)), (some (.ref 102)), none, (some (.str "wasmcore.lexer" 307)), none, (some (.ref 0))]⟩
abbrev O81 (P : Params) : Obj := oT #[(.str "self" 360), (.str "sort" 361), (.str "text" 362), (.str "value" 363), (.str "row" 364), (.str "column" 365)]
abbrev F83 : FuncBody := fnM 17 0
abbrev D83 := fd "__init__" "Token.__init__" ⟨[], [⟨"self", none, ⟨50, 17, 50, 21⟩⟩, ⟨"sort", none, ⟨50, 23, 50, 27⟩⟩, ⟨"text", none, ⟨50, 29, 50, 33⟩⟩, ⟨"value", none, ⟨50, 35, 50, 40⟩⟩, ⟨"row", none, ⟨50, 42, 50, 45⟩⟩, ⟨"column", none, ⟨50, 47, 50, 53⟩⟩], none, [], [], none, []⟩ F83 ⟨.function, [("self", .local), ("sort", .local), ("text", .local), ("value", .local), ("row", .local), ("column", .local)], false, false, []⟩
abbrev O82 (P : Params) : Obj := oF .none (D83 0 .none .none .none .none none .none .none 0)
abbrev O83 (P : Params) : Obj := oC #[(.str "__init__" 357), (.str "Token.__init__" 358), (cf 359), (.int 50 0), (.int 6 0), z0, z0, (.int 3 0), (.ref 107), (.bool true), (.int 181 0), (.ref 108), .none, (.ref 109), (.ref 110), (.ref 111), (.int 366 0), (.int 50 0), (cf 367)]
abbrev O84 (P : Params) : Obj := oF (.type "function") (D83 3 .none .none .none (.str "wasmcore.lexer" 307) none (.ref 112) .none 0)
abbrev O85 (P : Params) : Obj := oT #[(.str "column" 369), (.str "row" 370), (.str "sort" 371), (.str "text" 372), (.str "value" 373)]
abbrev O86 (P : Params) : Obj := ⟨(.type "dict"), none, (.dict #[(de P "__module__" 352 (.str "wasmcore.lexer" 307)), (de P "__firstlineno__" 356 (.int 48 355)), (de P "__init__" 368 (.ref 113)), (de P "__static_attributes__" 374 (.ref 114)), (de P "__dict__" 376 (.ref 117)), (de P "__weakref__" 378 (.ref 118)), (de P "__doc__" 379 .none)] 4), #[]⟩
noncomputable abbrev O87 (P : Params) : Obj := ⟨(.type "type"), none, (.cls ⟨"Token", [(.type "object")], [(.ref 116), (.type "object")], 115, "Token", true, [], [], false, none, false⟩), #[none, none, (some (.str "Token" 345)), (some (.str "Token" 353)), (some (.builtin "object.__new__")), (some (.bool true))]⟩
noncomputable abbrev O88 (P : Params) : Obj := ⟨(.type "getset_descriptor"), none, (.fields #[(.str "__dict__" 375), (.ref 116), (.builtin "function.__dict__"), (.builtin "function.__dict__#set")]), #[]⟩
noncomputable abbrev O89 (P : Params) : Obj := ⟨(.type "getset_descriptor"), none, (.fields #[(.str "__weakref__" 377), (.ref 116), (.builtin "ExceptionGroup.__weakref__"), .none]), #[]⟩
noncomputable abbrev O90 (P : Params) : Obj := ⟨(.type "super"), none, (.fields #[(.ref 116), (.ref 116), (.ref 116)]), #[]⟩
noncomputable abbrev O91 (P : Params) : Obj := ⟨(.type "builtin_function_or_method"), none, (.fields #[(.builtin "object.__init_subclass__"), (.ref 116)]), #[]⟩
def T5 : Params → BT := (nd boot_o_0 (nd boot_o_1 (nd O74 (nd boot_o_7 (nd O0 (nd O17 (lf O47) (lf O0)) (nd O33 (lf O59) (lf O82))) (nd O12 (nd O24 (lf O0) (lf O0)) (nd O38 (lf O0) (lf O90)))) (nd O0 (nd O8 (nd O20 (lf O50) (lf O76)) (nd O35 (lf O0) (lf O86))) (nd O15 (nd O12 (lf O55) (lf O0)) (nd O42 (lf O69) nl)))) (nd boot_o_5 (nd boot_o_9 (nd O7 (nd O18 (lf O48) (lf O72)) (nd O0 (lf O12) (lf O84))) (nd O0 (nd O26 (lf O53) (lf O79)) (nd O40 (lf O67) nl))) (nd O2 (nd O10 (nd O22 (lf O1) (lf O12)) (nd O36 (lf O64) (lf O88))) (nd O0 (nd O0 (lf O57) (lf O81)) (nd O30 (lf O1) nl))))) (nd O4 (nd boot_o_4 (nd boot_o_8 (nd O1 (nd O0 (lf O0) (lf O71)) (nd O34 (lf O30) (lf O83))) (nd O13 (nd O25 (lf O52) (lf O78)) (nd O39 (lf O66) (lf O91)))) (nd O75 (nd O9 (nd O21 (lf O0) (lf O0)) (nd O0 (lf O1) (lf O87))) (nd O16 (nd O31 (lf O56) (lf O1)) (nd O43 (lf O0) nl)))) (nd boot_o_6 (nd boot_o_10 (nd O0 (nd O19 (lf O49) (lf O73)) (nd O1 (lf O63) (lf O85))) (nd O14 (nd O30 (lf O54) (lf O80)) (nd O41 (lf O68) nl))) (nd O3 (nd O11 (nd O62 (lf O51) (lf O77)) (nd O37 (lf O65) (lf O89))) (nd O1 (nd O32 (lf O58) (lf O0)) (nd O12 (lf O70) nl))))))
def S5 (w : World) (os : OsState) : SharedT := ⟨T5 w.params, 121, ⟨[], [], [], 0, [], [], false, #[], [], 0, false, false, false, 0, [2000, 10, 10], false, 0, true, [], [], 0, false⟩, ⟨[]⟩, ⟨0, 0, 0, 0⟩, 382, os⟩
abbrev O92 (P : Params) : Obj := ⟨(.type "dict"), none, (.dict #[(de P "__name__" 165 (.str "wasmcore.lexer" 307)), (de P "__doc__" 166 .none), (de P "__package__" 167 .none), (de P "__loader__" 168 (.builtin "__main__.__loader__#opaque")), (de P "__spec__" 169 .none), (de P "__annotations__" 170 (.ref 6)), (de P "__builtins__" 171 (.ref 4)), (de P "__file__" 173 (cf 172)), (de P "__cached__" 174 .none), (de P "_wall" 193 (.ref 21)), (de P "WasmFault" 224 (.ref 38)), (de P "BadText" 252 (.ref 58)), (de P "LeftOut" 278 (.ref 77)), (de P "Misused" 294 (.ref 89)), (de P "utf8_of" 306 (.ref 98)), (de P "DIGITS" 310 (.str "0123456789" 309)), (de P "HEX_DIGITS" 312 (.str "0123456789abcdefABCDEF" 311)), (de P "SMALL_LETTERS" 314 (.str "abcdefghijklmnopqrstuvwxyz" 313)), (de P "GREAT_LETTERS" 316 (.str "ABCDEFGHIJKLMNOPQRSTUVWXYZ" 315)), (de P "ID_SIGNS" 321 (.str "0123456789abcdefghijklmnopqrstuvwxyzABCDEFGHIJKLMNOPQRSTUVWXYZ!#$%&'*+-./:<=>?@\\^_`|~" 320)), (de P "LONE_SIGNS" 323 (.str ",;[]{}" 322)), (de P "BLANKS" 325 (.str " \t\n\x0d" 324)), (de P "ESCAPES" 344 (.ref 99)), (de P "Token" 381 (.ref 116)), (de P "Branch" 422 (.ref 144)), (de P "is_branch" 430 (.ref 156)), (de P "is_branch_lexer" 431 (.ref 156)), (de P "is_token" 440 (.ref 164)), (de P "is_token_lexer" 441 (.ref 164))] 29), #[]⟩
abbrev O93 (P : Params) : Obj := ⟨.none, none, (.fields #[(.int 1 0), z0, (.ref 20), (.int 5 0), z0, (.ref 27), (.int 10 0), z0, (.ref 47), (.int 16 0), z0, (.ref 66), (.int 21 0), z0, (.ref 85), (.int 24 0), z0, (.ref 97), (.int 48 0), z0, (.ref 105), (.int 56 0), z0, (.ref 126), (.int 66 0), z0, (.ref 155), (.int 69 0), z0, (.ref 163)]), #[]⟩
abbrev O94 (P : Params) : Obj := ⟨(.type "dict"), none, (.dict #[(de P "__module__" 389 (.str "wasmcore.lexer" 307)), (de P "__qualname__" 391 (.str "Branch" 390)), (de P "__firstlineno__" 393 (.int 56 392)), (de P "__init__" 403 (.ref 134)), (de P "head" 411 (.ref 141)), (de P "__static_attributes__" 415 (.ref 142))] 6), #[]⟩
noncomputable abbrev O95 (P : Params) : Obj := ⟨.none, none, (.fields #[(.int 58 0), (.int 4 0), (.ref 133), (.int 63 0), (.int 4 0), (.ref 140)]), #[]⟩
abbrev O96 (P : Params) : Obj := oC #[(.str "Branch" 384), (.str "Branch" 385), (cf 386), (.int 56 0), z0, z0, z0, z0, (.ref 124), (.bool false), (.int 181 0), (.ref 125), .none, .none, .none, .none, (.int 387 0), (.int 56 0), (cf 388)]
noncomputable abbrev O97 (P : Params) : Obj := ⟨(.type "frame"), none, .plain, #[(some (.ref 126)), (some (.ref 3)), (some (.ref 123)), none, (some (.str "wasmcore.lexer" 307)), none, (some (.ref 0))]⟩
abbrev O98 (P : Params) : Obj := oT #[(.str "self" 397), (.str "items" 398), (.str "row" 399), (.str "column" 400)]
abbrev F100 : FuncBody := fnM 18 0
abbrev D100 := fd "__init__" "Branch.__init__" ⟨[], [⟨"self", none, ⟨58, 17, 58, 21⟩⟩, ⟨"items", none, ⟨58, 23, 58, 28⟩⟩, ⟨"row", none, ⟨58, 30, 58, 33⟩⟩, ⟨"column", none, ⟨58, 35, 58, 41⟩⟩], none, [], [], none, []⟩ F100 ⟨.function, [("self", .local), ("items", .local), ("row", .local), ("column", .local)], false, false, []⟩
abbrev O99 (P : Params) : Obj := oF .none (D100 0 .none .none .none .none none .none .none 0)
abbrev O100 (P : Params) : Obj := oC #[(.str "__init__" 394), (.str "Branch.__init__" 395), (cf 396), (.int 58 0), (.int 4 0), z0, z0, (.int 3 0), (.ref 128), (.bool true), (.int 181 0), (.ref 129), .none, (.ref 130), (.ref 131), (.ref 132), (.int 401 0), (.int 58 0), (cf 402)]
abbrev O101 (P : Params) : Obj := oF (.type "function") (D100 3 .none .none .none (.str "wasmcore.lexer" 307) none (.ref 133) .none 0)
abbrev O102 (P : Params) : Obj := oT #[(.str "self" 407), (.str "first" 408)]
abbrev F104 : FuncBody := fnM 18 1
abbrev D104 := fd "head" "Branch.head" ⟨[], [⟨"self", none, ⟨63, 13, 63, 17⟩⟩], none, [], [], none, []⟩ F104 ⟨.function, [("self", .local), ("first", .local), ("len", .globalImplicit), ("isinstance", .globalImplicit), ("Token", .globalImplicit)], false, false, []⟩
abbrev O103 (P : Params) : Obj := oF .none (D104 0 .none .none .none .none none .none .none 0)
abbrev O104 (P : Params) : Obj := oC #[(.str "head" 404), (.str "Branch.head" 405), (cf 406), (.int 63 0), (.int 1 0), z0, z0, (.int 3 0), (.ref 135), (.bool true), (.int 181 0), (.ref 136), .none, (.ref 137), (.ref 138), (.ref 139), (.int 409 0), (.int 63 0), (cf 410)]
abbrev O105 (P : Params) : Obj := oF (.type "function") (D104 3 .none .none .none (.str "wasmcore.lexer" 307) none (.ref 140) .none 0)
abbrev O106 (P : Params) : Obj := oT #[(.str "column" 412), (.str "items" 413), (.str "row" 414)]
abbrev O107 (P : Params) : Obj := ⟨(.type "dict"), none, (.dict #[(de P "__module__" 389 (.str "wasmcore.lexer" 307)), (de P "__firstlineno__" 393 (.int 56 392)), (de P "__init__" 403 (.ref 134)), (de P "head" 411 (.ref 141)), (de P "__static_attributes__" 415 (.ref 142)), (de P "__dict__" 417 (.ref 145)), (de P "__weakref__" 419 (.ref 146)), (de P "__doc__" 420 .none)] 4), #[]⟩
noncomputable abbrev O108 (P : Params) : Obj := ⟨(.type "type"), none, (.cls ⟨"Branch", [(.type "object")], [(.ref 144), (.type "object")], 143, "Branch", true, [], [], false, none, false⟩), #[none, none, (some (.str "Branch" 382)), (some (.str "Branch" 390)), (some (.builtin "object.__new__")), (some (.bool true))]⟩
noncomputable abbrev O109 (P : Params) : Obj := ⟨(.type "getset_descriptor"), none, (.fields #[(.str "__dict__" 416), (.ref 144), (.builtin "function.__dict__"), (.builtin "function.__dict__#set")]), #[]⟩
noncomputable abbrev O110 (P : Params) : Obj := ⟨(.type "getset_descriptor"), none, (.fields #[(.str "__weakref__" 418), (.ref 144), (.builtin "ExceptionGroup.__weakref__"), .none]), #[]⟩
noncomputable abbrev O111 (P : Params) : Obj := ⟨(.type "super"), none, (.fields #[(.ref 144), (.ref 144), (.ref 144)]), #[]⟩
noncomputable abbrev O112 (P : Params) : Obj := ⟨(.type "builtin_function_or_method"), none, (.fields #[(.builtin "object.__init_subclass__"), (.ref 144)]), #[]⟩
abbrev O113 (P : Params) : Obj := oT #[.none]
abbrev O114 (P : Params) : Obj := oT #[(.str "item" 426), (.str "head" 427)]
abbrev F116 : FuncBody := fnB 19
abbrev D116 := fd "is_branch" "is_branch" ⟨[], [⟨"item", none, ⟨66, 14, 66, 18⟩⟩, ⟨"head", none, ⟨66, 20, 66, 24⟩⟩], none, [], [], none, [(.Constant .none 0 ⟨66, 25, 66, 29⟩)]⟩ F116 ⟨.function, [("item", .local), ("head", .local), ("isinstance", .globalImplicit), ("Branch", .globalImplicit)], false, false, []⟩
abbrev O115 (P : Params) : Obj := oF .none (D116 0 .none .none .none .none none .none .none 0)
abbrev O116 (P : Params) : Obj := oC #[(.str "is_branch" 423), (.str "is_branch" 424), (cf 425), (.int 66 0), (.int 2 0), z0, z0, (.int 3 0), (.ref 150), (.bool true), (.int 181 0), (.ref 151), .none, (.ref 152), (.ref 153), (.ref 154), (.int 428 0), (.int 66 0), (cf 429)]
abbrev O117 (P : Params) : Obj := oF (.type "function") (D116 3 (.ref 149) .none .none (.str "wasmcore.lexer" 307) none (.ref 155) .none 0)
abbrev O118 (P : Params) : Obj := oT #[(.str "item" 435), (.str "sort" 436), (.str "text" 437)]
abbrev F120 : FuncBody := fnB 21
abbrev D120 := fd "is_token" "is_token" ⟨[], [⟨"item", none, ⟨69, 13, 69, 17⟩⟩, ⟨"sort", none, ⟨69, 19, 69, 23⟩⟩, ⟨"text", none, ⟨69, 25, 69, 29⟩⟩], none, [], [], none, [(.Constant .none 0 ⟨69, 30, 69, 34⟩)]⟩ F120 ⟨.function, [("item", .local), ("sort", .local), ("text", .local), ("isinstance", .globalImplicit), ("Token", .globalImplicit)], false, false, []⟩
abbrev O119 (P : Params) : Obj := oF .none (D120 0 .none .none .none .none none .none .none 0)
abbrev O120 (P : Params) : Obj := oC #[(.str "is_token" 432), (.str "is_token" 433), (cf 434), (.int 69 0), (.int 3 0), z0, z0, (.int 3 0), (.ref 158), (.bool true), (.int 181 0), (.ref 159), .none, (.ref 160), (.ref 161), (.ref 162), (.int 438 0), (.int 69 0), (cf 439)]
abbrev O121 (P : Params) : Obj := oF (.type "function") (D120 3 (.ref 157) .none .none (.str "wasmcore.lexer" 307) none (.ref 163) .none 0)
def T6 : Params → BT := (nd boot_o_0 (nd boot_o_1 (nd O92 (nd boot_o_7 (nd O0 (nd O17 (nd O47 (lf O97) nl) (nd O0 (lf O1) nl)) (nd O33 (nd O59 (lf O107) nl) (lf O82))) (nd O12 (nd O24 (nd O0 (lf O0) nl) (lf O0)) (nd O38 (nd O0 (lf O1) nl) (lf O90)))) (nd O0 (nd O8 (nd O20 (nd O50 (lf O0) nl) (nd O76 (lf O120) nl)) (nd O35 (nd O0 (lf O111) nl) (lf O86))) (nd O15 (nd O12 (nd O55 (lf O103) nl) (lf O0)) (nd O42 (nd O69 (lf O116) nl) (lf O94))))) (nd boot_o_5 (nd boot_o_9 (nd O7 (nd O18 (nd O48 (lf O1) nl) (nd O72 (lf O0) nl)) (nd O0 (nd O12 (lf O109) nl) (lf O84))) (nd O0 (nd O26 (nd O53 (lf O102) nl) (lf O79)) (nd O40 (nd O67 (lf O0) nl) (lf O0)))) (nd O2 (nd O10 (nd O22 (nd O1 (lf O100) nl) (lf O12)) (nd O36 (nd O64 (lf O113) nl) (lf O88))) (nd O0 (nd O0 (nd O57 (lf O105) nl) (lf O81)) (nd O30 (nd O1 (lf O113) nl) (lf O95)))))) (nd O4 (nd boot_o_4 (nd boot_o_8 (nd O1 (nd O0 (nd O0 (lf O0) nl) (nd O71 (lf O118) nl)) (nd O34 (nd O30 (lf O108) nl) (lf O83))) (nd O13 (nd O25 (nd O52 (lf O1) nl) (lf O78)) (nd O39 (nd O66 (lf O114) nl) (lf O91)))) (nd O93 (nd O9 (nd O21 (nd O0 (lf O99) nl) (nd O0 (lf O121) nl)) (nd O0 (nd O1 (lf O112) nl) (lf O87))) (nd O16 (nd O31 (nd O56 (lf O104) nl) (lf O1)) (nd O43 (nd O0 (lf O117) nl) (lf O0))))) (nd boot_o_6 (nd boot_o_10 (nd O0 (nd O19 (nd O49 (lf O98) nl) (nd O73 (lf O119) nl)) (nd O1 (nd O63 (lf O110) nl) (lf O85))) (nd O14 (nd O30 (nd O54 (lf O0) nl) (lf O80)) (nd O41 (nd O68 (lf O115) nl) (lf O12)))) (nd O3 (nd O11 (nd O62 (nd O51 (lf O101) nl) (lf O77)) (nd O37 (nd O65 (lf O0) nl) (lf O89))) (nd O1 (nd O32 (nd O58 (lf O106) nl) (lf O0)) (nd O12 (nd O70 (lf O0) nl) (lf O96)))))))
def S6 (w : World) (os : OsState) : SharedT := ⟨T6 w.params, 165, ⟨[], [], [], 0, [], [], false, #[], [], 0, false, false, false, 0, [2000, 10, 10], false, 0, true, [], [], 0, false⟩, ⟨[]⟩, ⟨0, 0, 0, 0⟩, 442, os⟩
abbrev O122 (P : Params) : Obj := ⟨(.type "dict"), none, (.dict #[(de P "__name__" 165 (.str "wasmcore.lexer" 307)), (de P "__doc__" 166 .none), (de P "__package__" 167 .none), (de P "__loader__" 168 (.builtin "__main__.__loader__#opaque")), (de P "__spec__" 169 .none), (de P "__annotations__" 170 (.ref 6)), (de P "__builtins__" 171 (.ref 4)), (de P "__file__" 173 (cf 172)), (de P "__cached__" 174 .none), (de P "_wall" 193 (.ref 21)), (de P "WasmFault" 224 (.ref 38)), (de P "BadText" 252 (.ref 58)), (de P "LeftOut" 278 (.ref 77)), (de P "Misused" 294 (.ref 89)), (de P "utf8_of" 306 (.ref 98)), (de P "DIGITS" 310 (.str "0123456789" 309)), (de P "HEX_DIGITS" 312 (.str "0123456789abcdefABCDEF" 311)), (de P "SMALL_LETTERS" 314 (.str "abcdefghijklmnopqrstuvwxyz" 313)), (de P "GREAT_LETTERS" 316 (.str "ABCDEFGHIJKLMNOPQRSTUVWXYZ" 315)), (de P "ID_SIGNS" 321 (.str "0123456789abcdefghijklmnopqrstuvwxyzABCDEFGHIJKLMNOPQRSTUVWXYZ!#$%&'*+-./:<=>?@\\^_`|~" 320)), (de P "LONE_SIGNS" 323 (.str ",;[]{}" 322)), (de P "BLANKS" 325 (.str " \t\n\x0d" 324)), (de P "ESCAPES" 344 (.ref 99)), (de P "Token" 381 (.ref 116)), (de P "Branch" 422 (.ref 144)), (de P "is_branch" 430 (.ref 156)), (de P "is_branch_lexer" 431 (.ref 156)), (de P "is_token" 440 (.ref 164)), (de P "is_token_lexer" 441 (.ref 164)), (de P "Items" 569 (.ref 269))] 30), #[]⟩
abbrev O123 (P : Params) : Obj := ⟨.none, none, (.fields #[(.int 1 0), z0, (.ref 20), (.int 5 0), z0, (.ref 27), (.int 10 0), z0, (.ref 47), (.int 16 0), z0, (.ref 66), (.int 21 0), z0, (.ref 85), (.int 24 0), z0, (.ref 97), (.int 48 0), z0, (.ref 105), (.int 56 0), z0, (.ref 126), (.int 66 0), z0, (.ref 155), (.int 69 0), z0, (.ref 163), (.int 72 0), z0, (.ref 170)]), #[]⟩
abbrev O124 (P : Params) : Obj := ⟨(.type "dict"), none, (.dict #[(de P "__module__" 449 (.str "wasmcore.lexer" 307)), (de P "__qualname__" 451 (.str "Items" 450)), (de P "__firstlineno__" 453 (.int 72 452)), (de P "__init__" 463 (.ref 178)), (de P "is_done" 470 (.ref 185)), (de P "here" 477 (.ref 192)), (de P "is_branch" 485 (.ref 200)), (de P "is_token" 494 (.ref 208)), (de P "fail" 504 (.ref 216)), (de P "take" 511 (.ref 223)), (de P "take_token" 519 (.ref 230)), (de P "take_branch" 527 (.ref 238)), (de P "take_id" 534 (.ref 245)), (de P "take_word" 542 (.ref 252)), (de P "rest" 550 (.ref 259)), (de P "want_done" 557 (.ref 266)), (de P "__static_attributes__" 562 (.ref 267))] 17), #[]⟩
noncomputable abbrev O125 (P : Params) : Obj := ⟨.none, none, (.fields #[(.int 74 0), (.int 4 0), (.ref 177), (.int 80 0), (.int 4 0), (.ref 184), (.int 83 0), (.int 4 0), (.ref 191), (.int 86 0), (.int 4 0), (.ref 199), (.int 89 0), (.int 4 0), (.ref 207), (.int 92 0), (.int 4 0), (.ref 215), (.int 98 0), (.int 4 0), (.ref 222), (.int 104 0), (.int 4 0), (.ref 229), (.int 107 0), (.int 4 0), (.ref 237), (.int 110 0), (.int 4 0), (.ref 244), (.int 113 0), (.int 4 0), (.ref 251), (.int 116 0), (.int 4 0), (.ref 258), (.int 121 0), (.int 4 0), (.ref 265)]), #[]⟩
abbrev O126 (P : Params) : Obj := oC #[(.str "Items" 444), (.str "Items" 445), (cf 446), (.int 72 0), z0, z0, z0, z0, (.ref 168), (.bool false), (.int 181 0), (.ref 169), .none, .none, .none, .none, (.int 447 0), (.int 72 0), (cf 448)]
noncomputable abbrev O127 (P : Params) : Obj := ⟨(.type "frame"), none, .plain, #[(some (.ref 170)), (some (.ref 3)), (some (.ref 167)), none, (some (.str "wasmcore.lexer" 307)), none, (some (.ref 0))]⟩
abbrev O128 (P : Params) : Obj := oT #[(.str "self" 457), (.str "items" 458), (.str "row" 459), (.str "column" 460)]
abbrev F130 : FuncBody := fnM 23 0
abbrev D130 := fd "__init__" "Items.__init__" ⟨[], [⟨"self", none, ⟨74, 17, 74, 21⟩⟩, ⟨"items", none, ⟨74, 23, 74, 28⟩⟩, ⟨"row", none, ⟨74, 30, 74, 33⟩⟩, ⟨"column", none, ⟨74, 35, 74, 41⟩⟩], none, [], [], none, []⟩ F130 ⟨.function, [("self", .local), ("items", .local), ("row", .local), ("column", .local)], false, false, []⟩
abbrev O129 (P : Params) : Obj := oF .none (D130 0 .none .none .none .none none .none .none 0)
abbrev O130 (P : Params) : Obj := oC #[(.str "__init__" 454), (.str "Items.__init__" 455), (cf 456), (.int 74 0), (.int 4 0), z0, z0, (.int 3 0), (.ref 172), (.bool true), (.int 181 0), (.ref 173), .none, (.ref 174), (.ref 175), (.ref 176), (.int 461 0), (.int 74 0), (cf 462)]
abbrev O131 (P : Params) : Obj := oF (.type "function") (D130 3 .none .none .none (.str "wasmcore.lexer" 307) none (.ref 177) .none 0)
abbrev O132 (P : Params) : Obj := oT #[(.str "self" 467)]
abbrev F134 : FuncBody := fnM 23 1
abbrev D134 := fd "is_done" "Items.is_done" ⟨[], [⟨"self", none, ⟨80, 16, 80, 20⟩⟩], none, [], [], none, []⟩ F134 ⟨.function, [("self", .local), ("len", .globalImplicit)], false, false, []⟩
abbrev O133 (P : Params) : Obj := oF .none (D134 0 .none .none .none .none none .none .none 0)
abbrev O134 (P : Params) : Obj := oC #[(.str "is_done" 464), (.str "Items.is_done" 465), (cf 466), (.int 80 0), (.int 1 0), z0, z0, (.int 3 0), (.ref 179), (.bool true), (.int 181 0), (.ref 180), .none, (.ref 181), (.ref 182), (.ref 183), (.int 468 0), (.int 80 0), (cf 469)]
abbrev O135 (P : Params) : Obj := oF (.type "function") (D134 3 .none .none .none (.str "wasmcore.lexer" 307) none (.ref 184) .none 0)
abbrev O136 (P : Params) : Obj := oT #[(.str "self" 474)]
abbrev F138 : FuncBody := fnM 23 2
abbrev D138 := fd "here" "Items.here" ⟨[], [⟨"self", none, ⟨83, 13, 83, 17⟩⟩], none, [], [], none, []⟩ F138 ⟨.function, [("self", .local)], false, false, []⟩
abbrev O137 (P : Params) : Obj := oF .none (D138 0 .none .none .none .none none .none .none 0)
abbrev O138 (P : Params) : Obj := oC #[(.str "here" 471), (.str "Items.here" 472), (cf 473), (.int 83 0), (.int 1 0), z0, z0, (.int 3 0), (.ref 186), (.bool true), (.int 181 0), (.ref 187), .none, (.ref 188), (.ref 189), (.ref 190), (.int 475 0), (.int 83 0), (cf 476)]
abbrev O139 (P : Params) : Obj := oF (.type "function") (D138 3 .none .none .none (.str "wasmcore.lexer" 307) none (.ref 191) .none 0)
abbrev O140 (P : Params) : Obj := oT #[(.str "self" 481), (.str "head" 482)]
abbrev F142 : FuncBody := fnM 23 3
abbrev D142 := fd "is_branch" "Items.is_branch" ⟨[], [⟨"self", none, ⟨86, 18, 86, 22⟩⟩, ⟨"head", none, ⟨86, 24, 86, 28⟩⟩], none, [], [], none, [(.Constant .none 0 ⟨86, 29, 86, 33⟩)]⟩ F142 ⟨.function, [("self", .local), ("head", .local), ("is_branch_lexer", .globalImplicit)], false, false, []⟩
abbrev O141 (P : Params) : Obj := oF .none (D142 0 .none .none .none .none none .none .none 0)
abbrev O142 (P : Params) : Obj := oC #[(.str "is_branch" 478), (.str "Items.is_branch" 479), (cf 480), (.int 86 0), (.int 2 0), z0, z0, (.int 3 0), (.ref 194), (.bool true), (.int 181 0), (.ref 195), .none, (.ref 196), (.ref 197), (.ref 198), (.int 483 0), (.int 86 0), (cf 484)]
abbrev O143 (P : Params) : Obj := oF (.type "function") (D142 3 (.ref 193) .none .none (.str "wasmcore.lexer" 307) none (.ref 199) .none 0)
abbrev O144 (P : Params) : Obj := oT #[(.str "self" 489), (.str "sort" 490), (.str "text" 491)]
abbrev F146 : FuncBody := fnM 23 4
abbrev D146 := fd "is_token" "Items.is_token" ⟨[], [⟨"self", none, ⟨89, 17, 89, 21⟩⟩, ⟨"sort", none, ⟨89, 23, 89, 27⟩⟩, ⟨"text", none, ⟨89, 29, 89, 33⟩⟩], none, [], [], none, [(.Constant .none 0 ⟨89, 34, 89, 38⟩)]⟩ F146 ⟨.function, [("self", .local), ("sort", .local), ("text", .local), ("is_token_lexer", .globalImplicit)], false, false, []⟩
abbrev O145 (P : Params) : Obj := oF .none (D146 0 .none .none .none .none none .none .none 0)
abbrev O146 (P : Params) : Obj := oC #[(.str "is_token" 486), (.str "Items.is_token" 487), (cf 488), (.int 89 0), (.int 3 0), z0, z0, (.int 3 0), (.ref 202), (.bool true), (.int 181 0), (.ref 203), .none, (.ref 204), (.ref 205), (.ref 206), (.int 492 0), (.int 89 0), (cf 493)]
abbrev O147 (P : Params) : Obj := oF (.type "function") (D146 3 (.ref 201) .none .none (.str "wasmcore.lexer" 307) none (.ref 207) .none 0)
abbrev O148 (P : Params) : Obj := oT #[(.str "unexpected token" 495)]
abbrev O149 (P : Params) : Obj := oT #[(.str "self" 499), (.str "why" 500), (.str "item" 501)]
abbrev F151 : FuncBody := fnM 23 5
abbrev D151 := fd "fail" "Items.fail" ⟨[], [⟨"self", none, ⟨92, 13, 92, 17⟩⟩, ⟨"why", none, ⟨92, 19, 92, 22⟩⟩], none, [], [], none, [(.Constant (.str "unexpected token") 0 ⟨92, 23, 92, 41⟩)]⟩ F151 ⟨.function, [("self", .local), ("why", .local), ("item", .local), ("BadText", .globalImplicit)], false, false, []⟩
abbrev O150 (P : Params) : Obj := oF .none (D151 0 .none .none .none .none none .none .none 0)
abbrev O151 (P : Params) : Obj := oC #[(.str "fail" 496), (.str "Items.fail" 497), (cf 498), (.int 92 0), (.int 2 0), z0, z0, (.int 3 0), (.ref 210), (.bool true), (.int 181 0), (.ref 211), .none, (.ref 212), (.ref 213), (.ref 214), (.int 502 0), (.int 92 0), (cf 503)]
abbrev O152 (P : Params) : Obj := oF (.type "function") (D151 3 (.ref 209) .none .none (.str "wasmcore.lexer" 307) none (.ref 215) .none 0)
abbrev O153 (P : Params) : Obj := oT #[(.str "self" 508)]
abbrev F155 : FuncBody := fnM 23 6
abbrev D155 := fd "take" "Items.take" ⟨[], [⟨"self", none, ⟨98, 13, 98, 17⟩⟩], none, [], [], none, []⟩ F155 ⟨.function, [("self", .local)], false, false, []⟩
abbrev O154 (P : Params) : Obj := oF .none (D155 0 .none .none .none .none none .none .none 0)
abbrev O155 (P : Params) : Obj := oC #[(.str "take" 505), (.str "Items.take" 506), (cf 507), (.int 98 0), (.int 1 0), z0, z0, (.int 3 0), (.ref 217), (.bool true), (.int 181 0), (.ref 218), .none, (.ref 219), (.ref 220), (.ref 221), (.int 509 0), (.int 98 0), (cf 510)]
abbrev O156 (P : Params) : Obj := oF (.type "function") (D155 3 .none .none .none (.str "wasmcore.lexer" 307) none (.ref 222) .none 0)
abbrev O157 (P : Params) : Obj := oT #[(.str "self" 515), (.str "sort" 516)]
abbrev F159 : FuncBody := fnM 23 7
abbrev D159 := fd "take_token" "Items.take_token" ⟨[], [⟨"self", none, ⟨104, 19, 104, 23⟩⟩, ⟨"sort", none, ⟨104, 25, 104, 29⟩⟩], none, [], [], none, []⟩ F159 ⟨.function, [("self", .local), ("sort", .local), ("_wall", .globalImplicit)], false, false, []⟩
abbrev O158 (P : Params) : Obj := oF .none (D159 0 .none .none .none .none none .none .none 0)
abbrev O159 (P : Params) : Obj := oC #[(.str "take_token" 512), (.str "Items.take_token" 513), (cf 514), (.int 104 0), (.int 2 0), z0, z0, (.int 3 0), (.ref 224), (.bool true), (.int 181 0), (.ref 225), .none, (.ref 226), (.ref 227), (.ref 228), (.int 517 0), (.int 104 0), (cf 518)]
abbrev O160 (P : Params) : Obj := oF (.type "function") (D159 3 .none .none .none (.str "wasmcore.lexer" 307) none (.ref 229) .none 0)
abbrev O161 (P : Params) : Obj := oT #[(.str "self" 523), (.str "head" 524)]
abbrev F163 : FuncBody := fnM 23 8
abbrev D163 := fd "take_branch" "Items.take_branch" ⟨[], [⟨"self", none, ⟨107, 20, 107, 24⟩⟩, ⟨"head", none, ⟨107, 26, 107, 30⟩⟩], none, [], [], none, [(.Constant .none 0 ⟨107, 31, 107, 35⟩)]⟩ F163 ⟨.function, [("self", .local), ("head", .local), ("_wall", .globalImplicit)], false, false, []⟩
abbrev O162 (P : Params) : Obj := oF .none (D163 0 .none .none .none .none none .none .none 0)
abbrev O163 (P : Params) : Obj := oC #[(.str "take_branch" 520), (.str "Items.take_branch" 521), (cf 522), (.int 107 0), (.int 2 0), z0, z0, (.int 3 0), (.ref 232), (.bool true), (.int 181 0), (.ref 233), .none, (.ref 234), (.ref 235), (.ref 236), (.int 525 0), (.int 107 0), (cf 526)]
abbrev O164 (P : Params) : Obj := oF (.type "function") (D163 3 (.ref 231) .none .none (.str "wasmcore.lexer" 307) none (.ref 237) .none 0)
abbrev O165 (P : Params) : Obj := oT #[(.str "self" 531)]
abbrev F167 : FuncBody := fnM 23 9
abbrev D167 := fd "take_id" "Items.take_id" ⟨[], [⟨"self", none, ⟨110, 16, 110, 20⟩⟩], none, [], [], none, []⟩ F167 ⟨.function, [("self", .local)], false, false, []⟩
abbrev O166 (P : Params) : Obj := oF .none (D167 0 .none .none .none .none none .none .none 0)
abbrev O167 (P : Params) : Obj := oC #[(.str "take_id" 528), (.str "Items.take_id" 529), (cf 530), (.int 110 0), (.int 1 0), z0, z0, (.int 3 0), (.ref 239), (.bool true), (.int 181 0), (.ref 240), .none, (.ref 241), (.ref 242), (.ref 243), (.int 532 0), (.int 110 0), (cf 533)]
abbrev O168 (P : Params) : Obj := oF (.type "function") (D167 3 .none .none .none (.str "wasmcore.lexer" 307) none (.ref 244) .none 0)
abbrev O169 (P : Params) : Obj := oT #[(.str "self" 538), (.str "text" 539)]
abbrev F171 : FuncBody := fnM 23 10
abbrev D171 := fd "take_word" "Items.take_word" ⟨[], [⟨"self", none, ⟨113, 18, 113, 22⟩⟩, ⟨"text", none, ⟨113, 24, 113, 28⟩⟩], none, [], [], none, []⟩ F171 ⟨.function, [("self", .local), ("text", .local), ("_wall", .globalImplicit)], false, false, []⟩
abbrev O170 (P : Params) : Obj := oF .none (D171 0 .none .none .none .none none .none .none 0)
abbrev O171 (P : Params) : Obj := oC #[(.str "take_word" 535), (.str "Items.take_word" 536), (cf 537), (.int 113 0), (.int 2 0), z0, z0, (.int 3 0), (.ref 246), (.bool true), (.int 181 0), (.ref 247), .none, (.ref 248), (.ref 249), (.ref 250), (.int 540 0), (.int 113 0), (cf 541)]
abbrev O172 (P : Params) : Obj := oF (.type "function") (D171 3 .none .none .none (.str "wasmcore.lexer" 307) none (.ref 251) .none 0)
abbrev O173 (P : Params) : Obj := oT #[(.str "self" 546), (.str "found" 547)]
abbrev F175 : FuncBody := fnM 23 11
abbrev D175 := fd "rest" "Items.rest" ⟨[], [⟨"self", none, ⟨116, 13, 116, 17⟩⟩], none, [], [], none, []⟩ F175 ⟨.function, [("self", .local), ("found", .local), ("len", .globalImplicit)], false, false, []⟩
abbrev O174 (P : Params) : Obj := oF .none (D175 0 .none .none .none .none none .none .none 0)
abbrev O175 (P : Params) : Obj := oC #[(.str "rest" 543), (.str "Items.rest" 544), (cf 545), (.int 116 0), (.int 1 0), z0, z0, (.int 3 0), (.ref 253), (.bool true), (.int 181 0), (.ref 254), .none, (.ref 255), (.ref 256), (.ref 257), (.int 548 0), (.int 116 0), (cf 549)]
abbrev O176 (P : Params) : Obj := oF (.type "function") (D175 3 .none .none .none (.str "wasmcore.lexer" 307) none (.ref 258) .none 0)
abbrev O177 (P : Params) : Obj := oT #[(.str "self" 554)]
abbrev F179 : FuncBody := fnM 23 12
abbrev D179 := fd "want_done" "Items.want_done" ⟨[], [⟨"self", none, ⟨121, 18, 121, 22⟩⟩], none, [], [], none, []⟩ F179 ⟨.function, [("self", .local)], false, false, []⟩
abbrev O178 (P : Params) : Obj := oF .none (D179 0 .none .none .none .none none .none .none 0)
abbrev O179 (P : Params) : Obj := oC #[(.str "want_done" 551), (.str "Items.want_done" 552), (cf 553), (.int 121 0), (.int 1 0), z0, z0, (.int 3 0), (.ref 260), (.bool true), (.int 181 0), (.ref 261), .none, (.ref 262), (.ref 263), (.ref 264), (.int 555 0), (.int 121 0), (cf 556)]
abbrev O180 (P : Params) : Obj := oF (.type "function") (D179 3 .none .none .none (.str "wasmcore.lexer" 307) none (.ref 265) .none 0)
abbrev O181 (P : Params) : Obj := oT #[(.str "at" 558), (.str "column" 559), (.str "items" 560), (.str "row" 561)]
abbrev O182 (P : Params) : Obj := ⟨(.type "dict"), none, (.dict #[(de P "__module__" 449 (.str "wasmcore.lexer" 307)), (de P "__firstlineno__" 453 (.int 72 452)), (de P "__init__" 463 (.ref 178)), (de P "is_done" 470 (.ref 185)), (de P "here" 477 (.ref 192)), (de P "is_branch" 485 (.ref 200)), (de P "is_token" 494 (.ref 208)), (de P "fail" 504 (.ref 216)), (de P "take" 511 (.ref 223)), (de P "take_token" 519 (.ref 230)), (de P "take_branch" 527 (.ref 238)), (de P "take_id" 534 (.ref 245)), (de P "take_word" 542 (.ref 252)), (de P "rest" 550 (.ref 259)), (de P "want_done" 557 (.ref 266)), (de P "__static_attributes__" 562 (.ref 267)), (de P "__dict__" 564 (.ref 270)), (de P "__weakref__" 566 (.ref 271)), (de P "__doc__" 567 .none)] 4), #[]⟩
noncomputable abbrev O183 (P : Params) : Obj := ⟨(.type "type"), none, (.cls ⟨"Items", [(.type "object")], [(.ref 269), (.type "object")], 268, "Items", true, [], [], false, none, false⟩), #[none, none, (some (.str "Items" 442)), (some (.str "Items" 450)), (some (.builtin "object.__new__")), (some (.bool true))]⟩
noncomputable abbrev O184 (P : Params) : Obj := ⟨(.type "getset_descriptor"), none, (.fields #[(.str "__dict__" 563), (.ref 269), (.builtin "function.__dict__"), (.builtin "function.__dict__#set")]), #[]⟩
noncomputable abbrev O185 (P : Params) : Obj := ⟨(.type "getset_descriptor"), none, (.fields #[(.str "__weakref__" 565), (.ref 269), (.builtin "ExceptionGroup.__weakref__"), .none]), #[]⟩
noncomputable abbrev O186 (P : Params) : Obj := ⟨(.type "super"), none, (.fields #[(.ref 269), (.ref 269), (.ref 269)]), #[]⟩
noncomputable abbrev O187 (P : Params) : Obj := ⟨(.type "builtin_function_or_method"), none, (.fields #[(.builtin "object.__init_subclass__"), (.ref 269)]), #[]⟩
def T7 : Params → BT := (nd boot_o_0 (nd boot_o_1 (nd O122 (nd boot_o_7 (nd O0 (nd O17 (nd O47 (nd O97 (lf O173) nl) (lf O138)) (nd O0 (lf O1) (lf O156))) (nd O33 (nd O59 (nd O107 (lf O185) nl) (lf O146)) (nd O82 (lf O0) (lf O0)))) (nd O12 (nd O24 (nd O0 (nd O0 (lf O0) nl) (lf O142)) (nd O0 (lf O124) (lf O113))) (nd O38 (nd O0 (lf O1) (lf O151)) (nd O90 (lf O133) (lf O1))))) (nd O0 (nd O8 (nd O20 (nd O50 (nd O0 (lf O176) nl) (lf O1)) (nd O76 (lf O120) (lf O0))) (nd O35 (nd O0 (lf O111) (lf O1)) (nd O86 (lf O0) (lf O166)))) (nd O15 (nd O12 (nd O55 (nd O103 (lf O181) nl) (lf O1)) (nd O0 (lf O127) (lf O0))) (nd O42 (nd O69 (lf O116) (lf O153)) (nd O94 (lf O1) (lf O171)))))) (nd boot_o_5 (nd boot_o_9 (nd O7 (nd O18 (nd O48 (nd O1 (lf O174) nl) (lf O113)) (nd O72 (lf O0) (lf O1))) (nd O0 (nd O12 (nd O109 (lf O187) nl) (lf O148)) (nd O84 (lf O130) (lf O165)))) (nd O0 (nd O26 (nd O53 (nd O102 (lf O179) nl) (lf O113)) (nd O79 (lf O125) (lf O1))) (nd O40 (nd O67 (lf O0) (lf O0)) (nd O0 (lf O135) (lf O0))))) (nd O2 (nd O10 (nd O22 (nd O1 (nd O100 (lf O1) nl) (lf O0)) (nd O12 (lf O0) (lf O159))) (nd O36 (nd O64 (lf O113) (lf O0)) (nd O88 (lf O132) (lf O168)))) (nd O0 (nd O0 (nd O57 (nd O105 (lf O183) nl) (lf O0)) (nd O81 (lf O1) (lf O163))) (nd O30 (nd O1 (lf O113) (lf O154)) (nd O95 (lf O0) (lf O0))))))) (nd O4 (nd boot_o_4 (nd boot_o_8 (nd O1 (nd O0 (nd O0 (nd O0 (lf O0) nl) (lf O139)) (nd O71 (lf O118) (lf O0))) (nd O34 (nd O30 (nd O108 (lf O186) nl) (lf O147)) (nd O83 (lf O129) (lf O1)))) (nd O13 (nd O25 (nd O52 (nd O1 (lf O178) nl) (lf O143)) (nd O78 (lf O0) (lf O0))) (nd O39 (nd O66 (lf O114) (lf O152)) (nd O91 (lf O134) (lf O169))))) (nd O123 (nd O9 (nd O21 (nd O0 (nd O99 (lf O0) nl) (lf O140)) (nd O0 (lf O121) (lf O158))) (nd O0 (nd O1 (lf O112) (lf O149)) (nd O87 (lf O1) (lf O167)))) (nd O16 (nd O31 (nd O56 (nd O104 (lf O182) nl) (lf O144)) (nd O1 (lf O0) (lf O162))) (nd O43 (nd O0 (lf O117) (lf O0)) (nd O0 (lf O136) (lf O172)))))) (nd boot_o_6 (nd boot_o_10 (nd O0 (nd O19 (nd O49 (nd O98 (lf O175) nl) (lf O0)) (nd O73 (lf O119) (lf O157))) (nd O1 (nd O63 (lf O110) (lf O0)) (nd O85 (lf O131) (lf O0)))) (nd O14 (nd O30 (nd O54 (nd O0 (lf O180) nl) (lf O0)) (nd O80 (lf O126) (lf O161))) (nd O41 (nd O68 (lf O115) (lf O1)) (nd O12 (lf O0) (lf O170))))) (nd O3 (nd O11 (nd O62 (nd O51 (nd O101 (lf O177) nl) (lf O141)) (nd O77 (lf O12) (lf O160))) (nd O37 (nd O65 (lf O0) (lf O150)) (nd O89 (lf O0) (lf O0)))) (nd O1 (nd O32 (nd O58 (nd O106 (lf O184) nl) (lf O145)) (nd O0 (lf O128) (lf O164))) (nd O12 (nd O70 (lf O0) (lf O155)) (nd O96 (lf O137) (lf O1))))))))
def S7 (w : World) (os : OsState) : SharedT := ⟨T7 w.params, 274, ⟨[], [], [], 0, [], [], false, #[], [], 0, false, false, false, 0, [2000, 10, 10], false, 0, true, [], [], 0, false⟩, ⟨[]⟩, ⟨0, 0, 0, 0⟩, 570, os⟩
abbrev O188 (P : Params) : Obj := ⟨(.type "dict"), none, (.dict #[(de P "__name__" 165 (.str "wasmcore.lexer" 307)), (de P "__doc__" 166 .none), (de P "__package__" 167 .none), (de P "__loader__" 168 (.builtin "__main__.__loader__#opaque")), (de P "__spec__" 169 .none), (de P "__annotations__" 170 (.ref 6)), (de P "__builtins__" 171 (.ref 4)), (de P "__file__" 173 (cf 172)), (de P "__cached__" 174 .none), (de P "_wall" 193 (.ref 21)), (de P "WasmFault" 224 (.ref 38)), (de P "BadText" 252 (.ref 58)), (de P "LeftOut" 278 (.ref 77)), (de P "Misused" 294 (.ref 89)), (de P "utf8_of" 306 (.ref 98)), (de P "DIGITS" 310 (.str "0123456789" 309)), (de P "HEX_DIGITS" 312 (.str "0123456789abcdefABCDEF" 311)), (de P "SMALL_LETTERS" 314 (.str "abcdefghijklmnopqrstuvwxyz" 313)), (de P "GREAT_LETTERS" 316 (.str "ABCDEFGHIJKLMNOPQRSTUVWXYZ" 315)), (de P "ID_SIGNS" 321 (.str "0123456789abcdefghijklmnopqrstuvwxyzABCDEFGHIJKLMNOPQRSTUVWXYZ!#$%&'*+-./:<=>?@\\^_`|~" 320)), (de P "LONE_SIGNS" 323 (.str ",;[]{}" 322)), (de P "BLANKS" 325 (.str " \t\n\x0d" 324)), (de P "ESCAPES" 344 (.ref 99)), (de P "Token" 381 (.ref 116)), (de P "Branch" 422 (.ref 144)), (de P "is_branch" 430 (.ref 156)), (de P "is_branch_lexer" 431 (.ref 156)), (de P "is_token" 440 (.ref 164)), (de P "is_token_lexer" 441 (.ref 164)), (de P "Items" 569 (.ref 269)), (de P "walk_of" 576 (.ref 280)), (de P "whole_of" 588 (.ref 287)), (de P "number_in" 597 (.ref 294)), (de P "sorted_word" 605 (.ref 301))] 34), #[]⟩
abbrev O189 (P : Params) : Obj := ⟨.none, none, (.fields #[(.int 1 0), z0, (.ref 20), (.int 5 0), z0, (.ref 27), (.int 10 0), z0, (.ref 47), (.int 16 0), z0, (.ref 66), (.int 21 0), z0, (.ref 85), (.int 24 0), z0, (.ref 97), (.int 48 0), z0, (.ref 105), (.int 56 0), z0, (.ref 126), (.int 66 0), z0, (.ref 155), (.int 69 0), z0, (.ref 163), (.int 72 0), z0, (.ref 170), (.int 124 0), z0, (.ref 279), (.int 126 0), z0, (.ref 286), (.int 139 0), z0, (.ref 293), (.int 143 0), z0, (.ref 300)]), #[]⟩
abbrev O190 (P : Params) : Obj := oT #[(.str "branch" 573)]
abbrev F192 : FuncBody := fnB 24
abbrev D192 := fd "walk_of" "walk_of" ⟨[], [⟨"branch", none, ⟨124, 12, 124, 18⟩⟩], none, [], [], none, []⟩ F192 ⟨.function, [("branch", .local), ("Items", .globalImplicit)], false, false, []⟩
abbrev O191 (P : Params) : Obj := oF .none (D192 0 .none .none .none .none none .none .none 0)
abbrev O192 (P : Params) : Obj := oC #[(.str "walk_of" 570), (.str "walk_of" 571), (cf 572), (.int 124 0), (.int 1 0), z0, z0, (.int 3 0), (.ref 274), (.bool true), (.int 181 0), (.ref 275), .none, (.ref 276), (.ref 277), (.ref 278), (.int 574 0), (.int 124 0), (cf 575)]
abbrev O193 (P : Params) : Obj := oF (.type "function") (D192 3 .none .none .none (.str "wasmcore.lexer" 307) none (.ref 279) .none 0)
abbrev O194 (P : Params) : Obj := oT #[(.str "text" 580), (.str "base" 581), (.str "digits" 582), (.str "found" 583), (.str "was_digit" 584), (.str "sign" 585)]
abbrev F196 : FuncBody := fnB 25
abbrev D196 := fd "whole_of" "whole_of" ⟨[], [⟨"text", none, ⟨126, 13, 126, 17⟩⟩, ⟨"base", none, ⟨126, 19, 126, 23⟩⟩], none, [], [], none, []⟩ F196 ⟨.function, [("text", .local), ("base", .local), ("digits", .local), ("found", .local), ("was_digit", .local), ("sign", .local), ("HEX_DIGITS", .globalImplicit), ("DIGITS", .globalImplicit)], false, false, []⟩
abbrev O195 (P : Params) : Obj := oF .none (D196 0 .none .none .none .none none .none .none 0)
abbrev O196 (P : Params) : Obj := oC #[(.str "whole_of" 577), (.str "whole_of" 578), (cf 579), (.int 126 0), (.int 2 0), z0, z0, (.int 3 0), (.ref 281), (.bool true), (.int 181 0), (.ref 282), .none, (.ref 283), (.ref 284), (.ref 285), (.int 586 0), (.int 126 0), (cf 587)]
abbrev O197 (P : Params) : Obj := oF (.type "function") (D196 3 .none .none .none (.str "wasmcore.lexer" 307) none (.ref 286) .none 0)
abbrev O198 (P : Params) : Obj := oT #[(.str "text" 592), (.str "body" 593), (.str "found" 594)]
abbrev F200 : FuncBody := fnB 26
abbrev D200 := fd "number_in" "number_in" ⟨[], [⟨"text", none, ⟨139, 14, 139, 18⟩⟩], none, [], [], none, []⟩ F200 ⟨.function, [("text", .local), ("body", .local), ("found", .local), ("whole_of", .globalImplicit)], false, false, []⟩
abbrev O199 (P : Params) : Obj := oF .none (D200 0 .none .none .none .none none .none .none 0)
abbrev O200 (P : Params) : Obj := oC #[(.str "number_in" 589), (.str "number_in" 590), (cf 591), (.int 139 0), (.int 1 0), z0, z0, (.int 3 0), (.ref 288), (.bool true), (.int 181 0), (.ref 289), .none, (.ref 290), (.ref 291), (.ref 292), (.int 595 0), (.int 139 0), (cf 596)]
abbrev O201 (P : Params) : Obj := oF (.type "function") (D200 3 .none .none .none (.str "wasmcore.lexer" 307) none (.ref 293) .none 0)
abbrev O202 (P : Params) : Obj := oT #[(.str "text" 601), (.str "number" 602)]
abbrev F204 : FuncBody := fnB 27
abbrev D204 := fd "sorted_word" "sorted_word" ⟨[], [⟨"text", none, ⟨143, 16, 143, 20⟩⟩], none, [], [], none, []⟩ F204 ⟨.function, [("text", .local), ("number", .local), ("number_in", .globalImplicit), ("len", .globalImplicit), ("SMALL_LETTERS", .globalImplicit)], false, false, []⟩
abbrev O203 (P : Params) : Obj := oF .none (D204 0 .none .none .none .none none .none .none 0)
abbrev O204 (P : Params) : Obj := oC #[(.str "sorted_word" 598), (.str "sorted_word" 599), (cf 600), (.int 143 0), (.int 1 0), z0, z0, (.int 3 0), (.ref 295), (.bool true), (.int 181 0), (.ref 296), .none, (.ref 297), (.ref 298), (.ref 299), (.int 603 0), (.int 143 0), (cf 604)]
abbrev O205 (P : Params) : Obj := oF (.type "function") (D204 3 .none .none .none (.str "wasmcore.lexer" 307) none (.ref 300) .none 0)
def T8 : Params → BT := (nd boot_o_0 (nd boot_o_1 (nd O188 (nd boot_o_7 (nd O0 (nd O17 (nd O47 (nd O97 (lf O173) nl) (lf O138)) (nd O0 (nd O1 (lf O197) nl) (lf O156))) (nd O33 (nd O59 (nd O107 (lf O185) nl) (lf O146)) (nd O82 (lf O0) (lf O0)))) (nd O12 (nd O24 (nd O0 (nd O0 (lf O0) nl) (lf O142)) (nd O0 (nd O124 (lf O0) nl) (lf O113))) (nd O38 (nd O0 (nd O1 (lf O192) nl) (lf O151)) (nd O90 (lf O133) (lf O1))))) (nd O0 (nd O8 (nd O20 (nd O50 (nd O0 (lf O176) nl) (lf O1)) (nd O76 (nd O120 (lf O0) nl) (lf O0))) (nd O35 (nd O0 (nd O111 (lf O1) nl) (lf O1)) (nd O86 (lf O0) (lf O166)))) (nd O15 (nd O12 (nd O55 (nd O103 (lf O181) nl) (lf O1)) (nd O0 (nd O127 (lf O203) nl) (lf O0))) (nd O42 (nd O69 (nd O116 (lf O194) nl) (lf O153)) (nd O94 (lf O1) (lf O171)))))) (nd boot_o_5 (nd boot_o_9 (nd O7 (nd O18 (nd O48 (nd O1 (lf O174) nl) (lf O113)) (nd O72 (nd O0 (lf O1) nl) (lf O1))) (nd O0 (nd O12 (nd O109 (lf O187) nl) (lf O148)) (nd O84 (lf O130) (lf O165)))) (nd O0 (nd O26 (nd O53 (nd O102 (lf O179) nl) (lf O113)) (nd O79 (nd O125 (lf O202) nl) (lf O1))) (nd O40 (nd O67 (nd O0 (lf O0) nl) (lf O0)) (nd O0 (lf O135) (lf O0))))) (nd O2 (nd O10 (nd O22 (nd O1 (nd O100 (lf O1) nl) (lf O0)) (nd O12 (nd O0 (lf O200) nl) (lf O159))) (nd O36 (nd O64 (nd O113 (lf O0) nl) (lf O0)) (nd O88 (lf O132) (lf O168)))) (nd O0 (nd O0 (nd O57 (nd O105 (lf O183) nl) (lf O0)) (nd O81 (nd O1 (lf O205) nl) (lf O163))) (nd O30 (nd O1 (nd O113 (lf O195) nl) (lf O154)) (nd O95 (lf O0) (lf O0))))))) (nd O4 (nd boot_o_4 (nd boot_o_8 (nd O1 (nd O0 (nd O0 (nd O0 (lf O0) nl) (lf O139)) (nd O71 (nd O118 (lf O0) nl) (lf O0))) (nd O34 (nd O30 (nd O108 (lf O186) nl) (lf O147)) (nd O83 (lf O129) (lf O1)))) (nd O13 (nd O25 (nd O52 (nd O1 (lf O178) nl) (lf O143)) (nd O78 (nd O0 (lf O1) nl) (lf O0))) (nd O39 (nd O66 (nd O114 (lf O193) nl) (lf O152)) (nd O91 (lf O134) (lf O169))))) (nd O189 (nd O9 (nd O21 (nd O0 (nd O99 (lf O0) nl) (lf O140)) (nd O0 (nd O121 (lf O199) nl) (lf O158))) (nd O0 (nd O1 (nd O112 (lf O190) nl) (lf O149)) (nd O87 (lf O1) (lf O167)))) (nd O16 (nd O31 (nd O56 (nd O104 (lf O182) nl) (lf O144)) (nd O1 (nd O0 (lf O204) nl) (lf O162))) (nd O43 (nd O0 (nd O117 (lf O0) nl) (lf O0)) (nd O0 (lf O136) (lf O172)))))) (nd boot_o_6 (nd boot_o_10 (nd O0 (nd O19 (nd O49 (nd O98 (lf O175) nl) (lf O0)) (nd O73 (nd O119 (lf O198) nl) (lf O157))) (nd O1 (nd O63 (nd O110 (lf O0) nl) (lf O0)) (nd O85 (lf O131) (lf O0)))) (nd O14 (nd O30 (nd O54 (nd O0 (lf O180) nl) (lf O0)) (nd O80 (nd O126 (lf O0) nl) (lf O161))) (nd O41 (nd O68 (nd O115 (lf O1) nl) (lf O1)) (nd O12 (lf O0) (lf O170))))) (nd O3 (nd O11 (nd O62 (nd O51 (nd O101 (lf O177) nl) (lf O141)) (nd O77 (nd O12 (lf O201) nl) (lf O160))) (nd O37 (nd O65 (nd O0 (lf O191) nl) (lf O150)) (nd O89 (lf O0) (lf O0)))) (nd O1 (nd O32 (nd O58 (nd O106 (lf O184) nl) (lf O145)) (nd O0 (lf O128) (lf O164))) (nd O12 (nd O70 (nd O0 (lf O196) nl) (lf O155)) (nd O96 (lf O137) (lf O1))))))))
def S8 (w : World) (os : OsState) : SharedT := ⟨T8 w.params, 302, ⟨[], [], [], 0, [], [], false, #[], [], 0, false, false, false, 0, [2000, 10, 10], false, 0, true, [], [], 0, false⟩, ⟨[]⟩, ⟨0, 0, 0, 0⟩, 606, os⟩
abbrev O206 (P : Params) : Obj := ⟨(.type "dict"), none, (.dict #[(de P "__name__" 165 (.str "wasmcore.lexer" 307)), (de P "__doc__" 166 .none), (de P "__package__" 167 .none), (de P "__loader__" 168 (.builtin "__main__.__loader__#opaque")), (de P "__spec__" 169 .none), (de P "__annotations__" 170 (.ref 6)), (de P "__builtins__" 171 (.ref 4)), (de P "__file__" 173 (cf 172)), (de P "__cached__" 174 .none), (de P "_wall" 193 (.ref 21)), (de P "WasmFault" 224 (.ref 38)), (de P "BadText" 252 (.ref 58)), (de P "LeftOut" 278 (.ref 77)), (de P "Misused" 294 (.ref 89)), (de P "utf8_of" 306 (.ref 98)), (de P "DIGITS" 310 (.str "0123456789" 309)), (de P "HEX_DIGITS" 312 (.str "0123456789abcdefABCDEF" 311)), (de P "SMALL_LETTERS" 314 (.str "abcdefghijklmnopqrstuvwxyz" 313)), (de P "GREAT_LETTERS" 316 (.str "ABCDEFGHIJKLMNOPQRSTUVWXYZ" 315)), (de P "ID_SIGNS" 321 (.str "0123456789abcdefghijklmnopqrstuvwxyzABCDEFGHIJKLMNOPQRSTUVWXYZ!#$%&'*+-./:<=>?@\\^_`|~" 320)), (de P "LONE_SIGNS" 323 (.str ",;[]{}" 322)), (de P "BLANKS" 325 (.str " \t\n\x0d" 324)), (de P "ESCAPES" 344 (.ref 99)), (de P "Token" 381 (.ref 116)), (de P "Branch" 422 (.ref 144)), (de P "is_branch" 430 (.ref 156)), (de P "is_branch_lexer" 431 (.ref 156)), (de P "is_token" 440 (.ref 164)), (de P "is_token_lexer" 441 (.ref 164)), (de P "Items" 569 (.ref 269)), (de P "walk_of" 576 (.ref 280)), (de P "whole_of" 588 (.ref 287)), (de P "number_in" 597 (.ref 294)), (de P "sorted_word" 605 (.ref 301)), (de P "Lexer" 742 (.ref 396))] 35), #[]⟩
abbrev O207 (P : Params) : Obj := ⟨.none, none, (.fields #[(.int 1 0), z0, (.ref 20), (.int 5 0), z0, (.ref 27), (.int 10 0), z0, (.ref 47), (.int 16 0), z0, (.ref 66), (.int 21 0), z0, (.ref 85), (.int 24 0), z0, (.ref 97), (.int 48 0), z0, (.ref 105), (.int 56 0), z0, (.ref 126), (.int 66 0), z0, (.ref 155), (.int 69 0), z0, (.ref 163), (.int 72 0), z0, (.ref 170), (.int 124 0), z0, (.ref 279), (.int 126 0), z0, (.ref 286), (.int 139 0), z0, (.ref 293), (.int 143 0), z0, (.ref 300), (.int 152 0), z0, (.ref 307)]), #[]⟩
abbrev O208 (P : Params) : Obj := ⟨(.type "dict"), none, (.dict #[(de P "__module__" 613 (.str "wasmcore.lexer" 307)), (de P "__qualname__" 615 (.str "Lexer" 614)), (de P "__firstlineno__" 617 (.int 152 616)), (de P "__init__" 625 (.ref 315)), (de P "here" 632 (.ref 322)), (de P "starts" 640 (.ref 329)), (de P "fail" 648 (.ref 336)), (de P "step" 659 (.ref 344)), (de P "pass_row" 666 (.ref 351)), (de P "pass_block" 676 (.ref 358)), (de P "code_point" 685 (.ref 365)), (de P "escape" 694 (.ref 372)), (de P "string" 705 (.ref 379)), (de P "run" 721 (.ref 386)), (de P "whole" 729 (.ref 393)), (de P "__static_attributes__" 735 (.ref 394))] 16), #[]⟩
noncomputable abbrev O209 (P : Params) : Obj := ⟨.none, none, (.fields #[(.int 154 0), (.int 4 0), (.ref 314), (.int 161 0), (.int 4 0), (.ref 321), (.int 164 0), (.int 4 0), (.ref 328), (.int 167 0), (.int 4 0), (.ref 335), (.int 170 0), (.int 4 0), (.ref 343), (.int 180 0), (.int 4 0), (.ref 350), (.int 184 0), (.int 4 0), (.ref 357), (.int 199 0), (.int 4 0), (.ref 364), (.int 215 0), (.int 4 0), (.ref 371), (.int 229 0), (.int 4 0), (.ref 378), (.int 248 0), (.int 4 0), (.ref 385), (.int 265 0), (.int 4 0), (.ref 392)]), #[]⟩
abbrev O210 (P : Params) : Obj := oC #[(.str "Lexer" 608), (.str "Lexer" 609), (cf 610), (.int 152 0), z0, z0, z0, z0, (.ref 305), (.bool false), (.int 181 0), (.ref 306), .none, .none, .none, .none, (.int 611 0), (.int 152 0), (cf 612)]
noncomputable abbrev O211 (P : Params) : Obj := ⟨(.type "frame"), none, .plain, #[(some (.ref 307)), (some (.ref 3)), (some (.ref 304)), none, (some (.str "wasmcore.lexer" 307)), none, (some (.ref 0))]⟩
abbrev O212 (P : Params) : Obj := oT #[(.str "self" 621), (.str "text" 622)]
abbrev F214 : FuncBody := fnM 28 0
abbrev D214 := fd "__init__" "Lexer.__init__" ⟨[], [⟨"self", none, ⟨154, 17, 154, 21⟩⟩, ⟨"text", none, ⟨154, 23, 154, 27⟩⟩], none, [], [], none, []⟩ F214 ⟨.function, [("self", .local), ("text", .local)], false, false, []⟩
abbrev O213 (P : Params) : Obj := oF .none (D214 0 .none .none .none .none none .none .none 0)
abbrev O214 (P : Params) : Obj := oC #[(.str "__init__" 618), (.str "Lexer.__init__" 619), (cf 620), (.int 154 0), (.int 2 0), z0, z0, (.int 3 0), (.ref 309), (.bool true), (.int 181 0), (.ref 310), .none, (.ref 311), (.ref 312), (.ref 313), (.int 623 0), (.int 154 0), (cf 624)]
abbrev O215 (P : Params) : Obj := oF (.type "function") (D214 3 .none .none .none (.str "wasmcore.lexer" 307) none (.ref 314) .none 0)
abbrev O216 (P : Params) : Obj := oT #[(.str "self" 629)]
abbrev F218 : FuncBody := fnM 28 1
abbrev D218 := fd "here" "Lexer.here" ⟨[], [⟨"self", none, ⟨161, 13, 161, 17⟩⟩], none, [], [], none, []⟩ F218 ⟨.function, [("self", .local)], false, false, []⟩
abbrev O217 (P : Params) : Obj := oF .none (D218 0 .none .none .none .none none .none .none 0)
abbrev O218 (P : Params) : Obj := oC #[(.str "here" 626), (.str "Lexer.here" 627), (cf 628), (.int 161 0), (.int 1 0), z0, z0, (.int 3 0), (.ref 316), (.bool true), (.int 181 0), (.ref 317), .none, (.ref 318), (.ref 319), (.ref 320), (.int 630 0), (.int 161 0), (cf 631)]
abbrev O219 (P : Params) : Obj := oF (.type "function") (D218 3 .none .none .none (.str "wasmcore.lexer" 307) none (.ref 321) .none 0)
abbrev O220 (P : Params) : Obj := oT #[(.str "self" 636), (.str "word" 637)]
abbrev F222 : FuncBody := fnM 28 2
abbrev D222 := fd "starts" "Lexer.starts" ⟨[], [⟨"self", none, ⟨164, 15, 164, 19⟩⟩, ⟨"word", none, ⟨164, 21, 164, 25⟩⟩], none, [], [], none, []⟩ F222 ⟨.function, [("self", .local), ("word", .local), ("len", .globalImplicit)], false, false, []⟩
abbrev O221 (P : Params) : Obj := oF .none (D222 0 .none .none .none .none none .none .none 0)
abbrev O222 (P : Params) : Obj := oC #[(.str "starts" 633), (.str "Lexer.starts" 634), (cf 635), (.int 164 0), (.int 2 0), z0, z0, (.int 3 0), (.ref 323), (.bool true), (.int 181 0), (.ref 324), .none, (.ref 325), (.ref 326), (.ref 327), (.int 638 0), (.int 164 0), (cf 639)]
abbrev O223 (P : Params) : Obj := oF (.type "function") (D222 3 .none .none .none (.str "wasmcore.lexer" 307) none (.ref 328) .none 0)
abbrev O224 (P : Params) : Obj := oT #[(.str "self" 644), (.str "why" 645)]
abbrev F226 : FuncBody := fnM 28 3
abbrev D226 := fd "fail" "Lexer.fail" ⟨[], [⟨"self", none, ⟨167, 13, 167, 17⟩⟩, ⟨"why", none, ⟨167, 19, 167, 22⟩⟩], none, [], [], none, []⟩ F226 ⟨.function, [("self", .local), ("why", .local), ("BadText", .globalImplicit)], false, false, []⟩
abbrev O225 (P : Params) : Obj := oF .none (D226 0 .none .none .none .none none .none .none 0)
abbrev O226 (P : Params) : Obj := oC #[(.str "fail" 641), (.str "Lexer.fail" 642), (cf 643), (.int 167 0), (.int 2 0), z0, z0, (.int 3 0), (.ref 330), (.bool true), (.int 181 0), (.ref 331), .none, (.ref 332), (.ref 333), (.ref 334), (.int 646 0), (.int 167 0), (cf 647)]
abbrev O227 (P : Params) : Obj := oF (.type "function") (D226 3 .none .none .none (.str "wasmcore.lexer" 307) none (.ref 335) .none 0)
abbrev O228 (P : Params) : Obj := oT #[(.int 1 649)]
abbrev O229 (P : Params) : Obj := oT #[(.str "self" 653), (.str "many" 654), (.str "turn" 655), (.str "sign" 656)]
abbrev F231 : FuncBody := fnM 28 4
abbrev D231 := fd "step" "Lexer.step" ⟨[], [⟨"self", none, ⟨170, 13, 170, 17⟩⟩, ⟨"many", none, ⟨170, 19, 170, 23⟩⟩], none, [], [], none, [(.Constant (.int 1) 0 ⟨170, 24, 170, 25⟩)]⟩ F231 ⟨.function, [("self", .local), ("many", .local), ("turn", .local), ("sign", .local), ("range", .globalImplicit)], false, false, []⟩
abbrev O230 (P : Params) : Obj := oF .none (D231 0 .none .none .none .none none .none .none 0)
abbrev O231 (P : Params) : Obj := oC #[(.str "step" 650), (.str "Lexer.step" 651), (cf 652), (.int 170 0), (.int 2 0), z0, z0, (.int 3 0), (.ref 338), (.bool true), (.int 181 0), (.ref 339), .none, (.ref 340), (.ref 341), (.ref 342), (.int 657 0), (.int 170 0), (cf 658)]
abbrev O232 (P : Params) : Obj := oF (.type "function") (D231 3 (.ref 337) .none .none (.str "wasmcore.lexer" 307) none (.ref 343) .none 0)
abbrev O233 (P : Params) : Obj := oT #[(.str "self" 663)]
abbrev F235 : FuncBody := fnM 28 5
abbrev D235 := fd "pass_row" "Lexer.pass_row" ⟨[], [⟨"self", none, ⟨180, 17, 180, 21⟩⟩], none, [], [], none, []⟩ F235 ⟨.function, [("self", .local), ("len", .globalImplicit)], false, false, []⟩
abbrev O234 (P : Params) : Obj := oF .none (D235 0 .none .none .none .none none .none .none 0)
abbrev O235 (P : Params) : Obj := oC #[(.str "pass_row" 660), (.str "Lexer.pass_row" 661), (cf 662), (.int 180 0), (.int 1 0), z0, z0, (.int 3 0), (.ref 345), (.bool true), (.int 181 0), (.ref 346), .none, (.ref 347), (.ref 348), (.ref 349), (.int 664 0), (.int 180 0), (cf 665)]
abbrev O236 (P : Params) : Obj := oF (.type "function") (D235 3 .none .none .none (.str "wasmcore.lexer" 307) none (.ref 350) .none 0)
abbrev O237 (P : Params) : Obj := oT #[(.str "self" 670), (.str "row" 671), (.str "column" 672), (.str "depth" 673)]
abbrev F239 : FuncBody := fnM 28 6
abbrev D239 := fd "pass_block" "Lexer.pass_block" ⟨[], [⟨"self", none, ⟨184, 19, 184, 23⟩⟩], none, [], [], none, []⟩ F239 ⟨.function, [("self", .local), ("row", .local), ("column", .local), ("depth", .local), ("len", .globalImplicit), ("BadText", .globalImplicit)], false, false, []⟩
abbrev O238 (P : Params) : Obj := oF .none (D239 0 .none .none .none .none none .none .none 0)
abbrev O239 (P : Params) : Obj := oC #[(.str "pass_block" 667), (.str "Lexer.pass_block" 668), (cf 669), (.int 184 0), (.int 1 0), z0, z0, (.int 3 0), (.ref 352), (.bool true), (.int 181 0), (.ref 353), .none, (.ref 354), (.ref 355), (.ref 356), (.int 674 0), (.int 184 0), (cf 675)]
abbrev O240 (P : Params) : Obj := oF (.type "function") (D239 3 .none .none .none (.str "wasmcore.lexer" 307) none (.ref 357) .none 0)
abbrev O241 (P : Params) : Obj := oT #[(.str "self" 680), (.str "begin" 681), (.str "number" 682)]
abbrev F243 : FuncBody := fnM 28 7
abbrev D243 := fd "code_point" "Lexer.code_point" ⟨[], [⟨"self", none, ⟨199, 19, 199, 23⟩⟩], none, [], [], none, []⟩ F243 ⟨.function, [("self", .local), ("begin", .local), ("number", .local), ("HEX_DIGITS", .globalImplicit), ("whole_of", .globalImplicit), ("utf8_of", .globalImplicit), ("chr", .globalImplicit)], false, false, []⟩
abbrev O242 (P : Params) : Obj := oF .none (D243 0 .none .none .none .none none .none .none 0)
abbrev O243 (P : Params) : Obj := oC #[(.str "code_point" 677), (.str "Lexer.code_point" 678), (cf 679), (.int 199 0), (.int 1 0), z0, z0, (.int 3 0), (.ref 359), (.bool true), (.int 181 0), (.ref 360), .none, (.ref 361), (.ref 362), (.ref 363), (.int 683 0), (.int 199 0), (cf 684)]
abbrev O244 (P : Params) : Obj := oF (.type "function") (D243 3 .none .none .none (.str "wasmcore.lexer" 307) none (.ref 364) .none 0)
abbrev O245 (P : Params) : Obj := oT #[(.str "self" 689), (.str "sign" 690), (.str "both" 691)]
abbrev F247 : FuncBody := fnM 28 8
abbrev D247 := fd "escape" "Lexer.escape" ⟨[], [⟨"self", none, ⟨215, 15, 215, 19⟩⟩], none, [], [], none, []⟩ F247 ⟨.function, [("self", .local), ("sign", .local), ("both", .local), ("ESCAPES", .globalImplicit), ("bytes", .globalImplicit), ("len", .globalImplicit), ("HEX_DIGITS", .globalImplicit), ("whole_of", .globalImplicit)], false, false, []⟩
abbrev O246 (P : Params) : Obj := oF .none (D247 0 .none .none .none .none none .none .none 0)
abbrev O247 (P : Params) : Obj := oC #[(.str "escape" 686), (.str "Lexer.escape" 687), (cf 688), (.int 215 0), (.int 1 0), z0, z0, (.int 3 0), (.ref 366), (.bool true), (.int 181 0), (.ref 367), .none, (.ref 368), (.ref 369), (.ref 370), (.int 692 0), (.int 215 0), (cf 693)]
abbrev O248 (P : Params) : Obj := oF (.type "function") (D247 3 .none .none .none (.str "wasmcore.lexer" 307) none (.ref 371) .none 0)
abbrev O249 (P : Params) : Obj := oT #[(.str "self" 698), (.str "row" 699), (.str "column" 700), (.str "found" 701), (.str "sign" 702)]
abbrev F251 : FuncBody := fnM 28 9
abbrev D251 := fd "string" "Lexer.string" ⟨[], [⟨"self", none, ⟨229, 15, 229, 19⟩⟩], none, [], [], none, []⟩ F251 ⟨.function, [("self", .local), ("row", .local), ("column", .local), ("found", .local), ("sign", .local), ("bytearray", .globalImplicit), ("BadText", .globalImplicit), ("ord", .globalImplicit), ("utf8_of", .globalImplicit), ("bytes", .globalImplicit)], false, false, []⟩
abbrev O250 (P : Params) : Obj := oF .none (D251 0 .none .none .none .none none .none .none 0)
abbrev O251 (P : Params) : Obj := oC #[(.str "string" 695), (.str "Lexer.string" 696), (cf 697), (.int 229 0), (.int 1 0), z0, z0, (.int 3 0), (.ref 373), (.bool true), (.int 181 0), (.ref 374), .none, (.ref 375), (.ref 376), (.ref 377), (.int 703 0), (.int 229 0), (cf 704)]
abbrev O252 (P : Params) : Obj := oF (.type "function") (D251 3 .none .none .none (.str "wasmcore.lexer" 307) none (.ref 378) .none 0)
abbrev O253 (P : Params) : Obj := oT #[(.str "self" 709), (.str "begin" 710), (.str "row" 711), (.str "column" 712), (.str "octets" 713), (.str "strings" 714), (.str "is_string" 715), (.str "text" 716), (.str "sort" 717), (.str "value" 718)]
abbrev F255 : FuncBody := fnM 28 10
abbrev D255 := fd "run" "Lexer.run" ⟨[], [⟨"self", none, ⟨248, 12, 248, 16⟩⟩], none, [], [], none, []⟩ F255 ⟨.function, [("self", .local), ("begin", .local), ("row", .local), ("column", .local), ("octets", .local), ("strings", .local), ("is_string", .local), ("text", .local), ("sort", .local), ("value", .local), ("ID_SIGNS", .globalImplicit), ("sorted_word", .globalImplicit), ("Token", .globalImplicit)], false, false, []⟩
abbrev O254 (P : Params) : Obj := oF .none (D255 0 .none .none .none .none none .none .none 0)
abbrev O255 (P : Params) : Obj := oC #[(.str "run" 706), (.str "Lexer.run" 707), (cf 708), (.int 248 0), (.int 1 0), z0, z0, (.int 3 0), (.ref 380), (.bool true), (.int 181 0), (.ref 381), .none, (.ref 382), (.ref 383), (.ref 384), (.int 719 0), (.int 248 0), (cf 720)]
abbrev O256 (P : Params) : Obj := oF (.type "function") (D255 3 .none .none .none (.str "wasmcore.lexer" 307) none (.ref 385) .none 0)
abbrev O257 (P : Params) : Obj := oT #[(.str "self" 725), (.str "sign" 726)]
abbrev F259 : FuncBody := fnM 28 11
abbrev D259 := fd "whole" "Lexer.whole" ⟨[], [⟨"self", none, ⟨265, 14, 265, 18⟩⟩], none, [], [], none, []⟩ F259 ⟨.function, [("self", .local), ("sign", .local), ("len", .globalImplicit), ("BLANKS", .globalImplicit), ("Token", .globalImplicit), ("LONE_SIGNS", .globalImplicit), ("ID_SIGNS", .globalImplicit)], false, false, []⟩
abbrev O258 (P : Params) : Obj := oF .none (D259 0 .none .none .none .none none .none .none 0)
abbrev O259 (P : Params) : Obj := oC #[(.str "whole" 722), (.str "Lexer.whole" 723), (cf 724), (.int 265 0), (.int 1 0), z0, z0, (.int 3 0), (.ref 387), (.bool true), (.int 181 0), (.ref 388), .none, (.ref 389), (.ref 390), (.ref 391), (.int 727 0), (.int 265 0), (cf 728)]
abbrev O260 (P : Params) : Obj := oF (.type "function") (D259 3 .none .none .none (.str "wasmcore.lexer" 307) none (.ref 392) .none 0)
abbrev O261 (P : Params) : Obj := oT #[(.str "at" 730), (.str "column" 731), (.str "found" 732), (.str "row" 733), (.str "text" 734)]
abbrev O262 (P : Params) : Obj := ⟨(.type "dict"), none, (.dict #[(de P "__module__" 613 (.str "wasmcore.lexer" 307)), (de P "__firstlineno__" 617 (.int 152 616)), (de P "__init__" 625 (.ref 315)), (de P "here" 632 (.ref 322)), (de P "starts" 640 (.ref 329)), (de P "fail" 648 (.ref 336)), (de P "step" 659 (.ref 344)), (de P "pass_row" 666 (.ref 351)), (de P "pass_block" 676 (.ref 358)), (de P "code_point" 685 (.ref 365)), (de P "escape" 694 (.ref 372)), (de P "string" 705 (.ref 379)), (de P "run" 721 (.ref 386)), (de P "whole" 729 (.ref 393)), (de P "__static_attributes__" 735 (.ref 394)), (de P "__dict__" 737 (.ref 397)), (de P "__weakref__" 739 (.ref 398)), (de P "__doc__" 740 .none)] 4), #[]⟩
noncomputable abbrev O263 (P : Params) : Obj := ⟨(.type "type"), none, (.cls ⟨"Lexer", [(.type "object")], [(.ref 396), (.type "object")], 395, "Lexer", true, [], [], false, none, false⟩), #[none, none, (some (.str "Lexer" 606)), (some (.str "Lexer" 614)), (some (.builtin "object.__new__")), (some (.bool true))]⟩
noncomputable abbrev O264 (P : Params) : Obj := ⟨(.type "getset_descriptor"), none, (.fields #[(.str "__dict__" 736), (.ref 396), (.builtin "function.__dict__"), (.builtin "function.__dict__#set")]), #[]⟩
noncomputable abbrev O265 (P : Params) : Obj := ⟨(.type "getset_descriptor"), none, (.fields #[(.str "__weakref__" 738), (.ref 396), (.builtin "ExceptionGroup.__weakref__"), .none]), #[]⟩
noncomputable abbrev O266 (P : Params) : Obj := ⟨(.type "super"), none, (.fields #[(.ref 396), (.ref 396), (.ref 396)]), #[]⟩
noncomputable abbrev O267 (P : Params) : Obj := ⟨(.type "builtin_function_or_method"), none, (.fields #[(.builtin "object.__init_subclass__"), (.ref 396)]), #[]⟩
def T9 : Params → BT := (nd boot_o_0 (nd boot_o_1 (nd O206 (nd boot_o_7 (nd O0 (nd O17 (nd O47 (nd O97 (lf O173) (lf O0)) (nd O138 (lf O0) nl)) (nd O0 (nd O1 (lf O197) nl) (nd O156 (lf O236) nl))) (nd O33 (nd O59 (nd O107 (lf O185) (lf O266)) (nd O146 (lf O226) nl)) (nd O82 (nd O0 (lf O12) nl) (nd O0 (lf O1) nl)))) (nd O12 (nd O24 (nd O0 (nd O0 (lf O0) (lf O258)) (nd O142 (lf O221) nl)) (nd O0 (nd O124 (lf O0) nl) (nd O113 (lf O0) nl))) (nd O38 (nd O0 (nd O1 (lf O192) nl) (nd O151 (lf O231) nl)) (nd O90 (nd O133 (lf O212) nl) (nd O1 (lf O249) nl))))) (nd O0 (nd O8 (nd O20 (nd O50 (nd O0 (lf O176) (lf O0)) (nd O1 (lf O0) nl)) (nd O76 (nd O120 (lf O0) nl) (nd O0 (lf O0) nl))) (nd O35 (nd O0 (nd O111 (lf O1) nl) (nd O1 (lf O1) nl)) (nd O86 (nd O0 (lf O210) nl) (nd O166 (lf O247) nl)))) (nd O15 (nd O12 (nd O55 (nd O103 (lf O181) (lf O262)) (nd O1 (lf O1) nl)) (nd O0 (nd O127 (lf O203) nl) (nd O0 (lf O242) nl))) (nd O42 (nd O69 (nd O116 (lf O194) nl) (nd O153 (lf O233) nl)) (nd O94 (nd O1 (lf O215) nl) (nd O171 (lf O252) nl)))))) (nd boot_o_5 (nd boot_o_9 (nd O7 (nd O18 (nd O48 (nd O1 (lf O174) (lf O255)) (nd O113 (lf O218) nl)) (nd O72 (nd O0 (lf O1) nl) (nd O1 (lf O1) nl))) (nd O0 (nd O12 (nd O109 (lf O187) nl) (nd O148 (lf O228) nl)) (nd O84 (nd O130 (lf O0) nl) (nd O165 (lf O0) nl)))) (nd O0 (nd O26 (nd O53 (nd O102 (lf O179) (lf O260)) (nd O113 (lf O223) nl)) (nd O79 (nd O125 (lf O202) nl) (nd O1 (lf O241) nl))) (nd O40 (nd O67 (nd O0 (lf O0) nl) (nd O0 (lf O0) nl)) (nd O0 (nd O135 (lf O213) nl) (nd O0 (lf O250) nl))))) (nd O2 (nd O10 (nd O22 (nd O1 (nd O100 (lf O1) (lf O257)) (nd O0 (lf O220) nl)) (nd O12 (nd O0 (lf O200) nl) (nd O159 (lf O239) nl))) (nd O36 (nd O64 (nd O113 (lf O0) nl) (nd O0 (lf O0) nl)) (nd O88 (nd O132 (lf O0) nl) (nd O168 (lf O0) nl)))) (nd O0 (nd O0 (nd O57 (nd O105 (lf O183) (lf O264)) (nd O0 (lf O0) nl)) (nd O81 (nd O1 (lf O205) nl) (nd O163 (lf O244) nl))) (nd O30 (nd O1 (nd O113 (lf O195) nl) (nd O154 (lf O234) nl)) (nd O95 (nd O0 (lf O1) nl) (nd O0 (lf O1) nl))))))) (nd O4 (nd boot_o_4 (nd boot_o_8 (nd O1 (nd O0 (nd O0 (nd O0 (lf O0) (lf O254)) (nd O139 (lf O217) nl)) (nd O71 (nd O118 (lf O0) nl) (nd O0 (lf O0) nl))) (nd O34 (nd O30 (nd O108 (lf O186) (lf O267)) (nd O147 (lf O227) nl)) (nd O83 (nd O129 (lf O208) nl) (nd O1 (lf O245) nl)))) (nd O13 (nd O25 (nd O52 (nd O1 (lf O178) (lf O259)) (nd O143 (lf O222) nl)) (nd O78 (nd O0 (lf O1) nl) (nd O0 (lf O1) nl))) (nd O39 (nd O66 (nd O114 (lf O193) nl) (nd O152 (lf O232) nl)) (nd O91 (nd O134 (lf O0) nl) (nd O169 (lf O0) nl))))) (nd O207 (nd O9 (nd O21 (nd O0 (nd O99 (lf O0) (lf O1)) (nd O140 (lf O1) nl)) (nd O0 (nd O121 (lf O199) nl) (nd O158 (lf O238) nl))) (nd O0 (nd O1 (nd O112 (lf O190) nl) (nd O149 (lf O229) nl)) (nd O87 (nd O1 (lf O211) nl) (nd O167 (lf O248) nl)))) (nd O16 (nd O31 (nd O56 (nd O104 (lf O182) (lf O263)) (nd O144 (lf O224) nl)) (nd O1 (nd O0 (lf O204) nl) (nd O162 (lf O243) nl))) (nd O43 (nd O0 (nd O117 (lf O0) nl) (nd O0 (lf O0) nl)) (nd O0 (nd O136 (lf O0) nl) (nd O172 (lf O0) nl)))))) (nd boot_o_6 (nd boot_o_10 (nd O0 (nd O19 (nd O49 (nd O98 (lf O175) (lf O256)) (nd O0 (lf O219) nl)) (nd O73 (nd O119 (lf O198) nl) (nd O157 (lf O237) nl))) (nd O1 (nd O63 (nd O110 (lf O0) nl) (nd O0 (lf O0) nl)) (nd O85 (nd O131 (lf O209) nl) (nd O0 (lf O246) nl)))) (nd O14 (nd O30 (nd O54 (nd O0 (lf O180) (lf O261)) (nd O0 (lf O0) nl)) (nd O80 (nd O126 (lf O0) nl) (nd O161 (lf O0) nl))) (nd O41 (nd O68 (nd O115 (lf O1) nl) (nd O1 (lf O1) nl)) (nd O12 (nd O0 (lf O214) nl) (nd O170 (lf O251) nl))))) (nd O3 (nd O11 (nd O62 (nd O51 (nd O101 (lf O177) (lf O0)) (nd O141 (lf O0) nl)) (nd O77 (nd O12 (lf O201) nl) (nd O160 (lf O240) nl))) (nd O37 (nd O65 (nd O0 (lf O191) nl) (nd O150 (lf O230) nl)) (nd O89 (nd O0 (lf O1) nl) (nd O0 (lf O1) nl)))) (nd O1 (nd O32 (nd O58 (nd O106 (lf O184) (lf O265)) (nd O145 (lf O225) nl)) (nd O0 (nd O128 (lf O0) nl) (nd O164 (lf O0) nl))) (nd O12 (nd O70 (nd O0 (lf O196) nl) (nd O155 (lf O235) nl)) (nd O96 (nd O137 (lf O216) nl) (nd O1 (lf O253) nl))))))))
def S9 (w : World) (os : OsState) : SharedT := ⟨T9 w.params, 401, ⟨[], [], [], 0, [], [], false, #[], [], 0, false, false, false, 0, [2000, 10, 10], false, 0, true, [], [], 0, false⟩, ⟨[]⟩, ⟨0, 0, 0, 0⟩, 743, os⟩
abbrev O268 (P : Params) : Obj := ⟨(.type "dict"), none, (.dict #[(de P "__name__" 165 (.str "wasmcore.textbody" 820)), (de P "__doc__" 166 .none), (de P "__package__" 167 .none), (de P "__loader__" 168 (.builtin "__main__.__loader__#opaque")), (de P "__spec__" 169 .none), (de P "__annotations__" 170 (.ref 6)), (de P "__builtins__" 171 (.ref 4)), (de P "__file__" 173 (cf 172)), (de P "__cached__" 174 .none), (de P "_wall" 193 (.ref 21)), (de P "WasmFault" 224 (.ref 38)), (de P "BadText" 252 (.ref 58)), (de P "LeftOut" 278 (.ref 77)), (de P "Misused" 294 (.ref 89)), (de P "utf8_of" 306 (.ref 98)), (de P "DIGITS" 310 (.str "0123456789" 309)), (de P "HEX_DIGITS" 312 (.str "0123456789abcdefABCDEF" 311)), (de P "SMALL_LETTERS" 314 (.str "abcdefghijklmnopqrstuvwxyz" 313)), (de P "GREAT_LETTERS" 316 (.str "ABCDEFGHIJKLMNOPQRSTUVWXYZ" 315)), (de P "ID_SIGNS" 321 (.str "0123456789abcdefghijklmnopqrstuvwxyzABCDEFGHIJKLMNOPQRSTUVWXYZ!#$%&'*+-./:<=>?@\\^_`|~" 320)), (de P "LONE_SIGNS" 323 (.str ",;[]{}" 322)), (de P "BLANKS" 325 (.str " \t\n\x0d" 324)), (de P "ESCAPES" 344 (.ref 99)), (de P "Token" 381 (.ref 116)), (de P "Branch" 422 (.ref 144)), (de P "is_branch" 430 (.ref 156)), (de P "is_branch_lexer" 431 (.ref 156)), (de P "is_token" 440 (.ref 164)), (de P "is_token_lexer" 441 (.ref 164)), (de P "Items" 569 (.ref 269)), (de P "walk_of" 576 (.ref 280)), (de P "whole_of" 588 (.ref 287)), (de P "number_in" 597 (.ref 294)), (de P "sorted_word" 605 (.ref 301)), (de P "Lexer" 742 (.ref 396)), (de P "tokens" 749 (.ref 407)), (de P "trees" 761 (.ref 414)), (de P "u32_of" 768 (.ref 421)), (de P "I32" 773 (.int (-1) 772)), (de P "I64" 776 (.int (-2) 775)), (de P "FUNCREF" 779 (.int (-16) 778)), (de P "EXTERNREF" 782 (.int (-17) 781)), (de P "KIND_NAMES" 791 (.ref 422)), (de P "LEFT_NAMES" 804 (.ref 423)), (de P "kind_of" 812 (.ref 430)), (de P "is_left_name" 819 (.ref 437)), (de P "refuse" 829 (.ref 444))] 47), #[]⟩
abbrev O269 (P : Params) : Obj := ⟨.none, none, (.fields #[(.int 1 0), z0, (.ref 20), (.int 5 0), z0, (.ref 27), (.int 10 0), z0, (.ref 47), (.int 16 0), z0, (.ref 66), (.int 21 0), z0, (.ref 85), (.int 24 0), z0, (.ref 97), (.int 48 0), z0, (.ref 105), (.int 56 0), z0, (.ref 126), (.int 66 0), z0, (.ref 155), (.int 69 0), z0, (.ref 163), (.int 72 0), z0, (.ref 170), (.int 124 0), z0, (.ref 279), (.int 126 0), z0, (.ref 286), (.int 139 0), z0, (.ref 293), (.int 143 0), z0, (.ref 300), (.int 152 0), z0, (.ref 307), (.int 285 0), z0, (.ref 406), (.int 287 0), z0, (.ref 413), (.int 303 0), z0, (.ref 420), (.int 316 0), z0, (.ref 429), (.int 321 0), z0, (.ref 436), (.int 324 0), z0, (.ref 443)]), #[]⟩
abbrev O270 (P : Params) : Obj := oT #[(.str "text" 746)]
abbrev F272 : FuncBody := fnB 29
abbrev D272 := fd "tokens" "tokens" ⟨[], [⟨"text", none, ⟨285, 11, 285, 15⟩⟩], none, [], [], none, []⟩ F272 ⟨.function, [("text", .local), ("Lexer", .globalImplicit)], false, false, []⟩
abbrev O271 (P : Params) : Obj := oF .none (D272 0 .none .none .none .none none .none .none 0)
abbrev O272 (P : Params) : Obj := oC #[(.str "tokens" 743), (.str "tokens" 744), (cf 745), (.int 285 0), (.int 1 0), z0, z0, (.int 3 0), (.ref 401), (.bool true), (.int 181 0), (.ref 402), .none, (.ref 403), (.ref 404), (.ref 405), (.int 747 0), (.int 285 0), (cf 748)]
abbrev O273 (P : Params) : Obj := oF (.type "function") (D272 3 .none .none .none (.str "wasmcore.lexer" 307) none (.ref 406) .none 0)
abbrev O274 (P : Params) : Obj := oT #[(.str "text" 753), (.str "found" 754), (.str "opened" 755), (.str "token" 756), (.str "item" 757), (.str "goal" 758)]
abbrev F276 : FuncBody := fnB 30
abbrev D276 := fd "trees" "trees" ⟨[], [⟨"text", none, ⟨287, 10, 287, 14⟩⟩], none, [], [], none, []⟩ F276 ⟨.function, [("text", .local), ("found", .local), ("opened", .local), ("token", .local), ("item", .local), ("goal", .local), ("tokens", .globalImplicit), ("Branch", .globalImplicit), ("len", .globalImplicit), ("BadText", .globalImplicit)], false, false, []⟩
abbrev O275 (P : Params) : Obj := oF .none (D276 0 .none .none .none .none none .none .none 0)
abbrev O276 (P : Params) : Obj := oC #[(.str "trees" 750), (.str "trees" 751), (cf 752), (.int 287 0), (.int 1 0), z0, z0, (.int 3 0), (.ref 408), (.bool true), (.int 181 0), (.ref 409), .none, (.ref 410), (.ref 411), (.ref 412), (.int 759 0), (.int 287 0), (cf 760)]
abbrev O277 (P : Params) : Obj := oF (.type "function") (D276 3 .none .none .none (.str "wasmcore.lexer" 307) none (.ref 413) .none 0)
abbrev O278 (P : Params) : Obj := oT #[(.str "token" 765)]
abbrev F280 : FuncBody := fnB 31
abbrev D280 := fd "u32_of" "u32_of" ⟨[], [⟨"token", none, ⟨303, 11, 303, 16⟩⟩], none, [], [], none, []⟩ F280 ⟨.function, [("token", .local), ("is_token_lexer", .globalImplicit), ("BadText", .globalImplicit)], false, false, []⟩
abbrev O279 (P : Params) : Obj := oF .none (D280 0 .none .none .none .none none .none .none 0)
abbrev O280 (P : Params) : Obj := oC #[(.str "u32_of" 762), (.str "u32_of" 763), (cf 764), (.int 303 0), (.int 1 0), z0, z0, (.int 3 0), (.ref 415), (.bool true), (.int 181 0), (.ref 416), .none, (.ref 417), (.ref 418), (.ref 419), (.int 766 0), (.int 303 0), (cf 767)]
abbrev O281 (P : Params) : Obj := oF (.type "function") (D280 3 .none .none .none (.str "wasmcore.lexer" 307) none (.ref 420) .none 0)
noncomputable abbrev O282 (P : Params) : Obj := ⟨(.type "dict"), none, (.dict #[⟨(-2), (.int (-1) 772), (.str "i32" 783)⟩, ⟨(-2), (.int (-2) 775), (.str "i64" 784)⟩, ⟨(-16), (.int (-16) 778), (.str "funcref" 785)⟩, ⟨(-17), (.int (-17) 781), (.str "externref" 786)⟩] 4), #[]⟩
noncomputable abbrev O283 (P : Params) : Obj := ⟨(.type "dict"), none, (.dict #[⟨(-3), (.int (-3) 793), (.str "f32" 794)⟩, ⟨(-4), (.int (-4) 796), (.str "f64" 797)⟩, ⟨(-5), (.int (-5) 799), (.str "v128" 800)⟩] 3), #[]⟩
abbrev O284 (P : Params) : Obj := oT #[(.str "name" 808), (.str "kind" 809)]
abbrev F286 : FuncBody := fnB 39
abbrev D286 := fd "kind_of" "kind_of" ⟨[], [⟨"name", none, ⟨316, 12, 316, 16⟩⟩], none, [], [], none, []⟩ F286 ⟨.function, [("name", .local), ("kind", .local), ("KIND_NAMES", .globalImplicit)], false, false, []⟩
abbrev O285 (P : Params) : Obj := oF .none (D286 0 .none .none .none .none none .none .none 0)
abbrev O286 (P : Params) : Obj := oC #[(.str "kind_of" 805), (.str "kind_of" 806), (cf 807), (.int 316 0), (.int 1 0), z0, z0, (.int 3 0), (.ref 424), (.bool true), (.int 181 0), (.ref 425), .none, (.ref 426), (.ref 427), (.ref 428), (.int 810 0), (.int 316 0), (cf 811)]
abbrev O287 (P : Params) : Obj := oF (.type "function") (D286 3 .none .none .none (.str "wasmcore.kinds" 769) none (.ref 429) .none 0)
abbrev O288 (P : Params) : Obj := oT #[(.str "name" 816)]
abbrev F290 : FuncBody := fnB 40
abbrev D290 := fd "is_left_name" "is_left_name" ⟨[], [⟨"name", none, ⟨321, 17, 321, 21⟩⟩], none, [], [], none, []⟩ F290 ⟨.function, [("name", .local), ("LEFT_NAMES", .globalImplicit)], false, false, []⟩
abbrev O289 (P : Params) : Obj := oF .none (D290 0 .none .none .none .none none .none .none 0)
abbrev O290 (P : Params) : Obj := oC #[(.str "is_left_name" 813), (.str "is_left_name" 814), (cf 815), (.int 321 0), (.int 1 0), z0, z0, (.int 3 0), (.ref 431), (.bool true), (.int 181 0), (.ref 432), .none, (.ref 433), (.ref 434), (.ref 435), (.int 817 0), (.int 321 0), (cf 818)]
abbrev O291 (P : Params) : Obj := oF (.type "function") (D290 3 .none .none .none (.str "wasmcore.kinds" 769) none (.ref 436) .none 0)
abbrev O292 (P : Params) : Obj := oT #[(.str "why" 825), (.str "item" 826)]
abbrev F294 : FuncBody := fnB 42
abbrev D294 := fd "refuse" "refuse" ⟨[], [⟨"why", none, ⟨324, 11, 324, 14⟩⟩, ⟨"item", none, ⟨324, 16, 324, 20⟩⟩], none, [], [], none, []⟩ F294 ⟨.function, [("why", .local), ("item", .local), ("isinstance", .globalImplicit), ("Branch", .globalImplicit), ("BadText", .globalImplicit)], false, false, []⟩
abbrev O293 (P : Params) : Obj := oF .none (D294 0 .none .none .none .none none .none .none 0)
abbrev O294 (P : Params) : Obj := oC #[(.str "refuse" 822), (.str "refuse" 823), (cf 824), (.int 324 0), (.int 2 0), z0, z0, (.int 3 0), (.ref 438), (.bool true), (.int 181 0), (.ref 439), .none, (.ref 440), (.ref 441), (.ref 442), (.int 827 0), (.int 324 0), (cf 828)]
abbrev O295 (P : Params) : Obj := oF (.type "function") (D294 3 .none .none .none (.str "wasmcore.textbody" 820) none (.ref 443) .none 0)
def T10 : Params → BT := (nd boot_o_0 (nd boot_o_1 (nd O268 (nd boot_o_7 (nd O0 (nd O17 (nd O47 (nd O97 (lf O173) (lf O0)) (nd O138 (lf O0) nl)) (nd O0 (nd O1 (lf O197) (lf O0)) (nd O156 (lf O236) nl))) (nd O33 (nd O59 (nd O107 (lf O185) (lf O266)) (nd O146 (lf O226) nl)) (nd O82 (nd O0 (lf O12) (lf O0)) (nd O0 (lf O1) nl)))) (nd O12 (nd O24 (nd O0 (nd O0 (lf O0) (lf O258)) (nd O142 (lf O221) nl)) (nd O0 (nd O124 (lf O0) (lf O283)) (nd O113 (lf O0) nl))) (nd O38 (nd O0 (nd O1 (lf O192) (lf O273)) (nd O151 (lf O231) nl)) (nd O90 (nd O133 (lf O212) (lf O1)) (nd O1 (lf O249) nl))))) (nd O0 (nd O8 (nd O20 (nd O50 (nd O0 (lf O176) (lf O0)) (nd O1 (lf O0) nl)) (nd O76 (nd O120 (lf O0) (lf O279)) (nd O0 (lf O0) nl))) (nd O35 (nd O0 (nd O111 (lf O1) (lf O270)) (nd O1 (lf O1) nl)) (nd O86 (nd O0 (lf O210) (lf O289)) (nd O166 (lf O247) nl)))) (nd O15 (nd O12 (nd O55 (nd O103 (lf O181) (lf O262)) (nd O1 (lf O1) nl)) (nd O0 (nd O127 (lf O203) (lf O0)) (nd O0 (lf O242) nl))) (nd O42 (nd O69 (nd O116 (lf O194) (lf O0)) (nd O153 (lf O233) nl)) (nd O94 (nd O1 (lf O215) (lf O294)) (nd O171 (lf O252) nl)))))) (nd boot_o_5 (nd boot_o_9 (nd O7 (nd O18 (nd O48 (nd O1 (lf O174) (lf O255)) (nd O113 (lf O218) nl)) (nd O72 (nd O0 (lf O1) (lf O278)) (nd O1 (lf O1) nl))) (nd O0 (nd O12 (nd O109 (lf O187) (lf O0)) (nd O148 (lf O228) nl)) (nd O84 (nd O130 (lf O0) (lf O288)) (nd O165 (lf O0) nl)))) (nd O0 (nd O26 (nd O53 (nd O102 (lf O179) (lf O260)) (nd O113 (lf O223) nl)) (nd O79 (nd O125 (lf O202) (lf O1)) (nd O1 (lf O241) nl))) (nd O40 (nd O67 (nd O0 (lf O0) (lf O1)) (nd O0 (lf O0) nl)) (nd O0 (nd O135 (lf O213) (lf O0)) (nd O0 (lf O250) nl))))) (nd O2 (nd O10 (nd O22 (nd O1 (nd O100 (lf O1) (lf O257)) (nd O0 (lf O220) nl)) (nd O12 (nd O0 (lf O200) (lf O281)) (nd O159 (lf O239) nl))) (nd O36 (nd O64 (nd O113 (lf O0) (lf O271)) (nd O0 (lf O0) nl)) (nd O88 (nd O132 (lf O0) (lf O291)) (nd O168 (lf O0) nl)))) (nd O0 (nd O0 (nd O57 (nd O105 (lf O183) (lf O264)) (nd O0 (lf O0) nl)) (nd O81 (nd O1 (lf O205) (lf O286)) (nd O163 (lf O244) nl))) (nd O30 (nd O1 (nd O113 (lf O195) (lf O276)) (nd O154 (lf O234) nl)) (nd O95 (nd O0 (lf O1) nl) (nd O0 (lf O1) nl))))))) (nd O4 (nd boot_o_4 (nd boot_o_8 (nd O1 (nd O0 (nd O0 (nd O0 (lf O0) (lf O254)) (nd O139 (lf O217) nl)) (nd O71 (nd O118 (lf O0) (lf O1)) (nd O0 (lf O0) nl))) (nd O34 (nd O30 (nd O108 (lf O186) (lf O267)) (nd O147 (lf O227) nl)) (nd O83 (nd O129 (lf O208) (lf O1)) (nd O1 (lf O245) nl)))) (nd O13 (nd O25 (nd O52 (nd O1 (lf O178) (lf O259)) (nd O143 (lf O222) nl)) (nd O78 (nd O0 (lf O1) (lf O0)) (nd O0 (lf O1) nl))) (nd O39 (nd O66 (nd O114 (lf O193) (lf O0)) (nd O152 (lf O232) nl)) (nd O91 (nd O134 (lf O0) (lf O292)) (nd O169 (lf O0) nl))))) (nd O269 (nd O9 (nd O21 (nd O0 (nd O99 (lf O0) (lf O1)) (nd O140 (lf O1) nl)) (nd O0 (nd O121 (lf O199) (lf O280)) (nd O158 (lf O238) nl))) (nd O0 (nd O1 (nd O112 (lf O190) (lf O0)) (nd O149 (lf O229) nl)) (nd O87 (nd O1 (lf O211) (lf O290)) (nd O167 (lf O248) nl)))) (nd O16 (nd O31 (nd O56 (nd O104 (lf O182) (lf O263)) (nd O144 (lf O224) nl)) (nd O1 (nd O0 (lf O204) (lf O285)) (nd O162 (lf O243) nl))) (nd O43 (nd O0 (nd O117 (lf O0) (lf O275)) (nd O0 (lf O0) nl)) (nd O0 (nd O136 (lf O0) (lf O295)) (nd O172 (lf O0) nl)))))) (nd boot_o_6 (nd boot_o_10 (nd O0 (nd O19 (nd O49 (nd O98 (lf O175) (lf O256)) (nd O0 (lf O219) nl)) (nd O73 (nd O119 (lf O198) (lf O0)) (nd O157 (lf O237) nl))) (nd O1 (nd O63 (nd O110 (lf O0) (lf O1)) (nd O0 (lf O0) nl)) (nd O85 (nd O131 (lf O209) (lf O0)) (nd O0 (lf O246) nl)))) (nd O14 (nd O30 (nd O54 (nd O0 (lf O180) (lf O261)) (nd O0 (lf O0) nl)) (nd O80 (nd O126 (lf O0) (lf O284)) (nd O161 (lf O0) nl))) (nd O41 (nd O68 (nd O115 (lf O1) (lf O274)) (nd O1 (lf O1) nl)) (nd O12 (nd O0 (lf O214) (lf O293)) (nd O170 (lf O251) nl))))) (nd O3 (nd O11 (nd O62 (nd O51 (nd O101 (lf O177) (lf O0)) (nd O141 (lf O0) nl)) (nd O77 (nd O12 (lf O201) (lf O282)) (nd O160 (lf O240) nl))) (nd O37 (nd O65 (nd O0 (lf O191) (lf O272)) (nd O150 (lf O230) nl)) (nd O89 (nd O0 (lf O1) (lf O0)) (nd O0 (lf O1) nl)))) (nd O1 (nd O32 (nd O58 (nd O106 (lf O184) (lf O265)) (nd O145 (lf O225) nl)) (nd O0 (nd O128 (lf O0) (lf O287)) (nd O164 (lf O0) nl))) (nd O12 (nd O70 (nd O0 (lf O196) (lf O277)) (nd O155 (lf O235) nl)) (nd O96 (nd O137 (lf O216) nl) (nd O1 (lf O253) nl))))))))
def S10 (w : World) (os : OsState) : SharedT := ⟨T10 w.params, 445, ⟨[], [], [], 0, [], [], false, #[], [], 0, false, false, false, 0, [2000, 10, 10], false, 0, true, [], [], 0, false⟩, ⟨[]⟩, ⟨0, 0, 0, 0⟩, 830, os⟩
abbrev O296 (P : Params) : Obj := ⟨(.type "dict"), none, (.dict #[(de P "__name__" 165 (.str "wasmcore.spaces" 838)), (de P "__doc__" 166 .none), (de P "__package__" 167 .none), (de P "__loader__" 168 (.builtin "__main__.__loader__#opaque")), (de P "__spec__" 169 .none), (de P "__annotations__" 170 (.ref 6)), (de P "__builtins__" 171 (.ref 4)), (de P "__file__" 173 (cf 172)), (de P "__cached__" 174 .none), (de P "_wall" 193 (.ref 21)), (de P "WasmFault" 224 (.ref 38)), (de P "BadText" 252 (.ref 58)), (de P "LeftOut" 278 (.ref 77)), (de P "Misused" 294 (.ref 89)), (de P "utf8_of" 306 (.ref 98)), (de P "DIGITS" 310 (.str "0123456789" 309)), (de P "HEX_DIGITS" 312 (.str "0123456789abcdefABCDEF" 311)), (de P "SMALL_LETTERS" 314 (.str "abcdefghijklmnopqrstuvwxyz" 313)), (de P "GREAT_LETTERS" 316 (.str "ABCDEFGHIJKLMNOPQRSTUVWXYZ" 315)), (de P "ID_SIGNS" 321 (.str "0123456789abcdefghijklmnopqrstuvwxyzABCDEFGHIJKLMNOPQRSTUVWXYZ!#$%&'*+-./:<=>?@\\^_`|~" 320)), (de P "LONE_SIGNS" 323 (.str ",;[]{}" 322)), (de P "BLANKS" 325 (.str " \t\n\x0d" 324)), (de P "ESCAPES" 344 (.ref 99)), (de P "Token" 381 (.ref 116)), (de P "Branch" 422 (.ref 144)), (de P "is_branch" 430 (.ref 156)), (de P "is_branch_lexer" 431 (.ref 156)), (de P "is_token" 440 (.ref 164)), (de P "is_token_lexer" 441 (.ref 164)), (de P "Items" 569 (.ref 269)), (de P "walk_of" 576 (.ref 280)), (de P "whole_of" 588 (.ref 287)), (de P "number_in" 597 (.ref 294)), (de P "sorted_word" 605 (.ref 301)), (de P "Lexer" 742 (.ref 396)), (de P "tokens" 749 (.ref 407)), (de P "trees" 761 (.ref 414)), (de P "u32_of" 768 (.ref 421)), (de P "I32" 773 (.int (-1) 772)), (de P "I64" 776 (.int (-2) 775)), (de P "FUNCREF" 779 (.int (-16) 778)), (de P "EXTERNREF" 782 (.int (-17) 781)), (de P "KIND_NAMES" 791 (.ref 422)), (de P "LEFT_NAMES" 804 (.ref 423)), (de P "kind_of" 812 (.ref 430)), (de P "is_left_name" 819 (.ref 437)), (de P "refuse" 829 (.ref 444)), (de P "value_kind" 837 (.ref 451)), (de P "SPACES" 847 (.ref 452)), (de P "SPACE_NAMES" 869 (.ref 453)), (de P "kinds_in" 875 (.ref 458)), (de P "signature_in" 881 (.ref 463))] 52), #[]⟩
abbrev O297 (P : Params) : Obj := ⟨.none, none, (.fields #[(.int 1 0), z0, (.ref 20), (.int 5 0), z0, (.ref 27), (.int 10 0), z0, (.ref 47), (.int 16 0), z0, (.ref 66), (.int 21 0), z0, (.ref 85), (.int 24 0), z0, (.ref 97), (.int 48 0), z0, (.ref 105), (.int 56 0), z0, (.ref 126), (.int 66 0), z0, (.ref 155), (.int 69 0), z0, (.ref 163), (.int 72 0), z0, (.ref 170), (.int 124 0), z0, (.ref 279), (.int 126 0), z0, (.ref 286), (.int 139 0), z0, (.ref 293), (.int 143 0), z0, (.ref 300), (.int 152 0), z0, (.ref 307), (.int 285 0), z0, (.ref 406), (.int 287 0), z0, (.ref 413), (.int 303 0), z0, (.ref 420), (.int 316 0), z0, (.ref 429), (.int 321 0), z0, (.ref 436), (.int 324 0), z0, (.ref 443), (.int 328 0), z0, (.ref 450), (.int 340 0), z0, (.ref 457), (.int 352 0), z0, (.ref 462)]), #[]⟩
abbrev O298 (P : Params) : Obj := oT #[(.str "item" 833), (.str "kind" 834)]
abbrev F300 : FuncBody := fnB 43
abbrev D300 := fd "value_kind" "value_kind" ⟨[], [⟨"item", none, ⟨328, 15, 328, 19⟩⟩], none, [], [], none, []⟩ F300 ⟨.function, [("item", .local), ("kind", .local), ("isinstance", .globalImplicit), ("Branch", .globalImplicit), ("refuse", .globalImplicit), ("is_left_name", .globalImplicit), ("LeftOut", .globalImplicit), ("kind_of", .globalImplicit)], false, false, []⟩
abbrev O299 (P : Params) : Obj := oF .none (D300 0 .none .none .none .none none .none .none 0)
abbrev O300 (P : Params) : Obj := oC #[(.str "value_kind" 830), (.str "value_kind" 831), (cf 832), (.int 328 0), (.int 1 0), z0, z0, (.int 3 0), (.ref 445), (.bool true), (.int 181 0), (.ref 446), .none, (.ref 447), (.ref 448), (.ref 449), (.int 835 0), (.int 328 0), (cf 836)]
abbrev O301 (P : Params) : Obj := oF (.type "function") (D300 3 .none .none .none (.str "wasmcore.textbody" 820) none (.ref 450) .none 0)
abbrev O302 (P : Params) : Obj := oT #[(.str "type" 840), (.str "func" 841), (.str "table" 842), (.str "memory" 843), (.str "global" 844), (.str "elem" 845), (.str "data" 846)]
abbrev O303 (P : Params) : Obj := ⟨(.type "dict"), none, (.dict #[(de P "type" 848 (.str "type" 849)), (de P "func" 850 (.str "function" 851)), (de P "table" 852 (.str "table" 853)), (de P "memory" 854 (.str "memory" 855)), (de P "global" 856 (.str "global" 857)), (de P "elem" 858 (.str "elem segment" 859)), (de P "data" 860 (.str "data segment" 861))] 7), #[]⟩
abbrev F305 : FuncBody := fnB 47
abbrev D305 := fd "kinds_in" "kinds_in" ⟨[], [⟨"branch", none, ⟨340, 13, 340, 19⟩⟩, ⟨"ids", none, ⟨340, 21, 340, 24⟩⟩, ⟨"many", none, ⟨340, 26, 340, 30⟩⟩], none, [], [], none, []⟩ F305 ⟨.function, [("branch", .local), ("ids", .local), ("many", .local), ("inner", .local), ("token", .local), ("kind", .local), ("walk_of", .globalImplicit), ("BadText", .globalImplicit), ("value_kind", .globalImplicit)], false, false, [("fast", (.str "branch")), ("fast", (.str "ids")), ("fast", (.str "many")), ("fast", (.str "inner")), ("fast", (.str "token")), ("fast", (.str "item")), ("fast", (.str "kind"))]⟩
abbrev O304 (P : Params) : Obj := oF .none (D305 0 .none .none .none .none none .none .none 0)
abbrev O305 (P : Params) : Obj := oC #[(.str "kinds_in" 870), (.str "kinds_in" 871), (cf 872), (.int 340 0), (.int 3 0), z0, z0, (.int 3 0), (.ref 454), (.bool true), (.int 181 0), (.ref 455), .none, .none, .none, (.ref 456), (.int 873 0), (.int 340 0), (cf 874)]
abbrev O306 (P : Params) : Obj := oF (.type "function") (D305 3 .none .none .none (.str "wasmcore.spaces" 838) none (.ref 457) .none 0)
abbrev F308 : FuncBody := fnB 48
abbrev D308 := fd "signature_in" "signature_in" ⟨[], [⟨"items", none, ⟨352, 17, 352, 22⟩⟩, ⟨"ids", none, ⟨352, 24, 352, 27⟩⟩], none, [], [], none, []⟩ F308 ⟨.function, [("items", .local), ("ids", .local), ("params", .local), ("results", .local), ("kinds_in", .globalImplicit), ("len", .globalImplicit), ("walk_of", .globalImplicit), ("tuple", .globalImplicit)], false, false, [("fast", (.str "items")), ("fast", (.str "ids")), ("fast", (.str "params")), ("fast", (.str "results")), ("fast", (.str "item"))]⟩
abbrev O307 (P : Params) : Obj := oF .none (D308 0 .none .none .none .none none .none .none 0)
abbrev O308 (P : Params) : Obj := oC #[(.str "signature_in" 876), (.str "signature_in" 877), (cf 878), (.int 352 0), (.int 2 0), z0, z0, (.int 3 0), (.ref 459), (.bool true), (.int 181 0), (.ref 460), .none, .none, .none, (.ref 461), (.int 879 0), (.int 352 0), (cf 880)]
abbrev O309 (P : Params) : Obj := oF (.type "function") (D308 3 .none .none .none (.str "wasmcore.spaces" 838) none (.ref 462) .none 0)
def T11 : Params → BT := (nd boot_o_0 (nd boot_o_1 (nd O296 (nd boot_o_7 (nd O0 (nd O17 (nd O47 (nd O97 (lf O173) (lf O0)) (nd O138 (lf O0) (lf O298))) (nd O0 (nd O1 (lf O197) (lf O0)) (nd O156 (lf O236) nl))) (nd O33 (nd O59 (nd O107 (lf O185) (lf O266)) (nd O146 (lf O226) (lf O309))) (nd O82 (nd O0 (lf O12) (lf O0)) (nd O0 (lf O1) nl)))) (nd O12 (nd O24 (nd O0 (nd O0 (lf O0) (lf O258)) (nd O142 (lf O221) (lf O1))) (nd O0 (nd O124 (lf O0) (lf O283)) (nd O113 (lf O0) nl))) (nd O38 (nd O0 (nd O1 (lf O192) (lf O273)) (nd O151 (lf O231) nl)) (nd O90 (nd O133 (lf O212) (lf O1)) (nd O1 (lf O249) nl))))) (nd O0 (nd O8 (nd O20 (nd O50 (nd O0 (lf O176) (lf O0)) (nd O1 (lf O0) (lf O301))) (nd O76 (nd O120 (lf O0) (lf O279)) (nd O0 (lf O0) nl))) (nd O35 (nd O0 (nd O111 (lf O1) (lf O270)) (nd O1 (lf O1) nl)) (nd O86 (nd O0 (lf O210) (lf O289)) (nd O166 (lf O247) nl)))) (nd O15 (nd O12 (nd O55 (nd O103 (lf O181) (lf O262)) (nd O1 (lf O1) (lf O0))) (nd O0 (nd O127 (lf O203) (lf O0)) (nd O0 (lf O242) nl))) (nd O42 (nd O69 (nd O116 (lf O194) (lf O0)) (nd O153 (lf O233) nl)) (nd O94 (nd O1 (lf O215) (lf O294)) (nd O171 (lf O252) nl)))))) (nd boot_o_5 (nd boot_o_9 (nd O7 (nd O18 (nd O48 (nd O1 (lf O174) (lf O255)) (nd O113 (lf O218) (lf O299))) (nd O72 (nd O0 (lf O1) (lf O278)) (nd O1 (lf O1) nl))) (nd O0 (nd O12 (nd O109 (lf O187) (lf O0)) (nd O148 (lf O228) nl)) (nd O84 (nd O130 (lf O0) (lf O288)) (nd O165 (lf O0) nl)))) (nd O0 (nd O26 (nd O53 (nd O102 (lf O179) (lf O260)) (nd O113 (lf O223) (lf O305))) (nd O79 (nd O125 (lf O202) (lf O1)) (nd O1 (lf O241) nl))) (nd O40 (nd O67 (nd O0 (lf O0) (lf O1)) (nd O0 (lf O0) nl)) (nd O0 (nd O135 (lf O213) (lf O0)) (nd O0 (lf O250) nl))))) (nd O2 (nd O10 (nd O22 (nd O1 (nd O100 (lf O1) (lf O257)) (nd O0 (lf O220) (lf O303))) (nd O12 (nd O0 (lf O200) (lf O281)) (nd O159 (lf O239) nl))) (nd O36 (nd O64 (nd O113 (lf O0) (lf O271)) (nd O0 (lf O0) nl)) (nd O88 (nd O132 (lf O0) (lf O291)) (nd O168 (lf O0) nl)))) (nd O0 (nd O0 (nd O57 (nd O105 (lf O183) (lf O264)) (nd O0 (lf O0) (lf O307))) (nd O81 (nd O1 (lf O205) (lf O286)) (nd O163 (lf O244) nl))) (nd O30 (nd O1 (nd O113 (lf O195) (lf O276)) (nd O154 (lf O234) nl)) (nd O95 (nd O0 (lf O1) (lf O0)) (nd O0 (lf O1) nl))))))) (nd O4 (nd boot_o_4 (nd boot_o_8 (nd O1 (nd O0 (nd O0 (nd O0 (lf O0) (lf O254)) (nd O139 (lf O217) (lf O0))) (nd O71 (nd O118 (lf O0) (lf O1)) (nd O0 (lf O0) nl))) (nd O34 (nd O30 (nd O108 (lf O186) (lf O267)) (nd O147 (lf O227) nl)) (nd O83 (nd O129 (lf O208) (lf O1)) (nd O1 (lf O245) nl)))) (nd O13 (nd O25 (nd O52 (nd O1 (lf O178) (lf O259)) (nd O143 (lf O222) (lf O304))) (nd O78 (nd O0 (lf O1) (lf O0)) (nd O0 (lf O1) nl))) (nd O39 (nd O66 (nd O114 (lf O193) (lf O0)) (nd O152 (lf O232) nl)) (nd O91 (nd O134 (lf O0) (lf O292)) (nd O169 (lf O0) nl))))) (nd O297 (nd O9 (nd O21 (nd O0 (nd O99 (lf O0) (lf O1)) (nd O140 (lf O1) (lf O302))) (nd O0 (nd O121 (lf O199) (lf O280)) (nd O158 (lf O238) nl))) (nd O0 (nd O1 (nd O112 (lf O190) (lf O0)) (nd O149 (lf O229) nl)) (nd O87 (nd O1 (lf O211) (lf O290)) (nd O167 (lf O248) nl)))) (nd O16 (nd O31 (nd O56 (nd O104 (lf O182) (lf O263)) (nd O144 (lf O224) (lf O1))) (nd O1 (nd O0 (lf O204) (lf O285)) (nd O162 (lf O243) nl))) (nd O43 (nd O0 (nd O117 (lf O0) (lf O275)) (nd O0 (lf O0) nl)) (nd O0 (nd O136 (lf O0) (lf O295)) (nd O172 (lf O0) nl)))))) (nd boot_o_6 (nd boot_o_10 (nd O0 (nd O19 (nd O49 (nd O98 (lf O175) (lf O256)) (nd O0 (lf O219) (lf O300))) (nd O73 (nd O119 (lf O198) (lf O0)) (nd O157 (lf O237) nl))) (nd O1 (nd O63 (nd O110 (lf O0) (lf O1)) (nd O0 (lf O0) nl)) (nd O85 (nd O131 (lf O209) (lf O0)) (nd O0 (lf O246) nl)))) (nd O14 (nd O30 (nd O54 (nd O0 (lf O180) (lf O261)) (nd O0 (lf O0) (lf O306))) (nd O80 (nd O126 (lf O0) (lf O284)) (nd O161 (lf O0) nl))) (nd O41 (nd O68 (nd O115 (lf O1) (lf O274)) (nd O1 (lf O1) nl)) (nd O12 (nd O0 (lf O214) (lf O293)) (nd O170 (lf O251) nl))))) (nd O3 (nd O11 (nd O62 (nd O51 (nd O101 (lf O177) (lf O0)) (nd O141 (lf O0) (lf O0))) (nd O77 (nd O12 (lf O201) (lf O282)) (nd O160 (lf O240) nl))) (nd O37 (nd O65 (nd O0 (lf O191) (lf O272)) (nd O150 (lf O230) nl)) (nd O89 (nd O0 (lf O1) (lf O0)) (nd O0 (lf O1) nl)))) (nd O1 (nd O32 (nd O58 (nd O106 (lf O184) (lf O265)) (nd O145 (lf O225) (lf O308))) (nd O0 (nd O128 (lf O0) (lf O287)) (nd O164 (lf O0) nl))) (nd O12 (nd O70 (nd O0 (lf O196) (lf O277)) (nd O155 (lf O235) nl)) (nd O96 (nd O137 (lf O216) (lf O1)) (nd O1 (lf O253) nl))))))))
def S11 (w : World) (os : OsState) : SharedT := ⟨T11 w.params, 464, ⟨[], [], [], 0, [], [], false, #[], [], 0, false, false, false, 0, [2000, 10, 10], false, 0, true, [], [], 0, false⟩, ⟨[]⟩, ⟨0, 0, 0, 0⟩, 882, os⟩
abbrev O310 (P : Params) : Obj := ⟨(.type "dict"), none, (.dict #[(de P "__name__" 165 (.str "wasmcore.spaces" 838)), (de P "__doc__" 166 .none), (de P "__package__" 167 .none), (de P "__loader__" 168 (.builtin "__main__.__loader__#opaque")), (de P "__spec__" 169 .none), (de P "__annotations__" 170 (.ref 6)), (de P "__builtins__" 171 (.ref 4)), (de P "__file__" 173 (cf 172)), (de P "__cached__" 174 .none), (de P "_wall" 193 (.ref 21)), (de P "WasmFault" 224 (.ref 38)), (de P "BadText" 252 (.ref 58)), (de P "LeftOut" 278 (.ref 77)), (de P "Misused" 294 (.ref 89)), (de P "utf8_of" 306 (.ref 98)), (de P "DIGITS" 310 (.str "0123456789" 309)), (de P "HEX_DIGITS" 312 (.str "0123456789abcdefABCDEF" 311)), (de P "SMALL_LETTERS" 314 (.str "abcdefghijklmnopqrstuvwxyz" 313)), (de P "GREAT_LETTERS" 316 (.str "ABCDEFGHIJKLMNOPQRSTUVWXYZ" 315)), (de P "ID_SIGNS" 321 (.str "0123456789abcdefghijklmnopqrstuvwxyzABCDEFGHIJKLMNOPQRSTUVWXYZ!#$%&'*+-./:<=>?@\\^_`|~" 320)), (de P "LONE_SIGNS" 323 (.str ",;[]{}" 322)), (de P "BLANKS" 325 (.str " \t\n\x0d" 324)), (de P "ESCAPES" 344 (.ref 99)), (de P "Token" 381 (.ref 116)), (de P "Branch" 422 (.ref 144)), (de P "is_branch" 430 (.ref 156)), (de P "is_branch_lexer" 431 (.ref 156)), (de P "is_token" 440 (.ref 164)), (de P "is_token_lexer" 441 (.ref 164)), (de P "Items" 569 (.ref 269)), (de P "walk_of" 576 (.ref 280)), (de P "whole_of" 588 (.ref 287)), (de P "number_in" 597 (.ref 294)), (de P "sorted_word" 605 (.ref 301)), (de P "Lexer" 742 (.ref 396)), (de P "tokens" 749 (.ref 407)), (de P "trees" 761 (.ref 414)), (de P "u32_of" 768 (.ref 421)), (de P "I32" 773 (.int (-1) 772)), (de P "I64" 776 (.int (-2) 775)), (de P "FUNCREF" 779 (.int (-16) 778)), (de P "EXTERNREF" 782 (.int (-17) 781)), (de P "KIND_NAMES" 791 (.ref 422)), (de P "LEFT_NAMES" 804 (.ref 423)), (de P "kind_of" 812 (.ref 430)), (de P "is_left_name" 819 (.ref 437)), (de P "refuse" 829 (.ref 444)), (de P "value_kind" 837 (.ref 451)), (de P "SPACES" 847 (.ref 452)), (de P "SPACE_NAMES" 869 (.ref 453)), (de P "kinds_in" 875 (.ref 458)), (de P "signature_in" 881 (.ref 463)), (de P "Spaces" 965 (.ref 515))] 53), #[]⟩
abbrev O311 (P : Params) : Obj := ⟨.none, none, (.fields #[(.int 1 0), z0, (.ref 20), (.int 5 0), z0, (.ref 27), (.int 10 0), z0, (.ref 47), (.int 16 0), z0, (.ref 66), (.int 21 0), z0, (.ref 85), (.int 24 0), z0, (.ref 97), (.int 48 0), z0, (.ref 105), (.int 56 0), z0, (.ref 126), (.int 66 0), z0, (.ref 155), (.int 69 0), z0, (.ref 163), (.int 72 0), z0, (.ref 170), (.int 124 0), z0, (.ref 279), (.int 126 0), z0, (.ref 286), (.int 139 0), z0, (.ref 293), (.int 143 0), z0, (.ref 300), (.int 152 0), z0, (.ref 307), (.int 285 0), z0, (.ref 406), (.int 287 0), z0, (.ref 413), (.int 303 0), z0, (.ref 420), (.int 316 0), z0, (.ref 429), (.int 321 0), z0, (.ref 436), (.int 324 0), z0, (.ref 443), (.int 328 0), z0, (.ref 450), (.int 340 0), z0, (.ref 457), (.int 352 0), z0, (.ref 462), (.int 359 0), z0, (.ref 469)]), #[]⟩
abbrev O312 (P : Params) : Obj := ⟨(.type "dict"), none, (.dict #[(de P "__module__" 889 (.str "wasmcore.spaces" 838)), (de P "__qualname__" 891 (.str "Spaces" 890)), (de P "__firstlineno__" 893 (.int 359 892)), (de P "__init__" 901 (.ref 477)), (de P "bind" 911 (.ref 484)), (de P "index" 920 (.ref 491)), (de P "kind_index" 930 (.ref 498)), (de P "type_use" 946 (.ref 505)), (de P "params_many" 954 (.ref 512)), (de P "__static_attributes__" 958 (.ref 513))] 10), #[]⟩
noncomputable abbrev O313 (P : Params) : Obj := ⟨.none, none, (.fields #[(.int 361 0), (.int 4 0), (.ref 476), (.int 369 0), (.int 4 0), (.ref 483), (.int 378 0), (.int 4 0), (.ref 490), (.int 385 0), (.int 4 0), (.ref 497), (.int 393 0), (.int 4 0), (.ref 504), (.int 411 0), (.int 4 0), (.ref 511)]), #[]⟩
abbrev O314 (P : Params) : Obj := oC #[(.str "Spaces" 884), (.str "Spaces" 885), (cf 886), (.int 359 0), z0, z0, z0, z0, (.ref 467), (.bool false), (.int 181 0), (.ref 468), .none, .none, .none, .none, (.int 887 0), (.int 359 0), (cf 888)]
noncomputable abbrev O315 (P : Params) : Obj := ⟨(.type "frame"), none, .plain, #[(some (.ref 469)), (some (.ref 3)), (some (.ref 466)), none, (some (.str "wasmcore.spaces" 838)), none, (some (.ref 0))]⟩
abbrev O316 (P : Params) : Obj := oT #[(.str "self" 897), (.str "space" 898)]
abbrev F318 : FuncBody := fnM 49 0
abbrev D318 := fd "__init__" "Spaces.__init__" ⟨[], [⟨"self", none, ⟨361, 17, 361, 21⟩⟩], none, [], [], none, []⟩ F318 ⟨.function, [("self", .local), ("space", .local), ("SPACES", .globalImplicit)], false, false, []⟩
abbrev O317 (P : Params) : Obj := oF .none (D318 0 .none .none .none .none none .none .none 0)
abbrev O318 (P : Params) : Obj := oC #[(.str "__init__" 894), (.str "Spaces.__init__" 895), (cf 896), (.int 361 0), (.int 1 0), z0, z0, (.int 3 0), (.ref 471), (.bool true), (.int 181 0), (.ref 472), .none, (.ref 473), (.ref 474), (.ref 475), (.int 899 0), (.int 361 0), (cf 900)]
abbrev O319 (P : Params) : Obj := oF (.type "function") (D318 3 .none .none .none (.str "wasmcore.spaces" 838) none (.ref 476) .none 0)
abbrev O320 (P : Params) : Obj := oT #[(.str "self" 905), (.str "space" 906), (.str "token" 907), (.str "number" 908)]
abbrev F322 : FuncBody := fnM 49 1
abbrev D322 := fd "bind" "Spaces.bind" ⟨[], [⟨"self", none, ⟨369, 13, 369, 17⟩⟩, ⟨"space", none, ⟨369, 19, 369, 24⟩⟩, ⟨"token", none, ⟨369, 26, 369, 31⟩⟩], none, [], [], none, []⟩ F322 ⟨.function, [("self", .local), ("space", .local), ("token", .local), ("number", .local), ("BadText", .globalImplicit)], false, false, []⟩
abbrev O321 (P : Params) : Obj := oF .none (D322 0 .none .none .none .none none .none .none 0)
abbrev O322 (P : Params) : Obj := oC #[(.str "bind" 902), (.str "Spaces.bind" 903), (cf 904), (.int 369 0), (.int 3 0), z0, z0, (.int 3 0), (.ref 478), (.bool true), (.int 181 0), (.ref 479), .none, (.ref 480), (.ref 481), (.ref 482), (.int 909 0), (.int 369 0), (cf 910)]
abbrev O323 (P : Params) : Obj := oF (.type "function") (D322 3 .none .none .none (.str "wasmcore.spaces" 838) none (.ref 483) .none 0)
abbrev O324 (P : Params) : Obj := oT #[(.str "self" 915), (.str "space" 916), (.str "token" 917)]
abbrev F326 : FuncBody := fnM 49 2
abbrev D326 := fd "index" "Spaces.index" ⟨[], [⟨"self", none, ⟨378, 14, 378, 18⟩⟩, ⟨"space", none, ⟨378, 20, 378, 25⟩⟩, ⟨"token", none, ⟨378, 27, 378, 32⟩⟩], none, [], [], none, []⟩ F326 ⟨.function, [("self", .local), ("space", .local), ("token", .local), ("is_token_lexer", .globalImplicit), ("u32_of", .globalImplicit), ("BadText", .globalImplicit), ("SPACE_NAMES", .globalImplicit)], false, false, []⟩
abbrev O325 (P : Params) : Obj := oF .none (D326 0 .none .none .none .none none .none .none 0)
abbrev O326 (P : Params) : Obj := oC #[(.str "index" 912), (.str "Spaces.index" 913), (cf 914), (.int 378 0), (.int 3 0), z0, z0, (.int 3 0), (.ref 485), (.bool true), (.int 181 0), (.ref 486), .none, (.ref 487), (.ref 488), (.ref 489), (.int 918 0), (.int 378 0), (cf 919)]
abbrev O327 (P : Params) : Obj := oF (.type "function") (D326 3 .none .none .none (.str "wasmcore.spaces" 838) none (.ref 490) .none 0)
abbrev O328 (P : Params) : Obj := oT #[(.str "self" 924), (.str "kind" 925), (.str "number" 926), (.str "other" 927)]
abbrev F330 : FuncBody := fnM 49 3
abbrev D330 := fd "kind_index" "Spaces.kind_index" ⟨[], [⟨"self", none, ⟨385, 19, 385, 23⟩⟩, ⟨"kind", none, ⟨385, 25, 385, 29⟩⟩], none, [], [], none, []⟩ F330 ⟨.function, [("self", .local), ("kind", .local), ("number", .local), ("other", .local), ("enumerate", .globalImplicit), ("len", .globalImplicit)], false, false, []⟩
abbrev O329 (P : Params) : Obj := oF .none (D330 0 .none .none .none .none none .none .none 0)
abbrev O330 (P : Params) : Obj := oC #[(.str "kind_index" 921), (.str "Spaces.kind_index" 922), (cf 923), (.int 385 0), (.int 2 0), z0, z0, (.int 3 0), (.ref 492), (.bool true), (.int 181 0), (.ref 493), .none, (.ref 494), (.ref 495), (.ref 496), (.int 928 0), (.int 385 0), (cf 929)]
abbrev O331 (P : Params) : Obj := oF (.type "function") (D330 3 .none .none .none (.str "wasmcore.spaces" 838) none (.ref 497) .none 0)
abbrev O332 (P : Params) : Obj := oT #[(.str "self" 934), (.str "items" 935), (.str "at" 936), (.str "row" 937), (.str "column" 938), (.str "walk" 939), (.str "ids" 940), (.str "told" 941), (.str "inner" 942), (.str "kind" 943)]
abbrev F334 : FuncBody := fnM 49 4
abbrev D334 := fd "type_use" "Spaces.type_use" ⟨[], [⟨"self", none, ⟨393, 17, 393, 21⟩⟩, ⟨"items", none, ⟨393, 23, 393, 28⟩⟩, ⟨"at", none, ⟨393, 30, 393, 32⟩⟩], none, [], [], none, []⟩ F334 ⟨.function, [("self", .local), ("items", .local), ("at", .local), ("row", .local), ("column", .local), ("walk", .local), ("ids", .local), ("told", .local), ("inner", .local), ("kind", .local), ("len", .globalImplicit), ("Items", .globalImplicit), ("walk_of", .globalImplicit), ("signature_in", .globalImplicit), ("BadText", .globalImplicit), ("str", .globalImplicit)], false, false, []⟩
abbrev O333 (P : Params) : Obj := oF .none (D334 0 .none .none .none .none none .none .none 0)
abbrev O334 (P : Params) : Obj := oC #[(.str "type_use" 931), (.str "Spaces.type_use" 932), (cf 933), (.int 393 0), (.int 3 0), z0, z0, (.int 3 0), (.ref 499), (.bool true), (.int 181 0), (.ref 500), .none, (.ref 501), (.ref 502), (.ref 503), (.int 944 0), (.int 393 0), (cf 945)]
abbrev O335 (P : Params) : Obj := oF (.type "function") (D334 3 .none .none .none (.str "wasmcore.spaces" 838) none (.ref 504) .none 0)
abbrev O336 (P : Params) : Obj := oT #[(.str "self" 950), (.str "number" 951)]
abbrev F338 : FuncBody := fnM 49 5
abbrev D338 := fd "params_many" "Spaces.params_many" ⟨[], [⟨"self", none, ⟨411, 20, 411, 24⟩⟩, ⟨"number", none, ⟨411, 26, 411, 32⟩⟩], none, [], [], none, []⟩ F338 ⟨.function, [("self", .local), ("number", .local), ("len", .globalImplicit)], false, false, []⟩
abbrev O337 (P : Params) : Obj := oF .none (D338 0 .none .none .none .none none .none .none 0)
abbrev O338 (P : Params) : Obj := oC #[(.str "params_many" 947), (.str "Spaces.params_many" 948), (cf 949), (.int 411 0), (.int 2 0), z0, z0, (.int 3 0), (.ref 506), (.bool true), (.int 181 0), (.ref 507), .none, (.ref 508), (.ref 509), (.ref 510), (.int 952 0), (.int 411 0), (cf 953)]
abbrev O339 (P : Params) : Obj := oF (.type "function") (D338 3 .none .none .none (.str "wasmcore.spaces" 838) none (.ref 511) .none 0)
abbrev O340 (P : Params) : Obj := oT #[(.str "ids" 955), (.str "kinds" 956), (.str "many" 957)]
abbrev O341 (P : Params) : Obj := ⟨(.type "dict"), none, (.dict #[(de P "__module__" 889 (.str "wasmcore.spaces" 838)), (de P "__firstlineno__" 893 (.int 359 892)), (de P "__init__" 901 (.ref 477)), (de P "bind" 911 (.ref 484)), (de P "index" 920 (.ref 491)), (de P "kind_index" 930 (.ref 498)), (de P "type_use" 946 (.ref 505)), (de P "params_many" 954 (.ref 512)), (de P "__static_attributes__" 958 (.ref 513)), (de P "__dict__" 960 (.ref 516)), (de P "__weakref__" 962 (.ref 517)), (de P "__doc__" 963 .none)] 4), #[]⟩
noncomputable abbrev O342 (P : Params) : Obj := ⟨(.type "type"), none, (.cls ⟨"Spaces", [(.type "object")], [(.ref 515), (.type "object")], 514, "Spaces", true, [], [], false, none, false⟩), #[none, none, (some (.str "Spaces" 882)), (some (.str "Spaces" 890)), (some (.builtin "object.__new__")), (some (.bool true))]⟩
noncomputable abbrev O343 (P : Params) : Obj := ⟨(.type "getset_descriptor"), none, (.fields #[(.str "__dict__" 959), (.ref 515), (.builtin "function.__dict__"), (.builtin "function.__dict__#set")]), #[]⟩
noncomputable abbrev O344 (P : Params) : Obj := ⟨(.type "getset_descriptor"), none, (.fields #[(.str "__weakref__" 961), (.ref 515), (.builtin "ExceptionGroup.__weakref__"), .none]), #[]⟩
noncomputable abbrev O345 (P : Params) : Obj := ⟨(.type "super"), none, (.fields #[(.ref 515), (.ref 515), (.ref 515)]), #[]⟩
noncomputable abbrev O346 (P : Params) : Obj := ⟨(.type "builtin_function_or_method"), none, (.fields #[(.builtin "object.__init_subclass__"), (.ref 515)]), #[]⟩
def T12 : Params → BT := (nd boot_o_0 (nd boot_o_1 (nd O310 (nd boot_o_7 (nd O0 (nd O17 (nd O47 (nd O97 (nd O173 (lf O338) nl) (lf O0)) (nd O138 (lf O0) (lf O298))) (nd O0 (nd O1 (lf O197) (lf O0)) (nd O156 (lf O236) (lf O1)))) (nd O33 (nd O59 (nd O107 (lf O185) (lf O266)) (nd O146 (lf O226) (lf O309))) (nd O82 (nd O0 (lf O12) (lf O0)) (nd O0 (lf O1) (lf O0))))) (nd O12 (nd O24 (nd O0 (nd O0 (nd O0 (lf O346) nl) (lf O258)) (nd O142 (lf O221) (lf O1))) (nd O0 (nd O124 (lf O0) (lf O283)) (nd O113 (lf O0) (lf O324)))) (nd O38 (nd O0 (nd O1 (lf O192) (lf O273)) (nd O151 (lf O231) (lf O0))) (nd O90 (nd O133 (lf O212) (lf O1)) (nd O1 (lf O249) (lf O333)))))) (nd O0 (nd O8 (nd O20 (nd O50 (nd O0 (nd O176 (lf O342) nl) (lf O0)) (nd O1 (lf O0) (lf O301))) (nd O76 (nd O120 (lf O0) (lf O279)) (nd O0 (lf O0) (lf O322)))) (nd O35 (nd O0 (nd O111 (lf O1) (lf O270)) (nd O1 (lf O1) (lf O0))) (nd O86 (nd O0 (lf O210) (lf O289)) (nd O166 (lf O247) (lf O0))))) (nd O15 (nd O12 (nd O55 (nd O103 (lf O181) (lf O262)) (nd O1 (lf O1) (lf O0))) (nd O0 (nd O127 (lf O203) (lf O0)) (nd O0 (lf O242) (lf O327)))) (nd O42 (nd O69 (nd O116 (lf O194) (lf O0)) (nd O153 (lf O233) (lf O317))) (nd O94 (nd O1 (lf O215) (lf O294)) (nd O171 (lf O252) (lf O1))))))) (nd boot_o_5 (nd boot_o_9 (nd O7 (nd O18 (nd O48 (nd O1 (nd O174 (lf O340) nl) (lf O255)) (nd O113 (lf O218) (lf O299))) (nd O72 (nd O0 (lf O1) (lf O278)) (nd O1 (lf O1) (lf O0)))) (nd O0 (nd O12 (nd O109 (lf O187) (lf O0)) (nd O148 (lf O228) (lf O12))) (nd O84 (nd O130 (lf O0) (lf O288)) (nd O165 (lf O0) (lf O330))))) (nd O0 (nd O26 (nd O53 (nd O102 (lf O179) (lf O260)) (nd O113 (lf O223) (lf O305))) (nd O79 (nd O125 (lf O202) (lf O1)) (nd O1 (lf O241) (lf O325)))) (nd O40 (nd O67 (nd O0 (lf O0) (lf O1)) (nd O0 (lf O0) (lf O316))) (nd O0 (nd O135 (lf O213) (lf O0)) (nd O0 (lf O250) (lf O335)))))) (nd O2 (nd O10 (nd O22 (nd O1 (nd O100 (nd O1 (lf O344) nl) (lf O257)) (nd O0 (lf O220) (lf O303))) (nd O12 (nd O0 (lf O200) (lf O281)) (nd O159 (lf O239) (lf O0)))) (nd O36 (nd O64 (nd O113 (lf O0) (lf O271)) (nd O0 (lf O0) (lf O314))) (nd O88 (nd O132 (lf O0) (lf O291)) (nd O168 (lf O0) (lf O332))))) (nd O0 (nd O0 (nd O57 (nd O105 (lf O183) (lf O264)) (nd O0 (lf O0) (lf O307))) (nd O81 (nd O1 (lf O205) (lf O286)) (nd O163 (lf O244) (lf O1)))) (nd O30 (nd O1 (nd O113 (lf O195) (lf O276)) (nd O154 (lf O234) (lf O319))) (nd O95 (nd O0 (lf O1) (lf O0)) (nd O0 (lf O1) (lf O0)))))))) (nd O4 (nd boot_o_4 (nd boot_o_8 (nd O1 (nd O0 (nd O0 (nd O0 (nd O0 (lf O339) nl) (lf O254)) (nd O139 (lf O217) (lf O0))) (nd O71 (nd O118 (lf O0) (lf O1)) (nd O0 (lf O0) (lf O320)))) (nd O34 (nd O30 (nd O108 (lf O186) (lf O267)) (nd O147 (lf O227) (lf O0))) (nd O83 (nd O129 (lf O208) (lf O1)) (nd O1 (lf O245) (lf O329))))) (nd O13 (nd O25 (nd O52 (nd O1 (lf O178) (lf O259)) (nd O143 (lf O222) (lf O304))) (nd O78 (nd O0 (lf O1) (lf O0)) (nd O0 (lf O1) (lf O0)))) (nd O39 (nd O66 (nd O114 (lf O193) (lf O0)) (nd O152 (lf O232) (lf O1))) (nd O91 (nd O134 (lf O0) (lf O292)) (nd O169 (lf O0) (lf O334)))))) (nd O311 (nd O9 (nd O21 (nd O0 (nd O99 (nd O0 (lf O343) nl) (lf O1)) (nd O140 (lf O1) (lf O302))) (nd O0 (nd O121 (lf O199) (lf O280)) (nd O158 (lf O238) (lf O323)))) (nd O0 (nd O1 (nd O112 (lf O190) (lf O0)) (nd O149 (lf O229) (lf O313))) (nd O87 (nd O1 (lf O211) (lf O290)) (nd O167 (lf O248) (lf O1))))) (nd O16 (nd O31 (nd O56 (nd O104 (lf O182) (lf O263)) (nd O144 (lf O224) (lf O1))) (nd O1 (nd O0 (lf O204) (lf O285)) (nd O162 (lf O243) (lf O0)))) (nd O43 (nd O0 (nd O117 (lf O0) (lf O275)) (nd O0 (lf O0) (lf O318))) (nd O0 (nd O136 (lf O0) (lf O295)) (nd O172 (lf O0) (lf O336))))))) (nd boot_o_6 (nd boot_o_10 (nd O0 (nd O19 (nd O49 (nd O98 (nd O175 (lf O341) nl) (lf O256)) (nd O0 (lf O219) (lf O300))) (nd O73 (nd O119 (lf O198) (lf O0)) (nd O157 (lf O237) (lf O321)))) (nd O1 (nd O63 (nd O110 (lf O0) (lf O1)) (nd O0 (lf O0) (lf O312))) (nd O85 (nd O131 (lf O209) (lf O0)) (nd O0 (lf O246) (lf O331))))) (nd O14 (nd O30 (nd O54 (nd O0 (lf O180) (lf O261)) (nd O0 (lf O0) (lf O306))) (nd O80 (nd O126 (lf O0) (lf O284)) (nd O161 (lf O0) (lf O326)))) (nd O41 (nd O68 (nd O115 (lf O1) (lf O274)) (nd O1 (lf O1) (lf O0))) (nd O12 (nd O0 (lf O214) (lf O293)) (nd O170 (lf O251) (lf O0)))))) (nd O3 (nd O11 (nd O62 (nd O51 (nd O101 (nd O177 (lf O345) nl) (lf O0)) (nd O141 (lf O0) (lf O0))) (nd O77 (nd O12 (lf O201) (lf O282)) (nd O160 (lf O240) (lf O1)))) (nd O37 (nd O65 (nd O0 (lf O191) (lf O272)) (nd O150 (lf O230) (lf O315))) (nd O89 (nd O0 (lf O1) (lf O0)) (nd O0 (lf O1) (lf O0))))) (nd O1 (nd O32 (nd O58 (nd O106 (lf O184) (lf O265)) (nd O145 (lf O225) (lf O308))) (nd O0 (nd O128 (lf O0) (lf O287)) (nd O164 (lf O0) (lf O328)))) (nd O12 (nd O70 (nd O0 (lf O196) (lf O277)) (nd O155 (lf O235) (lf O0))) (nd O96 (nd O137 (lf O216) (lf O1)) (nd O1 (lf O253) (lf O337)))))))))
def S12 (w : World) (os : OsState) : SharedT := ⟨T12 w.params, 520, ⟨[], [], [], 0, [], [], false, #[], [], 0, false, false, false, 0, [2000, 10, 10], false, 0, true, [], [], 0, false⟩, ⟨[]⟩, ⟨0, 0, 0, 0⟩, 966, os⟩
abbrev O347 (P : Params) : Obj := ⟨(.type "dict"), none, (.dict #[(de P "__name__" 165 (.str "law_nm0149_01" 966)), (de P "__doc__" 166 .none), (de P "__package__" 167 .none), (de P "__loader__" 168 (.builtin "__main__.__loader__#opaque")), (de P "__spec__" 169 .none), (de P "__annotations__" 170 (.ref 6)), (de P "__builtins__" 171 (.ref 4)), (de P "__file__" 173 (cf 172)), (de P "__cached__" 174 .none), (de P "_wall" 193 (.ref 21)), (de P "WasmFault" 224 (.ref 38)), (de P "BadText" 252 (.ref 58)), (de P "LeftOut" 278 (.ref 77)), (de P "Misused" 294 (.ref 89)), (de P "utf8_of" 306 (.ref 98)), (de P "DIGITS" 310 (.str "0123456789" 309)), (de P "HEX_DIGITS" 312 (.str "0123456789abcdefABCDEF" 311)), (de P "SMALL_LETTERS" 314 (.str "abcdefghijklmnopqrstuvwxyz" 313)), (de P "GREAT_LETTERS" 316 (.str "ABCDEFGHIJKLMNOPQRSTUVWXYZ" 315)), (de P "ID_SIGNS" 321 (.str "0123456789abcdefghijklmnopqrstuvwxyzABCDEFGHIJKLMNOPQRSTUVWXYZ!#$%&'*+-./:<=>?@\\^_`|~" 320)), (de P "LONE_SIGNS" 323 (.str ",;[]{}" 322)), (de P "BLANKS" 325 (.str " \t\n\x0d" 324)), (de P "ESCAPES" 344 (.ref 99)), (de P "Token" 381 (.ref 116)), (de P "Branch" 422 (.ref 144)), (de P "is_branch" 430 (.ref 156)), (de P "is_branch_lexer" 431 (.ref 156)), (de P "is_token" 440 (.ref 164)), (de P "is_token_lexer" 441 (.ref 164)), (de P "Items" 569 (.ref 269)), (de P "walk_of" 576 (.ref 280)), (de P "whole_of" 588 (.ref 287)), (de P "number_in" 597 (.ref 294)), (de P "sorted_word" 605 (.ref 301)), (de P "Lexer" 742 (.ref 396)), (de P "tokens" 749 (.ref 407)), (de P "trees" 761 (.ref 414)), (de P "u32_of" 768 (.ref 421)), (de P "I32" 773 (.int (-1) 772)), (de P "I64" 776 (.int (-2) 775)), (de P "FUNCREF" 779 (.int (-16) 778)), (de P "EXTERNREF" 782 (.int (-17) 781)), (de P "KIND_NAMES" 791 (.ref 422)), (de P "LEFT_NAMES" 804 (.ref 423)), (de P "kind_of" 812 (.ref 430)), (de P "is_left_name" 819 (.ref 437)), (de P "refuse" 829 (.ref 444)), (de P "value_kind" 837 (.ref 451)), (de P "SPACES" 847 (.ref 452)), (de P "SPACE_NAMES" 869 (.ref 453)), (de P "kinds_in" 875 (.ref 458)), (de P "signature_in" 881 (.ref 463)), (de P "Spaces" 965 (.ref 515)), (de P "_law_digit" 975 (.ref 526)), (de P "_law_kinds" 981 (.ref 533)), (de P "_law_right" 987 (.ref 540)), (de P "_law_wrong" 993 (.ref 547)), (de P "_law_spaces" 1002 (.ref 554)), (de P "_law_place" 1010 (.ref 561)), (de P "_law_told" 1021 (.ref 568)), (de P "_law_many_right" 1027 (.ref 573)), (de P "law" 1033 (.ref 578))] 62), #[]⟩
abbrev O348 (P : Params) : Obj := ⟨.none, none, (.fields #[(.int 1 0), z0, (.ref 20), (.int 5 0), z0, (.ref 27), (.int 10 0), z0, (.ref 47), (.int 16 0), z0, (.ref 66), (.int 21 0), z0, (.ref 85), (.int 24 0), z0, (.ref 97), (.int 48 0), z0, (.ref 105), (.int 56 0), z0, (.ref 126), (.int 66 0), z0, (.ref 155), (.int 69 0), z0, (.ref 163), (.int 72 0), z0, (.ref 170), (.int 124 0), z0, (.ref 279), (.int 126 0), z0, (.ref 286), (.int 139 0), z0, (.ref 293), (.int 143 0), z0, (.ref 300), (.int 152 0), z0, (.ref 307), (.int 285 0), z0, (.ref 406), (.int 287 0), z0, (.ref 413), (.int 303 0), z0, (.ref 420), (.int 316 0), z0, (.ref 429), (.int 321 0), z0, (.ref 436), (.int 324 0), z0, (.ref 443), (.int 328 0), z0, (.ref 450), (.int 340 0), z0, (.ref 457), (.int 352 0), z0, (.ref 462), (.int 359 0), z0, (.ref 469), (.int 414 0), z0, (.ref 525), (.int 416 0), z0, (.ref 532), (.int 418 0), z0, (.ref 539), (.int 420 0), z0, (.ref 546), (.int 422 0), z0, (.ref 553), (.int 428 0), z0, (.ref 560), (.int 431 0), z0, (.ref 567), (.int 437 0), z0, (.ref 572), (.int 443 0), z0, (.ref 577)]), #[]⟩
abbrev O349 (P : Params) : Obj := oT #[(.str "script" 971), (.str "at" 972)]
abbrev F351 : FuncBody := fnB 51
abbrev D351 := fd "_law_digit" "_law_digit" ⟨[], [⟨"script", none, ⟨414, 15, 414, 21⟩⟩, ⟨"at", none, ⟨414, 23, 414, 25⟩⟩], none, [], [], none, []⟩ F351 ⟨.function, [("script", .local), ("at", .local), ("len", .globalImplicit)], false, false, []⟩
abbrev O350 (P : Params) : Obj := oF .none (D351 0 .none .none .none .none none .none .none 0)
abbrev O351 (P : Params) : Obj := oC #[(.str "_law_digit" 968), (.str "_law_digit" 969), (cf 970), (.int 414 0), (.int 2 0), z0, z0, (.int 3 0), (.ref 520), (.bool true), (.int 181 0), (.ref 521), .none, (.ref 522), (.ref 523), (.ref 524), (.int 973 0), (.int 414 0), (cf 974)]
abbrev O352 (P : Params) : Obj := oF (.type "function") (D351 3 .none .none .none (.str "law_nm0149_01" 966) none (.ref 525) .none 0)
abbrev F354 : FuncBody := fnB 52
abbrev D354 := fd "_law_kinds" "_law_kinds" ⟨[], [], none, [], [], none, []⟩ F354 ⟨.function, [], false, false, []⟩
abbrev O353 (P : Params) : Obj := oF .none (D354 0 .none .none .none .none none .none .none 0)
abbrev O354 (P : Params) : Obj := oC #[(.str "_law_kinds" 976), (.str "_law_kinds" 977), (cf 978), (.int 416 0), z0, z0, z0, (.int 3 0), (.ref 527), (.bool true), (.int 181 0), (.ref 528), .none, (.ref 529), (.ref 530), (.ref 531), (.int 979 0), (.int 416 0), (cf 980)]
abbrev O355 (P : Params) : Obj := oF (.type "function") (D354 3 .none .none .none (.str "law_nm0149_01" 966) none (.ref 532) .none 0)
abbrev F357 : FuncBody := fnB 53
abbrev D357 := fd "_law_right" "_law_right" ⟨[], [], none, [], [], none, []⟩ F357 ⟨.function, [], false, false, []⟩
abbrev O356 (P : Params) : Obj := oF .none (D357 0 .none .none .none .none none .none .none 0)
abbrev O357 (P : Params) : Obj := oC #[(.str "_law_right" 982), (.str "_law_right" 983), (cf 984), (.int 418 0), z0, z0, z0, (.int 3 0), (.ref 534), (.bool true), (.int 181 0), (.ref 535), .none, (.ref 536), (.ref 537), (.ref 538), (.int 985 0), (.int 418 0), (cf 986)]
abbrev O358 (P : Params) : Obj := oF (.type "function") (D357 3 .none .none .none (.str "law_nm0149_01" 966) none (.ref 539) .none 0)
abbrev F360 : FuncBody := fnB 54
abbrev D360 := fd "_law_wrong" "_law_wrong" ⟨[], [], none, [], [], none, []⟩ F360 ⟨.function, [], false, false, []⟩
abbrev O359 (P : Params) : Obj := oF .none (D360 0 .none .none .none .none none .none .none 0)
abbrev O360 (P : Params) : Obj := oC #[(.str "_law_wrong" 988), (.str "_law_wrong" 989), (cf 990), (.int 420 0), z0, z0, z0, (.int 3 0), (.ref 541), (.bool true), (.int 181 0), (.ref 542), .none, (.ref 543), (.ref 544), (.ref 545), (.int 991 0), (.int 420 0), (cf 992)]
abbrev O361 (P : Params) : Obj := oF (.type "function") (D360 3 .none .none .none (.str "law_nm0149_01" 966) none (.ref 546) .none 0)
abbrev O362 (P : Params) : Obj := oT #[(.str "spaces" 997), (.str "word" 998), (.str "kind" 999)]
abbrev F364 : FuncBody := fnB 55
abbrev D364 := fd "_law_spaces" "_law_spaces" ⟨[], [], none, [], [], none, []⟩ F364 ⟨.function, [("spaces", .local), ("word", .local), ("kind", .local), ("Spaces", .globalImplicit), ("zip", .globalImplicit), ("_law_kinds", .globalImplicit), ("trees", .globalImplicit)], false, false, []⟩
abbrev O363 (P : Params) : Obj := oF .none (D364 0 .none .none .none .none none .none .none 0)
abbrev O364 (P : Params) : Obj := oC #[(.str "_law_spaces" 994), (.str "_law_spaces" 995), (cf 996), (.int 422 0), z0, z0, z0, (.int 3 0), (.ref 548), (.bool true), (.int 181 0), (.ref 549), .none, (.ref 550), (.ref 551), (.ref 552), (.int 1000 0), (.int 422 0), (cf 1001)]
abbrev O365 (P : Params) : Obj := oF (.type "function") (D364 3 .none .none .none (.str "law_nm0149_01" 966) none (.ref 553) .none 0)
abbrev O366 (P : Params) : Obj := oT #[(.str "text" 1006), (.str "ahead" 1007)]
abbrev F368 : FuncBody := fnB 56
abbrev D368 := fd "_law_place" "_law_place" ⟨[], [⟨"text", none, ⟨428, 15, 428, 19⟩⟩], none, [], [], none, []⟩ F368 ⟨.function, [("text", .local), ("ahead", .local), ("len", .globalImplicit)], false, false, []⟩
abbrev O367 (P : Params) : Obj := oF .none (D368 0 .none .none .none .none none .none .none 0)
abbrev O368 (P : Params) : Obj := oC #[(.str "_law_place" 1003), (.str "_law_place" 1004), (cf 1005), (.int 428 0), (.int 1 0), z0, z0, (.int 3 0), (.ref 555), (.bool true), (.int 181 0), (.ref 556), .none, (.ref 557), (.ref 558), (.ref 559), (.int 1008 0), (.int 428 0), (cf 1009)]
abbrev O369 (P : Params) : Obj := oF (.type "function") (D368 3 .none .none .none (.str "law_nm0149_01" 966) none (.ref 560) .none 0)
abbrev O370 (P : Params) : Obj := oT #[(.str "spaces" 1014), (.str "text" 1015), (.str "at" 1016), (.str "items" 1017), (.str "fault" 1018)]
abbrev F372 : FuncBody := fnB 57
abbrev D372 := fd "_law_told" "_law_told" ⟨[], [⟨"spaces", none, ⟨431, 14, 431, 20⟩⟩, ⟨"text", none, ⟨431, 22, 431, 26⟩⟩, ⟨"at", none, ⟨431, 28, 431, 30⟩⟩], none, [], [], none, []⟩ F372 ⟨.function, [("spaces", .local), ("text", .local), ("at", .local), ("items", .local), ("fault", .local), ("trees", .globalImplicit), ("BadText", .globalImplicit)], false, false, []⟩
abbrev O371 (P : Params) : Obj := oF .none (D372 0 .none .none .none .none none .none .none 0)
abbrev O372 (P : Params) : Obj := oC #[(.str "_law_told" 1011), (.str "_law_told" 1012), (cf 1013), (.int 431 0), (.int 3 0), z0, z0, (.int 3 0), (.ref 562), (.bool true), (.int 181 0), (.ref 563), .none, (.ref 564), (.ref 565), (.ref 566), (.int 1019 0), (.int 431 0), (cf 1020)]
abbrev O373 (P : Params) : Obj := oF (.type "function") (D372 3 .none .none .none (.str "law_nm0149_01" 966) none (.ref 567) .none 0)
abbrev F375 : FuncBody := fnB 58
abbrev D375 := fd "_law_many_right" "_law_many_right" ⟨[], [⟨"spaces", none, ⟨437, 20, 437, 26⟩⟩, ⟨"kinds", none, ⟨437, 28, 437, 33⟩⟩], none, [], [], none, []⟩ F375 ⟨.function, [("spaces", .cell), ("kinds", .local), ("len", .globalImplicit), ("range", .globalImplicit)], false, false, [("fast", (.str "spaces")), ("fast", (.str "kinds")), ("fast", (.str "number")), ("fast", (.str "kind"))]⟩
abbrev O374 (P : Params) : Obj := oF .none (D375 0 .none .none .none .none none .none .none 0)
abbrev O375 (P : Params) : Obj := oC #[(.str "_law_many_right" 1022), (.str "_law_many_right" 1023), (cf 1024), (.int 437 0), (.int 2 0), z0, z0, (.int 3 0), (.ref 569), (.bool true), (.int 181 0), (.ref 570), .none, .none, .none, (.ref 571), (.int 1025 0), (.int 437 0), (cf 1026)]
abbrev O376 (P : Params) : Obj := oF (.type "function") (D375 3 .none .none .none (.str "law_nm0149_01" 966) none (.ref 572) .none 0)
abbrev F378 : FuncBody := fnB 59
abbrev D378 := fd "law" "law" ⟨[], [⟨"script", none, ⟨443, 8, 443, 14⟩⟩], none, [], [], none, []⟩ F378 ⟨.function, [("script", .local), ("words", .local), ("rows", .local), ("first", .local), ("step", .local), ("k", .local), ("due", .local), ("kind", .local), ("digit", .local), ("at", .local), ("text", .local), ("spaces", .local), ("_law_right", .globalImplicit), ("_law_wrong", .globalImplicit), ("_law_digit", .globalImplicit), ("range", .globalImplicit), ("isinstance", .globalImplicit), ("str", .globalImplicit), ("_law_place", .globalImplicit), ("_law_spaces", .globalImplicit), ("_law_told", .globalImplicit), ("_law_many_right", .globalImplicit), ("_law_kinds", .globalImplicit)], false, false, [("fast", (.str "script")), ("fast", (.str "words")), ("fast", (.str "why")), ("fast", (.str "rows")), ("fast", (.str "first")), ("fast", (.str "step")), ("fast", (.str "k")), ("fast", (.str "due")), ("fast", (.str "kind")), ("fast", (.str "digit")), ("fast", (.str "at")), ("fast", (.str "text")), ("fast", (.str "spaces"))]⟩
abbrev O377 (P : Params) : Obj := oF .none (D378 0 .none .none .none .none none .none .none 0)
abbrev O378 (P : Params) : Obj := oC #[(.str "law" 1028), (.str "law" 1029), (cf 1030), (.int 443 0), (.int 1 0), z0, z0, (.int 3 0), (.ref 574), (.bool true), (.int 181 0), (.ref 575), .none, .none, .none, (.ref 576), (.int 1031 0), (.int 443 0), (cf 1032)]
abbrev O379 (P : Params) : Obj := oF (.type "function") (D378 3 .none .none .none (.str "law_nm0149_01" 966) none (.ref 577) .none 0)
def T13 : Params → BT := (nd boot_o_0 (nd boot_o_1 (nd O347 (nd boot_o_7 (nd O0 (nd O17 (nd O47 (nd O97 (nd O173 (lf O338) nl) (lf O0)) (nd O138 (nd O0 (lf O1) nl) (lf O298))) (nd O0 (nd O1 (nd O197 (lf O0) nl) (lf O0)) (nd O156 (lf O236) (lf O1)))) (nd O33 (nd O59 (nd O107 (nd O185 (lf O0) nl) (lf O266)) (nd O146 (lf O226) (lf O309))) (nd O82 (nd O0 (nd O12 (lf O367) nl) (lf O0)) (nd O0 (lf O1) (lf O0))))) (nd O12 (nd O24 (nd O0 (nd O0 (nd O0 (lf O346) nl) (lf O258)) (nd O142 (lf O221) (lf O1))) (nd O0 (nd O124 (nd O0 (lf O0) nl) (lf O283)) (nd O113 (lf O0) (lf O324)))) (nd O38 (nd O0 (nd O1 (nd O192 (lf O1) nl) (lf O273)) (nd O151 (lf O231) (lf O0))) (nd O90 (nd O133 (nd O212 (lf O372) nl) (lf O1)) (nd O1 (lf O249) (lf O333)))))) (nd O0 (nd O8 (nd O20 (nd O50 (nd O0 (nd O176 (lf O342) nl) (lf O0)) (nd O1 (lf O0) (lf O301))) (nd O76 (nd O120 (nd O0 (lf O361) nl) (lf O279)) (nd O0 (lf O0) (lf O322)))) (nd O35 (nd O0 (nd O111 (nd O1 (lf O353) nl) (lf O270)) (nd O1 (lf O1) (lf O0))) (nd O86 (nd O0 (nd O210 (lf O1) nl) (lf O289)) (nd O166 (lf O247) (lf O0))))) (nd O15 (nd O12 (nd O55 (nd O103 (nd O181 (lf O0) nl) (lf O262)) (nd O1 (lf O1) (lf O0))) (nd O0 (nd O127 (nd O203 (lf O0) nl) (lf O0)) (nd O0 (lf O242) (lf O327)))) (nd O42 (nd O69 (nd O116 (nd O194 (lf O357) nl) (lf O0)) (nd O153 (lf O233) (lf O317))) (nd O94 (nd O1 (nd O215 (lf O374) nl) (lf O294)) (nd O171 (lf O252) (lf O1))))))) (nd boot_o_5 (nd boot_o_9 (nd O7 (nd O18 (nd O48 (nd O1 (nd O174 (lf O340) nl) (lf O255)) (nd O113 (nd O218 (lf O378) nl) (lf O299))) (nd O72 (nd O0 (nd O1 (lf O359) nl) (lf O278)) (nd O1 (lf O1) (lf O0)))) (nd O0 (nd O12 (nd O109 (nd O187 (lf O0) nl) (lf O0)) (nd O148 (lf O228) (lf O12))) (nd O84 (nd O130 (nd O0 (lf O369) nl) (lf O288)) (nd O165 (lf O0) (lf O330))))) (nd O0 (nd O26 (nd O53 (nd O102 (nd O179 (lf O1) nl) (lf O260)) (nd O113 (lf O223) (lf O305))) (nd O79 (nd O125 (nd O202 (lf O364) nl) (lf O1)) (nd O1 (lf O241) (lf O325)))) (nd O40 (nd O67 (nd O0 (nd O0 (lf O0) nl) (lf O1)) (nd O0 (lf O0) (lf O316))) (nd O0 (nd O135 (nd O213 (lf O0) nl) (lf O0)) (nd O0 (lf O250) (lf O335)))))) (nd O2 (nd O10 (nd O22 (nd O1 (nd O100 (nd O1 (lf O344) nl) (lf O257)) (nd O0 (lf O220) (lf O303))) (nd O12 (nd O0 (nd O200 (lf O1) nl) (lf O281)) (nd O159 (lf O239) (lf O0)))) (nd O36 (nd O64 (nd O113 (nd O0 (lf O355) nl) (lf O271)) (nd O0 (lf O0) (lf O314))) (nd O88 (nd O132 (nd O0 (lf O0) nl) (lf O291)) (nd O168 (lf O0) (lf O332))))) (nd O0 (nd O0 (nd O57 (nd O105 (nd O183 (lf O351) nl) (lf O264)) (nd O0 (lf O0) (lf O307))) (nd O81 (nd O1 (nd O205 (lf O366) nl) (lf O286)) (nd O163 (lf O244) (lf O1)))) (nd O30 (nd O1 (nd O113 (nd O195 (lf O0) nl) (lf O276)) (nd O154 (lf O234) (lf O319))) (nd O95 (nd O0 (nd O1 (lf O376) nl) (lf O0)) (nd O0 (lf O1) (lf O0)))))))) (nd O4 (nd boot_o_4 (nd boot_o_8 (nd O1 (nd O0 (nd O0 (nd O0 (nd O0 (lf O339) nl) (lf O254)) (nd O139 (nd O217 (lf O377) nl) (lf O0))) (nd O71 (nd O118 (nd O0 (lf O0) nl) (lf O1)) (nd O0 (lf O0) (lf O320)))) (nd O34 (nd O30 (nd O108 (nd O186 (lf O1) nl) (lf O267)) (nd O147 (lf O227) (lf O0))) (nd O83 (nd O129 (nd O208 (lf O368) nl) (lf O1)) (nd O1 (lf O245) (lf O329))))) (nd O13 (nd O25 (nd O52 (nd O1 (nd O178 (lf O0) nl) (lf O259)) (nd O143 (lf O222) (lf O304))) (nd O78 (nd O0 (nd O1 (lf O363) nl) (lf O0)) (nd O0 (lf O1) (lf O0)))) (nd O39 (nd O66 (nd O114 (nd O193 (lf O0) nl) (lf O0)) (nd O152 (lf O232) (lf O1))) (nd O91 (nd O134 (nd O0 (lf O373) nl) (lf O292)) (nd O169 (lf O0) (lf O334)))))) (nd O348 (nd O9 (nd O21 (nd O0 (nd O99 (nd O0 (lf O343) nl) (lf O1)) (nd O140 (lf O1) (lf O302))) (nd O0 (nd O121 (nd O199 (lf O0) nl) (lf O280)) (nd O158 (lf O238) (lf O323)))) (nd O0 (nd O1 (nd O112 (nd O190 (lf O354) nl) (lf O0)) (nd O149 (lf O229) (lf O313))) (nd O87 (nd O1 (nd O211 (lf O370) nl) (lf O290)) (nd O167 (lf O248) (lf O1))))) (nd O16 (nd O31 (nd O56 (nd O104 (nd O182 (lf O350) nl) (lf O263)) (nd O144 (lf O224) (lf O1))) (nd O1 (nd O0 (nd O204 (lf O1) nl) (lf O285)) (nd O162 (lf O243) (lf O0)))) (nd O43 (nd O0 (nd O117 (nd O0 (lf O358) nl) (lf O275)) (nd O0 (lf O0) (lf O318))) (nd O0 (nd O136 (nd O0 (lf O375) nl) (lf O295)) (nd O172 (lf O0) (lf O336))))))) (nd boot_o_6 (nd boot_o_10 (nd O0 (nd O19 (nd O49 (nd O98 (nd O175 (lf O341) nl) (lf O256)) (nd O0 (nd O219 (lf O379) nl) (lf O300))) (nd O73 (nd O119 (nd O198 (lf O360) nl) (lf O0)) (nd O157 (lf O237) (lf O321)))) (nd O1 (nd O63 (nd O110 (nd O0 (lf O0) nl) (lf O1)) (nd O0 (lf O0) (lf O312))) (nd O85 (nd O131 (nd O209 (lf O0) nl) (lf O0)) (nd O0 (lf O246) (lf O331))))) (nd O14 (nd O30 (nd O54 (nd O0 (nd O180 (lf O349) nl) (lf O261)) (nd O0 (lf O0) (lf O306))) (nd O80 (nd O126 (nd O0 (lf O365) nl) (lf O284)) (nd O161 (lf O0) (lf O326)))) (nd O41 (nd O68 (nd O115 (nd O1 (lf O356) nl) (lf O274)) (nd O1 (lf O1) (lf O0))) (nd O12 (nd O0 (nd O214 (lf O1) nl) (lf O293)) (nd O170 (lf O251) (lf O0)))))) (nd O3 (nd O11 (nd O62 (nd O51 (nd O101 (nd O177 (lf O345) nl) (lf O0)) (nd O141 (lf O0) (lf O0))) (nd O77 (nd O12 (nd O201 (lf O362) nl) (lf O282)) (nd O160 (lf O240) (lf O1)))) (nd O37 (nd O65 (nd O0 (nd O191 (lf O0) nl) (lf O272)) (nd O150 (lf O230) (lf O315))) (nd O89 (nd O0 (nd O1 (lf O371) nl) (lf O0)) (nd O0 (lf O1) (lf O0))))) (nd O1 (nd O32 (nd O58 (nd O106 (nd O184 (lf O352) nl) (lf O265)) (nd O145 (lf O225) (lf O308))) (nd O0 (nd O128 (nd O0 (lf O0) nl) (lf O287)) (nd O164 (lf O0) (lf O328)))) (nd O12 (nd O70 (nd O0 (nd O196 (lf O1) nl) (lf O277)) (nd O155 (lf O235) (lf O0))) (nd O96 (nd O137 (nd O216 (lf O0) nl) (lf O1)) (nd O1 (lf O253) (lf O337)))))))))
def S13 (w : World) (os : OsState) : SharedT := ⟨T13 w.params, 579, ⟨[], [], [], 0, [], [], false, #[], [], 0, false, false, false, 0, [2000, 10, 10], false, 0, true, [], [], 0, false⟩, ⟨[]⟩, ⟨0, 0, 0, 0⟩, 1034, os⟩
def Tf : Params → BT := (nd boot_o_0 (nd boot_o_1 (nd O347 (nd boot_o_7 (nd O0 (nd O17 (nd O47 (nd O97 (nd O173 (lf O338) nl) (lf O0)) (nd O138 (nd O0 (lf O1) nl) (lf O298))) (nd O0 (nd O1 (nd O197 (lf O0) nl) (lf O0)) (nd O156 (lf O236) (lf O1)))) (nd O33 (nd O59 (nd O107 (nd O185 (lf O0) nl) (lf O266)) (nd O146 (lf O226) (lf O309))) (nd O82 (nd O0 (nd O12 (lf O367) nl) (lf O0)) (nd O0 (lf O1) (lf O0))))) (nd O12 (nd O24 (nd O0 (nd O0 (nd O0 (lf O346) nl) (lf O258)) (nd O142 (lf O221) (lf O1))) (nd O0 (nd O124 (nd O0 (lf O0) nl) (lf O283)) (nd O113 (lf O0) (lf O324)))) (nd O38 (nd O0 (nd O1 (nd O192 (lf O1) nl) (lf O273)) (nd O151 (lf O231) (lf O0))) (nd O90 (nd O133 (nd O212 (lf O372) nl) (lf O1)) (nd O1 (lf O249) (lf O333)))))) (nd O0 (nd O8 (nd O20 (nd O50 (nd O0 (nd O176 (lf O342) nl) (lf O0)) (nd O1 (lf O0) (lf O301))) (nd O76 (nd O120 (nd O0 (lf O361) nl) (lf O279)) (nd O0 (lf O0) (lf O322)))) (nd O35 (nd O0 (nd O111 (nd O1 (lf O353) nl) (lf O270)) (nd O1 (lf O1) (lf O0))) (nd O86 (nd O0 (nd O210 (lf O1) nl) (lf O289)) (nd O166 (lf O247) (lf O0))))) (nd O15 (nd O12 (nd O55 (nd O103 (nd O181 (lf O0) nl) (lf O262)) (nd O1 (lf O1) (lf O0))) (nd O0 (nd O127 (nd O203 (lf O0) nl) (lf O0)) (nd O0 (lf O242) (lf O327)))) (nd O42 (nd O69 (nd O116 (nd O194 (lf O357) nl) (lf O0)) (nd O153 (lf O233) (lf O317))) (nd O94 (nd O1 (nd O215 (lf O374) nl) (lf O294)) (nd O171 (lf O252) (lf O1))))))) (nd boot_o_5 (nd boot_o_9 (nd O7 (nd O18 (nd O48 (nd O1 (nd O174 (lf O340) nl) (lf O255)) (nd O113 (nd O218 (lf O378) nl) (lf O299))) (nd O72 (nd O0 (nd O1 (lf O359) nl) (lf O278)) (nd O1 (lf O1) (lf O0)))) (nd O0 (nd O12 (nd O109 (nd O187 (lf O0) nl) (lf O0)) (nd O148 (lf O228) (lf O12))) (nd O84 (nd O130 (nd O0 (lf O369) nl) (lf O288)) (nd O165 (lf O0) (lf O330))))) (nd O0 (nd O26 (nd O53 (nd O102 (nd O179 (lf O1) nl) (lf O260)) (nd O113 (lf O223) (lf O305))) (nd O79 (nd O125 (nd O202 (lf O364) nl) (lf O1)) (nd O1 (lf O241) (lf O325)))) (nd O40 (nd O67 (nd O0 (nd O0 (lf O0) nl) (lf O1)) (nd O0 (lf O0) (lf O316))) (nd O0 (nd O135 (nd O213 (lf O0) nl) (lf O0)) (nd O0 (lf O250) (lf O335)))))) (nd O2 (nd O10 (nd O22 (nd O1 (nd O100 (nd O1 (lf O344) nl) (lf O257)) (nd O0 (lf O220) (lf O303))) (nd O12 (nd O0 (nd O200 (lf O1) nl) (lf O281)) (nd O159 (lf O239) (lf O0)))) (nd O36 (nd O64 (nd O113 (nd O0 (lf O355) nl) (lf O271)) (nd O0 (lf O0) (lf O314))) (nd O88 (nd O132 (nd O0 (lf O0) nl) (lf O291)) (nd O168 (lf O0) (lf O332))))) (nd O0 (nd O0 (nd O57 (nd O105 (nd O183 (lf O351) nl) (lf O264)) (nd O0 (lf O0) (lf O307))) (nd O81 (nd O1 (nd O205 (lf O366) nl) (lf O286)) (nd O163 (lf O244) (lf O1)))) (nd O30 (nd O1 (nd O113 (nd O195 (lf O0) nl) (lf O276)) (nd O154 (lf O234) (lf O319))) (nd O95 (nd O0 (nd O1 (lf O376) nl) (lf O0)) (nd O0 (lf O1) (lf O0)))))))) (nd O4 (nd boot_o_4 (nd boot_o_8 (nd O1 (nd O0 (nd O0 (nd O0 (nd O0 (lf O339) nl) (lf O254)) (nd O139 (nd O217 (lf O377) nl) (lf O0))) (nd O71 (nd O118 (nd O0 (lf O0) nl) (lf O1)) (nd O0 (lf O0) (lf O320)))) (nd O34 (nd O30 (nd O108 (nd O186 (lf O1) nl) (lf O267)) (nd O147 (lf O227) (lf O0))) (nd O83 (nd O129 (nd O208 (lf O368) nl) (lf O1)) (nd O1 (lf O245) (lf O329))))) (nd O13 (nd O25 (nd O52 (nd O1 (nd O178 (lf O0) nl) (lf O259)) (nd O143 (lf O222) (lf O304))) (nd O78 (nd O0 (nd O1 (lf O363) nl) (lf O0)) (nd O0 (lf O1) (lf O0)))) (nd O39 (nd O66 (nd O114 (nd O193 (lf O0) nl) (lf O0)) (nd O152 (lf O232) (lf O1))) (nd O91 (nd O134 (nd O0 (lf O373) nl) (lf O292)) (nd O169 (lf O0) (lf O334)))))) (nd O348 (nd O9 (nd O21 (nd O0 (nd O99 (nd O0 (lf O343) nl) (lf O1)) (nd O140 (lf O1) (lf O302))) (nd O0 (nd O121 (nd O199 (lf O0) nl) (lf O280)) (nd O158 (lf O238) (lf O323)))) (nd O0 (nd O1 (nd O112 (nd O190 (lf O354) nl) (lf O0)) (nd O149 (lf O229) (lf O313))) (nd O87 (nd O1 (nd O211 (lf O370) nl) (lf O290)) (nd O167 (lf O248) (lf O1))))) (nd O16 (nd O31 (nd O56 (nd O104 (nd O182 (lf O350) nl) (lf O263)) (nd O144 (lf O224) (lf O1))) (nd O1 (nd O0 (nd O204 (lf O1) nl) (lf O285)) (nd O162 (lf O243) (lf O0)))) (nd O43 (nd O0 (nd O117 (nd O0 (lf O358) nl) (lf O275)) (nd O0 (lf O0) (lf O318))) (nd O0 (nd O136 (nd O0 (lf O375) nl) (lf O295)) (nd O172 (lf O0) (lf O336))))))) (nd boot_o_6 (nd boot_o_10 (nd O0 (nd O19 (nd O49 (nd O98 (nd O175 (lf O341) nl) (lf O256)) (nd O0 (nd O219 (lf O379) nl) (lf O300))) (nd O73 (nd O119 (nd O198 (lf O360) nl) (lf O0)) (nd O157 (lf O237) (lf O321)))) (nd O1 (nd O63 (nd O110 (nd O0 (lf O0) nl) (lf O1)) (nd O0 (lf O0) (lf O312))) (nd O85 (nd O131 (nd O209 (lf O0) nl) (lf O0)) (nd O0 (lf O246) (lf O331))))) (nd O14 (nd O30 (nd O54 (nd O0 (nd O180 (lf O349) nl) (lf O261)) (nd O0 (lf O0) (lf O306))) (nd O80 (nd O126 (nd O0 (lf O365) nl) (lf O284)) (nd O161 (lf O0) (lf O326)))) (nd O41 (nd O68 (nd O115 (nd O1 (lf O356) nl) (lf O274)) (nd O1 (lf O1) (lf O0))) (nd O12 (nd O0 (nd O214 (lf O1) nl) (lf O293)) (nd O170 (lf O251) (lf O0)))))) (nd O3 (nd O11 (nd O62 (nd O51 (nd O101 (nd O177 (lf O345) nl) (lf O0)) (nd O141 (lf O0) (lf O0))) (nd O77 (nd O12 (nd O201 (lf O362) nl) (lf O282)) (nd O160 (lf O240) (lf O1)))) (nd O37 (nd O65 (nd O0 (nd O191 (lf O0) nl) (lf O272)) (nd O150 (lf O230) (lf O315))) (nd O89 (nd O0 (nd O1 (lf O371) nl) (lf O0)) (nd O0 (lf O1) (lf O0))))) (nd O1 (nd O32 (nd O58 (nd O106 (nd O184 (lf O352) nl) (lf O265)) (nd O145 (lf O225) (lf O308))) (nd O0 (nd O128 (nd O0 (lf O0) nl) (lf O287)) (nd O164 (lf O0) (lf O328)))) (nd O12 (nd O70 (nd O0 (nd O196 (lf O1) nl) (lf O277)) (nd O155 (lf O235) (lf O0))) (nd O96 (nd O137 (nd O216 (lf O0) nl) (lf O1)) (nd O1 (lf O253) (lf O337)))))))))
def Sf (w : World) (os : OsState) : SharedT := ⟨Tf w.params, 579, ⟨[], [], [], 0, [], [], false, #[], [], 0, false, false, false, 0, [2000, 10, 10], false, 0, true, [], [], 0, false⟩, ⟨[]⟩, ⟨0, 0, 0, 0⟩, 1034, os⟩
def Hf (P : Params) : Heap := ⟨⟨[boot_o_0 P, boot_o_1 P, O4 P, O347 P, boot_o_4 P, boot_o_5 P, boot_o_6 P, boot_o_7 P, boot_o_8 P, boot_o_9 P, boot_o_10 P, O0 P, O348 P, O2 P, O3 P, O0 P, O1 P, O7 P, O0 P, O8 P, O9 P, O10 P, O11 P, O12 P, O13 P, O0 P, O14 P, O15 P, O16 P, O0 P, O1 P, O17 P, O0 P, O18 P, O19 P, O20 P, O21 P, O22 P, O62 P, O24 P, O25 P, O26 P, O30 P, O12 P, O31 P, O0 P, O32 P, O33 P, O34 P, O0 P, O1 P, O35 P, O0 P, O36 P, O37 P, O38 P, O39 P, O40 P, O41 P, O42 P, O43 P, O30 P, O12 P, O47 P, O0 P, O48 P, O49 P, O50 P, O0 P, O1 P, O51 P, O0 P, O52 P, O53 P, O54 P, O55 P, O56 P, O57 P, O58 P, O59 P, O30 P, O12 P, O63 P, O0 P, O1 P, O64 P, O65 P, O0 P, O66 P, O67 P, O68 P, O69 P, O0 P, O1 P, O70 P, O0 P, O71 P, O72 P, O73 P, O76 P, O0 P, O12 P, O77 P, O0 P, O78 P, O79 P, O80 P, O0 P, O1 P, O81 P, O0 P, O82 P, O83 P, O84 P, O85 P, O86 P, O87 P, O88 P, O89 P, O90 P, O91 P, O0 P, O12 P, O94 P, O0 P, O95 P, O96 P, O97 P, O0 P, O1 P, O98 P, O0 P, O99 P, O100 P, O101 P, O0 P, O1 P, O102 P, O0 P, O103 P, O104 P, O105 P, O106 P, O107 P, O108 P, O109 P, O110 P, O111 P, O112 P, O113 P, O0 P, O1 P, O114 P, O0 P, O115 P, O116 P, O117 P, O113 P, O0 P, O1 P, O118 P, O0 P, O119 P, O120 P, O121 P, O0 P, O12 P, O124 P, O0 P, O125 P, O126 P, O127 P, O0 P, O1 P, O128 P, O0 P, O129 P, O130 P, O131 P, O0 P, O1 P, O132 P, O0 P, O133 P, O134 P, O135 P, O0 P, O1 P, O136 P, O0 P, O137 P, O138 P, O139 P, O113 P, O0 P, O1 P, O140 P, O0 P, O141 P, O142 P, O143 P, O113 P, O0 P, O1 P, O144 P, O0 P, O145 P, O146 P, O147 P, O148 P, O0 P, O1 P, O149 P, O0 P, O150 P, O151 P, O152 P, O0 P, O1 P, O153 P, O0 P, O154 P, O155 P, O156 P, O0 P, O1 P, O157 P, O0 P, O158 P, O159 P, O160 P, O113 P, O0 P, O1 P, O161 P, O0 P, O162 P, O163 P, O164 P, O0 P, O1 P, O165 P, O0 P, O166 P, O167 P, O168 P, O0 P, O1 P, O169 P, O0 P, O170 P, O171 P, O172 P, O0 P, O1 P, O173 P, O0 P, O174 P, O175 P, O176 P, O0 P, O1 P, O177 P, O0 P, O178 P, O179 P, O180 P, O181 P, O182 P, O183 P, O184 P, O185 P, O186 P, O187 P, O0 P, O1 P, O190 P, O0 P, O191 P, O192 P, O193 P, O0 P, O1 P, O194 P, O0 P, O195 P, O196 P, O197 P, O0 P, O1 P, O198 P, O0 P, O199 P, O200 P, O201 P, O0 P, O1 P, O202 P, O0 P, O203 P, O204 P, O205 P, O0 P, O12 P, O208 P, O0 P, O209 P, O210 P, O211 P, O0 P, O1 P, O212 P, O0 P, O213 P, O214 P, O215 P, O0 P, O1 P, O216 P, O0 P, O217 P, O218 P, O219 P, O0 P, O1 P, O220 P, O0 P, O221 P, O222 P, O223 P, O0 P, O1 P, O224 P, O0 P, O225 P, O226 P, O227 P, O228 P, O0 P, O1 P, O229 P, O0 P, O230 P, O231 P, O232 P, O0 P, O1 P, O233 P, O0 P, O234 P, O235 P, O236 P, O0 P, O1 P, O237 P, O0 P, O238 P, O239 P, O240 P, O0 P, O1 P, O241 P, O0 P, O242 P, O243 P, O244 P, O0 P, O1 P, O245 P, O0 P, O246 P, O247 P, O248 P, O0 P, O1 P, O249 P, O0 P, O250 P, O251 P, O252 P, O0 P, O1 P, O253 P, O0 P, O254 P, O255 P, O256 P, O0 P, O1 P, O257 P, O0 P, O258 P, O259 P, O260 P, O261 P, O262 P, O263 P, O264 P, O265 P, O266 P, O267 P, O0 P, O1 P, O270 P, O0 P, O271 P, O272 P, O273 P, O0 P, O1 P, O274 P, O0 P, O275 P, O276 P, O277 P, O0 P, O1 P, O278 P, O0 P, O279 P, O280 P, O281 P, O282 P, O283 P, O0 P, O1 P, O284 P, O0 P, O285 P, O286 P, O287 P, O0 P, O1 P, O288 P, O0 P, O289 P, O290 P, O291 P, O0 P, O1 P, O292 P, O0 P, O293 P, O294 P, O295 P, O0 P, O1 P, O298 P, O0 P, O299 P, O300 P, O301 P, O302 P, O303 P, O0 P, O1 P, O304 P, O305 P, O306 P, O0 P, O1 P, O307 P, O308 P, O309 P, O0 P, O12 P, O312 P, O0 P, O313 P, O314 P, O315 P, O0 P, O1 P, O316 P, O0 P, O317 P, O318 P, O319 P, O0 P, O1 P, O320 P, O0 P, O321 P, O322 P, O323 P, O0 P, O1 P, O324 P, O0 P, O325 P, O326 P, O327 P, O0 P, O1 P, O328 P, O0 P, O329 P, O330 P, O331 P, O0 P, O1 P, O332 P, O0 P, O333 P, O334 P, O335 P, O0 P, O1 P, O336 P, O0 P, O337 P, O338 P, O339 P, O340 P, O341 P, O342 P, O343 P, O344 P, O345 P, O346 P, O0 P, O1 P, O349 P, O0 P, O350 P, O351 P, O352 P, O0 P, O1 P, O0 P, O0 P, O353 P, O354 P, O355 P, O0 P, O1 P, O0 P, O0 P, O356 P, O357 P, O358 P, O0 P, O1 P, O0 P, O0 P, O359 P, O360 P, O361 P, O0 P, O1 P, O362 P, O0 P, O363 P, O364 P, O365 P, O0 P, O1 P, O366 P, O0 P, O367 P, O368 P, O369 P, O0 P, O1 P, O370 P, O0 P, O371 P, O372 P, O373 P, O0 P, O1 P, O374 P, O375 P, O376 P, O0 P, O1 P, O377 P, O378 P, O379 P]⟩, ⟨[], [], [], 0, [], [], false, #[], [], 0, false, false, false, 0, [2000, 10, 10], false, 0, true, [], [], 0, false⟩⟩
def Sg (w : World) (os : OsState) : Shared := ⟨Hf w.params, ⟨[]⟩, ⟨0, 0, 0, 0⟩, 1034, os⟩
noncomputable def pickE (l : List Stmt) : List Nat → List Stmt := fun is => is.filterMap fun i => l[i]?
def viewE : Program := { pw_nm0149_01 with main := { pw_nm0149_01.main with body := pickE pw_nm0149_01.main.body [0, 2, 3, 4, 5, 7, 9, 10, 11, 12, 13, 14, 15, 16, 17, 18, 20, 22, 23, 24, 25, 26, 27, 28, 29, 30, 31, 33, 34, 35, 36, 37, 38, 39, 40, 42, 43, 45, 46, 47, 48, 49, 51, 52, 53, 54, 55, 56, 57, 58, 59] } }
noncomputable def LL : List Str := ["ID_SIGNS", "ESCAPES", "is_branch", "is_branch_lexer", "is_token", "is_token_lexer", "KIND_NAMES", "LEFT_NAMES", "SPACE_NAMES"]
noncomputable def LV : List (Str × WData) := [("ID_SIGNS", (.str ⟨#[48, 49, 50, 51, 52, 53, 54, 55, 56, 57, 97, 98, 99, 100, 101, 102, 103, 104, 105, 106, 107, 108, 109, 110, 111, 112, 113, 114, 115, 116, 117, 118, 119, 120, 121, 122, 65, 66, 67, 68, 69, 70, 71, 72, 73, 74, 75, 76, 77, 78, 79, 80, 81, 82, 83, 84, 85, 86, 87, 88, 89, 90, 33, 35, 36, 37, 38, 39, 42, 43, 45, 46, 47, 58, 60, 61, 62, 63, 64, 92, 94, 95, 96, 124, 126]⟩))]
-- gens 0 drawn ⟨0, 0, 0, 0⟩ toks 1034
def KO (P : Params) : Frag := (nat_lit 2, O4 P) :: (nat_lit 3, O347 P) :: (nat_lit 15, O0 P) :: (nat_lit 17, O7 P) :: (nat_lit 18, O0 P) :: (nat_lit 20, O9 P) :: (nat_lit 21, O10 P) :: (nat_lit 22, O11 P) :: (nat_lit 29, O0 P) :: (nat_lit 31, O17 P) :: (nat_lit 32, O0 P) :: (nat_lit 34, O19 P) :: (nat_lit 35, O20 P) :: (nat_lit 36, O21 P) :: (nat_lit 37, O22 P) :: (nat_lit 38, O62 P) :: (nat_lit 39, O24 P) :: (nat_lit 42, O30 P) :: (nat_lit 49, O0 P) :: (nat_lit 51, O35 P) :: (nat_lit 52, O0 P) :: (nat_lit 54, O37 P) :: (nat_lit 55, O38 P) :: (nat_lit 56, O39 P) :: (nat_lit 57, O40 P) :: (nat_lit 58, O41 P) :: (nat_lit 61, O30 P) :: (nat_lit 68, O0 P) :: (nat_lit 70, O51 P) :: (nat_lit 71, O0 P) :: (nat_lit 73, O53 P) :: (nat_lit 74, O54 P) :: (nat_lit 75, O55 P) :: (nat_lit 76, O56 P) :: (nat_lit 77, O57 P) :: (nat_lit 80, O30 P) :: (nat_lit 87, O0 P) :: (nat_lit 88, O66 P) :: (nat_lit 89, O67 P) :: (nat_lit 92, O0 P) :: (nat_lit 94, O70 P) :: (nat_lit 95, O0 P) :: (nat_lit 97, O72 P) :: (nat_lit 98, O73 P) :: (nat_lit 99, O76 P) :: (nat_lit 107, O0 P) :: (nat_lit 109, O81 P) :: (nat_lit 110, O0 P) :: (nat_lit 112, O83 P) :: (nat_lit 113, O84 P) :: (nat_lit 114, O85 P) :: (nat_lit 115, O86 P) :: (nat_lit 116, O87 P) :: (nat_lit 117, O88 P) :: (nat_lit 118, O89 P) :: (nat_lit 128, O0 P) :: (nat_lit 130, O98 P) :: (nat_lit 131, O0 P) :: (nat_lit 133, O100 P) :: (nat_lit 134, O101 P) :: (nat_lit 135, O0 P) :: (nat_lit 137, O102 P) :: (nat_lit 138, O0 P) :: (nat_lit 140, O104 P) :: (nat_lit 141, O105 P) :: (nat_lit 142, O106 P) :: (nat_lit 143, O107 P) :: (nat_lit 144, O108 P) :: (nat_lit 145, O109 P) :: (nat_lit 146, O110 P) :: (nat_lit 149, O113 P) :: (nat_lit 150, O0 P) :: (nat_lit 152, O114 P) :: (nat_lit 153, O0 P) :: (nat_lit 155, O116 P) :: (nat_lit 156, O117 P) :: (nat_lit 157, O113 P) :: (nat_lit 158, O0 P) :: (nat_lit 160, O118 P) :: (nat_lit 161, O0 P) :: (nat_lit 163, O120 P) :: (nat_lit 164, O121 P) :: (nat_lit 172, O0 P) :: (nat_lit 174, O128 P) :: (nat_lit 175, O0 P) :: (nat_lit 177, O130 P) :: (nat_lit 178, O131 P) :: (nat_lit 179, O0 P) :: (nat_lit 181, O132 P) :: (nat_lit 182, O0 P) :: (nat_lit 184, O134 P) :: (nat_lit 185, O135 P) :: (nat_lit 186, O0 P) :: (nat_lit 188, O136 P) :: (nat_lit 189, O0 P) :: (nat_lit 191, O138 P) :: (nat_lit 192, O139 P) :: (nat_lit 193, O113 P) :: (nat_lit 194, O0 P) :: (nat_lit 196, O140 P) :: (nat_lit 197, O0 P) :: (nat_lit 199, O142 P) :: (nat_lit 200, O143 P) :: (nat_lit 201, O113 P) :: (nat_lit 202, O0 P) :: (nat_lit 204, O144 P) :: (nat_lit 205, O0 P) :: (nat_lit 207, O146 P) :: (nat_lit 208, O147 P) :: (nat_lit 209, O148 P) :: (nat_lit 210, O0 P) :: (nat_lit 212, O149 P) :: (nat_lit 213, O0 P) :: (nat_lit 215, O151 P) :: (nat_lit 216, O152 P) :: (nat_lit 217, O0 P) :: (nat_lit 219, O153 P) :: (nat_lit 220, O0 P) :: (nat_lit 222, O155 P) :: (nat_lit 223, O156 P) :: (nat_lit 224, O0 P) :: (nat_lit 226, O157 P) :: (nat_lit 227, O0 P) :: (nat_lit 229, O159 P) :: (nat_lit 230, O160 P) :: (nat_lit 231, O113 P) :: (nat_lit 232, O0 P) :: (nat_lit 234, O161 P) :: (nat_lit 235, O0 P) :: (nat_lit 237, O163 P) :: (nat_lit 238, O164 P) :: (nat_lit 239, O0 P) :: (nat_lit 241, O165 P) :: (nat_lit 242, O0 P) :: (nat_lit 244, O167 P) :: (nat_lit 245, O168 P) :: (nat_lit 246, O0 P) :: (nat_lit 248, O169 P) :: (nat_lit 249, O0 P) :: (nat_lit 251, O171 P) :: (nat_lit 252, O172 P) :: (nat_lit 253, O0 P) :: (nat_lit 255, O173 P) :: (nat_lit 256, O0 P) :: (nat_lit 258, O175 P) :: (nat_lit 259, O176 P) :: (nat_lit 260, O0 P) :: (nat_lit 262, O177 P) :: (nat_lit 263, O0 P) :: (nat_lit 265, O179 P) :: (nat_lit 266, O180 P) :: (nat_lit 267, O181 P) :: (nat_lit 268, O182 P) :: (nat_lit 269, O183 P) :: (nat_lit 270, O184 P) :: (nat_lit 271, O185 P) :: (nat_lit 274, O0 P) :: (nat_lit 276, O190 P) :: (nat_lit 277, O0 P) :: (nat_lit 279, O192 P) :: (nat_lit 280, O193 P) :: (nat_lit 281, O0 P) :: (nat_lit 283, O194 P) :: (nat_lit 284, O0 P) :: (nat_lit 286, O196 P) :: (nat_lit 287, O197 P) :: (nat_lit 288, O0 P) :: (nat_lit 290, O198 P) :: (nat_lit 291, O0 P) :: (nat_lit 293, O200 P) :: (nat_lit 294, O201 P) :: (nat_lit 295, O0 P) :: (nat_lit 297, O202 P) :: (nat_lit 298, O0 P) :: (nat_lit 300, O204 P) :: (nat_lit 301, O205 P) :: (nat_lit 309, O0 P) :: (nat_lit 311, O212 P) :: (nat_lit 312, O0 P) :: (nat_lit 314, O214 P) :: (nat_lit 315, O215 P) :: (nat_lit 316, O0 P) :: (nat_lit 318, O216 P) :: (nat_lit 319, O0 P) :: (nat_lit 321, O218 P) :: (nat_lit 322, O219 P) :: (nat_lit 323, O0 P) :: (nat_lit 325, O220 P) :: (nat_lit 326, O0 P) :: (nat_lit 328, O222 P) :: (nat_lit 329, O223 P) :: (nat_lit 330, O0 P) :: (nat_lit 332, O224 P) :: (nat_lit 333, O0 P) :: (nat_lit 335, O226 P) :: (nat_lit 336, O227 P) :: (nat_lit 337, O228 P) :: (nat_lit 338, O0 P) :: (nat_lit 340, O229 P) :: (nat_lit 341, O0 P) :: (nat_lit 343, O231 P) :: (nat_lit 344, O232 P) :: (nat_lit 345, O0 P) :: (nat_lit 347, O233 P) :: (nat_lit 348, O0 P) :: (nat_lit 350, O235 P) :: (nat_lit 351, O236 P) :: (nat_lit 352, O0 P) :: (nat_lit 354, O237 P) :: (nat_lit 355, O0 P) :: (nat_lit 357, O239 P) :: (nat_lit 358, O240 P) :: (nat_lit 359, O0 P) :: (nat_lit 361, O241 P) :: (nat_lit 362, O0 P) :: (nat_lit 364, O243 P) :: (nat_lit 365, O244 P) :: (nat_lit 366, O0 P) :: (nat_lit 368, O245 P) :: (nat_lit 369, O0 P) :: (nat_lit 371, O247 P) :: (nat_lit 372, O248 P) :: (nat_lit 373, O0 P) :: (nat_lit 375, O249 P) :: (nat_lit 376, O0 P) :: (nat_lit 378, O251 P) :: (nat_lit 379, O252 P) :: (nat_lit 380, O0 P) :: (nat_lit 382, O253 P) :: (nat_lit 383, O0 P) :: (nat_lit 385, O255 P) :: (nat_lit 386, O256 P) :: (nat_lit 387, O0 P) :: (nat_lit 389, O257 P) :: (nat_lit 390, O0 P) :: (nat_lit 392, O259 P) :: (nat_lit 393, O260 P) :: (nat_lit 394, O261 P) :: (nat_lit 395, O262 P) :: (nat_lit 396, O263 P) :: (nat_lit 397, O264 P) :: (nat_lit 398, O265 P) :: (nat_lit 401, O0 P) :: (nat_lit 403, O270 P) :: (nat_lit 404, O0 P) :: (nat_lit 406, O272 P) :: (nat_lit 407, O273 P) :: (nat_lit 408, O0 P) :: (nat_lit 410, O274 P) :: (nat_lit 411, O0 P) :: (nat_lit 413, O276 P) :: (nat_lit 414, O277 P) :: (nat_lit 415, O0 P) :: (nat_lit 417, O278 P) :: (nat_lit 418, O0 P) :: (nat_lit 420, O280 P) :: (nat_lit 421, O281 P) :: (nat_lit 422, O282 P) :: (nat_lit 423, O283 P) :: (nat_lit 424, O0 P) :: (nat_lit 426, O284 P) :: (nat_lit 427, O0 P) :: (nat_lit 429, O286 P) :: (nat_lit 430, O287 P) :: (nat_lit 431, O0 P) :: (nat_lit 433, O288 P) :: (nat_lit 434, O0 P) :: (nat_lit 436, O290 P) :: (nat_lit 437, O291 P) :: (nat_lit 438, O0 P) :: (nat_lit 440, O292 P) :: (nat_lit 441, O0 P) :: (nat_lit 443, O294 P) :: (nat_lit 444, O295 P) :: (nat_lit 445, O0 P) :: (nat_lit 447, O298 P) :: (nat_lit 448, O0 P) :: (nat_lit 450, O300 P) :: (nat_lit 451, O301 P) :: (nat_lit 452, O302 P) :: (nat_lit 453, O303 P) :: (nat_lit 454, O0 P) :: (nat_lit 457, O305 P) :: (nat_lit 458, O306 P) :: (nat_lit 459, O0 P) :: (nat_lit 462, O308 P) :: (nat_lit 463, O309 P) :: (nat_lit 471, O0 P) :: (nat_lit 473, O316 P) :: (nat_lit 474, O0 P) :: (nat_lit 476, O318 P) :: (nat_lit 477, O319 P) :: (nat_lit 478, O0 P) :: (nat_lit 480, O320 P) :: (nat_lit 481, O0 P) :: (nat_lit 483, O322 P) :: (nat_lit 484, O323 P) :: (nat_lit 485, O0 P) :: (nat_lit 487, O324 P) :: (nat_lit 488, O0 P) :: (nat_lit 490, O326 P) :: (nat_lit 491, O327 P) :: (nat_lit 492, O0 P) :: (nat_lit 494, O328 P) :: (nat_lit 495, O0 P) :: (nat_lit 497, O330 P) :: (nat_lit 498, O331 P) :: (nat_lit 499, O0 P) :: (nat_lit 501, O332 P) :: (nat_lit 502, O0 P) :: (nat_lit 504, O334 P) :: (nat_lit 505, O335 P) :: (nat_lit 506, O0 P) :: (nat_lit 508, O336 P) :: (nat_lit 509, O0 P) :: (nat_lit 511, O338 P) :: (nat_lit 512, O339 P) :: (nat_lit 513, O340 P) :: (nat_lit 514, O341 P) :: (nat_lit 515, O342 P) :: (nat_lit 516, O343 P) :: (nat_lit 517, O344 P) :: (nat_lit 520, O0 P) :: (nat_lit 522, O349 P) :: (nat_lit 523, O0 P) :: (nat_lit 525, O351 P) :: (nat_lit 526, O352 P) :: (nat_lit 527, O0 P) :: (nat_lit 529, O0 P) :: (nat_lit 530, O0 P) :: (nat_lit 532, O354 P) :: (nat_lit 533, O355 P) :: (nat_lit 534, O0 P) :: (nat_lit 536, O0 P) :: (nat_lit 537, O0 P) :: (nat_lit 539, O357 P) :: (nat_lit 540, O358 P) :: (nat_lit 541, O0 P) :: (nat_lit 543, O0 P) :: (nat_lit 544, O0 P) :: (nat_lit 546, O360 P) :: (nat_lit 547, O361 P) :: (nat_lit 548, O0 P) :: (nat_lit 550, O362 P) :: (nat_lit 551, O0 P) :: (nat_lit 553, O364 P) :: (nat_lit 554, O365 P) :: (nat_lit 555, O0 P) :: (nat_lit 557, O366 P) :: (nat_lit 558, O0 P) :: (nat_lit 560, O368 P) :: (nat_lit 561, O369 P) :: (nat_lit 562, O0 P) :: (nat_lit 564, O370 P) :: (nat_lit 565, O0 P) :: (nat_lit 567, O372 P) :: (nat_lit 568, O373 P) :: (nat_lit 569, O0 P) :: (nat_lit 572, O375 P) :: (nat_lit 573, O376 P) :: (nat_lit 574, O0 P) :: (nat_lit 577, O378 P) :: (nat_lit 578, O379 P) :: []
noncomputable def KA : List Addr := [2, 3, 15, 17, 18, 20, 21, 22, 29, 31, 32, 34, 35, 36, 37, 38, 39, 42, 49, 51, 52, 54, 55, 56, 57, 58, 61, 68, 70, 71, 73, 74, 75, 76, 77, 80, 87, 88, 89, 92, 94, 95, 97, 98, 99, 107, 109, 110, 112, 113, 114, 115, 116, 117, 118, 128, 130, 131, 133, 134, 135, 137, 138, 140, 141, 142, 143, 144, 145, 146, 149, 150, 152, 153, 155, 156, 157, 158, 160, 161, 163, 164, 172, 174, 175, 177, 178, 179, 181, 182, 184, 185, 186, 188, 189, 191, 192, 193, 194, 196, 197, 199, 200, 201, 202, 204, 205, 207, 208, 209, 210, 212, 213, 215, 216, 217, 219, 220, 222, 223, 224, 226, 227, 229, 230, 231, 232, 234, 235, 237, 238, 239, 241, 242, 244, 245, 246, 248, 249, 251, 252, 253, 255, 256, 258, 259, 260, 262, 263, 265, 266, 267, 268, 269, 270, 271, 274, 276, 277, 279, 280, 281, 283, 284, 286, 287, 288, 290, 291, 293, 294, 295, 297, 298, 300, 301, 309, 311, 312, 314, 315, 316, 318, 319, 321, 322, 323, 325, 326, 328, 329, 330, 332, 333, 335, 336, 337, 338, 340, 341, 343, 344, 345, 347, 348, 350, 351, 352, 354, 355, 357, 358, 359, 361, 362, 364, 365, 366, 368, 369, 371, 372, 373, 375, 376, 378, 379, 380, 382, 383, 385, 386, 387, 389, 390, 392, 393, 394, 395, 396, 397, 398, 401, 403, 404, 406, 407, 408, 410, 411, 413, 414, 415, 417, 418, 420, 421, 422, 423, 424, 426, 427, 429, 430, 431, 433, 434, 436, 437, 438, 440, 441, 443, 444, 445, 447, 448, 450, 451, 452, 453, 454, 457, 458, 459, 462, 463, 471, 473, 474, 476, 477, 478, 480, 481, 483, 484, 485, 487, 488, 490, 491, 492, 494, 495, 497, 498, 499, 501, 502, 504, 505, 506, 508, 509, 511, 512, 513, 514, 515, 516, 517, 520, 522, 523, 525, 526, 527, 529, 530, 532, 533, 534, 536, 537, 539, 540, 541, 543, 544, 546, 547, 548, 550, 551, 553, 554, 555, 557, 558, 560, 561, 562, 564, 565, 567, 568, 569, 572, 573, 574, 577, 578]
theorem fill_all : rw_nm0149_01 = rw_nm0149_01 ∧ KO = KO := by k_fill; exact ⟨rfl, rfl⟩
set_option tactic.hygienic false
theorem ee03 {P0 P1 P2 : Prop} {C : Prop} (h : P0 ∧ P1 ∧ P2) (f : P0 → P1 → P2 → C) : C := f h.1 h.2.1 h.2.2
theorem ee04 {P0 P1 P2 P3 : Prop} {C : Prop} (h : P0 ∧ P1 ∧ P2 ∧ P3) (f : P0 → P1 → P2 → P3 → C) : C := f h.1 h.2.1 h.2.2.1 h.2.2.2
theorem ee12 {α0 : Sort _} {P0 P1 : α0 → Prop} {C : Prop} (h : ∃ x0, P0 x0 ∧ P1 x0) (f : ∀ x0, P0 x0 → P1 x0 → C) : C := h.elim fun x0 h => f x0 h.1 h.2
theorem ee13 {α0 : Sort _} {P0 P1 P2 : α0 → Prop} {C : Prop} (h : ∃ x0, P0 x0 ∧ P1 x0 ∧ P2 x0) (f : ∀ x0, P0 x0 → P1 x0 → P2 x0 → C) : C := h.elim fun x0 h => f x0 h.1 h.2.1 h.2.2
theorem ee21 {α0 α1 : Sort _} {P0 : α0 → α1 → Prop} {C : Prop} (h : ∃ x0 x1, P0 x0 x1) (f : ∀ x0 x1, P0 x0 x1 → C) : C := h.elim fun x0 h => h.elim fun x1 h => f x0 x1 h
theorem ee22 {α0 α1 : Sort _} {P0 P1 : α0 → α1 → Prop} {C : Prop} (h : ∃ x0 x1, P0 x0 x1 ∧ P1 x0 x1) (f : ∀ x0 x1, P0 x0 x1 → P1 x0 x1 → C) : C := h.elim fun x0 h => h.elim fun x1 h => f x0 x1 h.1 h.2
theorem ee23 {α0 α1 : Sort _} {P0 P1 P2 : α0 → α1 → Prop} {C : Prop} (h : ∃ x0 x1, P0 x0 x1 ∧ P1 x0 x1 ∧ P2 x0 x1) (f : ∀ x0 x1, P0 x0 x1 → P1 x0 x1 → P2 x0 x1 → C) : C := h.elim fun x0 h => h.elim fun x1 h => f x0 x1 h.1 h.2.1 h.2.2
theorem ee24 {α0 α1 : Sort _} {P0 P1 P2 P3 : α0 → α1 → Prop} {C : Prop} (h : ∃ x0 x1, P0 x0 x1 ∧ P1 x0 x1 ∧ P2 x0 x1 ∧ P3 x0 x1) (f : ∀ x0 x1, P0 x0 x1 → P1 x0 x1 → P2 x0 x1 → P3 x0 x1 → C) : C := h.elim fun x0 h => h.elim fun x1 h => f x0 x1 h.1 h.2.1 h.2.2.1 h.2.2.2
theorem ee25 {α0 α1 : Sort _} {P0 P1 P2 P3 P4 : α0 → α1 → Prop} {C : Prop} (h : ∃ x0 x1, P0 x0 x1 ∧ P1 x0 x1 ∧ P2 x0 x1 ∧ P3 x0 x1 ∧ P4 x0 x1) (f : ∀ x0 x1, P0 x0 x1 → P1 x0 x1 → P2 x0 x1 → P3 x0 x1 → P4 x0 x1 → C) : C := h.elim fun x0 h => h.elim fun x1 h => f x0 x1 h.1 h.2.1 h.2.2.1 h.2.2.2.1 h.2.2.2.2
theorem ee31 {α0 α1 α2 : Sort _} {P0 : α0 → α1 → α2 → Prop} {C : Prop} (h : ∃ x0 x1 x2, P0 x0 x1 x2) (f : ∀ x0 x1 x2, P0 x0 x1 x2 → C) : C := h.elim fun x0 h => h.elim fun x1 h => h.elim fun x2 h => f x0 x1 x2 h
theorem ee32 {α0 α1 α2 : Sort _} {P0 P1 : α0 → α1 → α2 → Prop} {C : Prop} (h : ∃ x0 x1 x2, P0 x0 x1 x2 ∧ P1 x0 x1 x2) (f : ∀ x0 x1 x2, P0 x0 x1 x2 → P1 x0 x1 x2 → C) : C := h.elim fun x0 h => h.elim fun x1 h => h.elim fun x2 h => f x0 x1 x2 h.1 h.2
theorem ee33 {α0 α1 α2 : Sort _} {P0 P1 P2 : α0 → α1 → α2 → Prop} {C : Prop} (h : ∃ x0 x1 x2, P0 x0 x1 x2 ∧ P1 x0 x1 x2 ∧ P2 x0 x1 x2) (f : ∀ x0 x1 x2, P0 x0 x1 x2 → P1 x0 x1 x2 → P2 x0 x1 x2 → C) : C := h.elim fun x0 h => h.elim fun x1 h => h.elim fun x2 h => f x0 x1 x2 h.1 h.2.1 h.2.2
theorem ee34 {α0 α1 α2 : Sort _} {P0 P1 P2 P3 : α0 → α1 → α2 → Prop} {C : Prop} (h : ∃ x0 x1 x2, P0 x0 x1 x2 ∧ P1 x0 x1 x2 ∧ P2 x0 x1 x2 ∧ P3 x0 x1 x2) (f : ∀ x0 x1 x2, P0 x0 x1 x2 → P1 x0 x1 x2 → P2 x0 x1 x2 → P3 x0 x1 x2 → C) : C := h.elim fun x0 h => h.elim fun x1 h => h.elim fun x2 h => f x0 x1 x2 h.1 h.2.1 h.2.2.1 h.2.2.2
theorem ee41 {α0 α1 α2 α3 : Sort _} {P0 : α0 → α1 → α2 → α3 → Prop} {C : Prop} (h : ∃ x0 x1 x2 x3, P0 x0 x1 x2 x3) (f : ∀ x0 x1 x2 x3, P0 x0 x1 x2 x3 → C) : C := h.elim fun x0 h => h.elim fun x1 h => h.elim fun x2 h => h.elim fun x3 h => f x0 x1 x2 x3 h
theorem ee42 {α0 α1 α2 α3 : Sort _} {P0 P1 : α0 → α1 → α2 → α3 → Prop} {C : Prop} (h : ∃ x0 x1 x2 x3, P0 x0 x1 x2 x3 ∧ P1 x0 x1 x2 x3) (f : ∀ x0 x1 x2 x3, P0 x0 x1 x2 x3 → P1 x0 x1 x2 x3 → C) : C := h.elim fun x0 h => h.elim fun x1 h => h.elim fun x2 h => h.elim fun x3 h => f x0 x1 x2 x3 h.1 h.2
theorem ee43 {α0 α1 α2 α3 : Sort _} {P0 P1 P2 : α0 → α1 → α2 → α3 → Prop} {C : Prop} (h : ∃ x0 x1 x2 x3, P0 x0 x1 x2 x3 ∧ P1 x0 x1 x2 x3 ∧ P2 x0 x1 x2 x3) (f : ∀ x0 x1 x2 x3, P0 x0 x1 x2 x3 → P1 x0 x1 x2 x3 → P2 x0 x1 x2 x3 → C) : C := h.elim fun x0 h => h.elim fun x1 h => h.elim fun x2 h => h.elim fun x3 h => f x0 x1 x2 x3 h.1 h.2.1 h.2.2
theorem ee44 {α0 α1 α2 α3 : Sort _} {P0 P1 P2 P3 : α0 → α1 → α2 → α3 → Prop} {C : Prop} (h : ∃ x0 x1 x2 x3, P0 x0 x1 x2 x3 ∧ P1 x0 x1 x2 x3 ∧ P2 x0 x1 x2 x3 ∧ P3 x0 x1 x2 x3) (f : ∀ x0 x1 x2 x3, P0 x0 x1 x2 x3 → P1 x0 x1 x2 x3 → P2 x0 x1 x2 x3 → P3 x0 x1 x2 x3 → C) : C := h.elim fun x0 h => h.elim fun x1 h => h.elim fun x2 h => h.elim fun x3 h => f x0 x1 x2 x3 h.1 h.2.1 h.2.2.1 h.2.2.2
theorem ee46 {α0 α1 α2 α3 : Sort _} {P0 P1 P2 P3 P4 P5 : α0 → α1 → α2 → α3 → Prop} {C : Prop} (h : ∃ x0 x1 x2 x3, P0 x0 x1 x2 x3 ∧ P1 x0 x1 x2 x3 ∧ P2 x0 x1 x2 x3 ∧ P3 x0 x1 x2 x3 ∧ P4 x0 x1 x2 x3 ∧ P5 x0 x1 x2 x3) (f : ∀ x0 x1 x2 x3, P0 x0 x1 x2 x3 → P1 x0 x1 x2 x3 → P2 x0 x1 x2 x3 → P3 x0 x1 x2 x3 → P4 x0 x1 x2 x3 → P5 x0 x1 x2 x3 → C) : C := h.elim fun x0 h => h.elim fun x1 h => h.elim fun x2 h => h.elim fun x3 h => f x0 x1 x2 x3 h.1 h.2.1 h.2.2.1 h.2.2.2.1 h.2.2.2.2.1 h.2.2.2.2.2
theorem ee47 {α0 α1 α2 α3 : Sort _} {P0 P1 P2 P3 P4 P5 P6 : α0 → α1 → α2 → α3 → Prop} {C : Prop} (h : ∃ x0 x1 x2 x3, P0 x0 x1 x2 x3 ∧ P1 x0 x1 x2 x3 ∧ P2 x0 x1 x2 x3 ∧ P3 x0 x1 x2 x3 ∧ P4 x0 x1 x2 x3 ∧ P5 x0 x1 x2 x3 ∧ P6 x0 x1 x2 x3) (f : ∀ x0 x1 x2 x3, P0 x0 x1 x2 x3 → P1 x0 x1 x2 x3 → P2 x0 x1 x2 x3 → P3 x0 x1 x2 x3 → P4 x0 x1 x2 x3 → P5 x0 x1 x2 x3 → P6 x0 x1 x2 x3 → C) : C := h.elim fun x0 h => h.elim fun x1 h => h.elim fun x2 h => h.elim fun x3 h => f x0 x1 x2 x3 h.1 h.2.1 h.2.2.1 h.2.2.2.1 h.2.2.2.2.1 h.2.2.2.2.2.1 h.2.2.2.2.2.2
theorem ee51 {α0 α1 α2 α3 α4 : Sort _} {P0 : α0 → α1 → α2 → α3 → α4 → Prop} {C : Prop} (h : ∃ x0 x1 x2 x3 x4, P0 x0 x1 x2 x3 x4) (f : ∀ x0 x1 x2 x3 x4, P0 x0 x1 x2 x3 x4 → C) : C := h.elim fun x0 h => h.elim fun x1 h => h.elim fun x2 h => h.elim fun x3 h => h.elim fun x4 h => f x0 x1 x2 x3 x4 h
theorem ee55 {α0 α1 α2 α3 α4 : Sort _} {P0 P1 P2 P3 P4 : α0 → α1 → α2 → α3 → α4 → Prop} {C : Prop} (h : ∃ x0 x1 x2 x3 x4, P0 x0 x1 x2 x3 x4 ∧ P1 x0 x1 x2 x3 x4 ∧ P2 x0 x1 x2 x3 x4 ∧ P3 x0 x1 x2 x3 x4 ∧ P4 x0 x1 x2 x3 x4) (f : ∀ x0 x1 x2 x3 x4, P0 x0 x1 x2 x3 x4 → P1 x0 x1 x2 x3 x4 → P2 x0 x1 x2 x3 x4 → P3 x0 x1 x2 x3 x4 → P4 x0 x1 x2 x3 x4 → C) : C := h.elim fun x0 h => h.elim fun x1 h => h.elim fun x2 h => h.elim fun x3 h => h.elim fun x4 h => f x0 x1 x2 x3 x4 h.1 h.2.1 h.2.2.1 h.2.2.2.1 h.2.2.2.2
theorem ee61 {α0 α1 α2 α3 α4 α5 : Sort _} {P0 : α0 → α1 → α2 → α3 → α4 → α5 → Prop} {C : Prop} (h : ∃ x0 x1 x2 x3 x4 x5, P0 x0 x1 x2 x3 x4 x5) (f : ∀ x0 x1 x2 x3 x4 x5, P0 x0 x1 x2 x3 x4 x5 → C) : C := h.elim fun x0 h => h.elim fun x1 h => h.elim fun x2 h => h.elim fun x3 h => h.elim fun x4 h => h.elim fun x5 h => f x0 x1 x2 x3 x4 x5 h
theorem ee71 {α0 α1 α2 α3 α4 α5 α6 : Sort _} {P0 : α0 → α1 → α2 → α3 → α4 → α5 → α6 → Prop} {C : Prop} (h : ∃ x0 x1 x2 x3 x4 x5 x6, P0 x0 x1 x2 x3 x4 x5 x6) (f : ∀ x0 x1 x2 x3 x4 x5 x6, P0 x0 x1 x2 x3 x4 x5 x6 → C) : C := h.elim fun x0 h => h.elim fun x1 h => h.elim fun x2 h => h.elim fun x3 h => h.elim fun x4 h => h.elim fun x5 h => h.elim fun x6 h => f x0 x1 x2 x3 x4 x5 x6 h
theorem ee81 {α0 α1 α2 α3 α4 α5 α6 α7 : Sort _} {P0 : α0 → α1 → α2 → α3 → α4 → α5 → α6 → α7 → Prop} {C : Prop} (h : ∃ x0 x1 x2 x3 x4 x5 x6 x7, P0 x0 x1 x2 x3 x4 x5 x6 x7) (f : ∀ x0 x1 x2 x3 x4 x5 x6 x7, P0 x0 x1 x2 x3 x4 x5 x6 x7 → C) : C := h.elim fun x0 h => h.elim fun x1 h => h.elim fun x2 h => h.elim fun x3 h => h.elim fun x4 h => h.elim fun x5 h => h.elim fun x6 h => h.elim fun x7 h => f x0 x1 x2 x3 x4 x5 x6 x7 h
theorem ee87 {α0 α1 α2 α3 α4 α5 α6 α7 : Sort _} {P0 P1 P2 P3 P4 P5 P6 : α0 → α1 → α2 → α3 → α4 → α5 → α6 → α7 → Prop} {C : Prop} (h : ∃ x0 x1 x2 x3 x4 x5 x6 x7, P0 x0 x1 x2 x3 x4 x5 x6 x7 ∧ P1 x0 x1 x2 x3 x4 x5 x6 x7 ∧ P2 x0 x1 x2 x3 x4 x5 x6 x7 ∧ P3 x0 x1 x2 x3 x4 x5 x6 x7 ∧ P4 x0 x1 x2 x3 x4 x5 x6 x7 ∧ P5 x0 x1 x2 x3 x4 x5 x6 x7 ∧ P6 x0 x1 x2 x3 x4 x5 x6 x7) (f : ∀ x0 x1 x2 x3 x4 x5 x6 x7, P0 x0 x1 x2 x3 x4 x5 x6 x7 → P1 x0 x1 x2 x3 x4 x5 x6 x7 → P2 x0 x1 x2 x3 x4 x5 x6 x7 → P3 x0 x1 x2 x3 x4 x5 x6 x7 → P4 x0 x1 x2 x3 x4 x5 x6 x7 → P5 x0 x1 x2 x3 x4 x5 x6 x7 → P6 x0 x1 x2 x3 x4 x5 x6 x7 → C) : C := h.elim fun x0 h => h.elim fun x1 h => h.elim fun x2 h => h.elim fun x3 h => h.elim fun x4 h => h.elim fun x5 h => h.elim fun x6 h => h.elim fun x7 h => f x0 x1 x2 x3 x4 x5 x6 x7 h.1 h.2.1 h.2.2.1 h.2.2.2.1 h.2.2.2.2.1 h.2.2.2.2.2.1 h.2.2.2.2.2.2
theorem mcE {α : Type} {a p : α} {l : List α} {C : α → Prop} (h : p ∈ a :: l) (h1 : C a) (h2 : p ∈ l → C p) : C p := (List.mem_cons.mp h).elim (fun e => e ▸ h1) h2
theorem nsE {α : Type} {a : α} {C : Prop} (e : none = some a) : C := nomatch e
theorem ftE {C : Prop} (e : false = true) : C := nomatch e
theorem spE {α β : Type} {a c : α} {b d : β} (e : some (a, b) = some (c, d)) : a = c ∧ b = d := Prod.mk.inj (Option.some.inj e)
abbrev LOOSE : List Str := (looseW viewE Mine.LL)
structure Cx (w : World) (mean : ExcName → Option Value) (mg mb : Str → Option Value) (A₀ : Around) (base : Heap) (outer : List Env) (h₀ : Heap) (L : Addr) (m : Str → Option Value) (cs : Scope) (s : Shared) (news : List (Addr × Obj)) (dp un D : Nat) : Prop where
 B : Below A₀ base outer h₀
 F : Fr h₀ L s.heap m
 X : (KO w.params).In h₀
 N : News h₀ L s.heap news
 T : Top viewE LOOSE mean mg mb h₀
 K : cs.kind = .function
 d : dp + D < recursionLimit
 u : un + 40 * D < cLine
noncomputable abbrev kv (P : Params) (n : String) (t : Tok) (v : Value) : DictEntry := ⟨PyData.keyHash P (Str.ofString n), .str (Str.ofString n) t, v⟩
abbrev tokD (P : Params) (t1 t2 t3 t4 t5 : Tok) (sort : Str) (ts : Tok) (text : Str) (tt : Tok) (v : Value) (row : Int) (tr : Tok) (col : Int) (tc : Tok) : Obj :=
 dictOf [kv P "sort" t1 (.str sort ts), kv P "text" t2 (.str text tt), kv P "value" t3 v, kv P "row" t4 (.int row tr), kv P "column" t5 (.int col tc)] 5
abbrev brD (P : Params) (t1 t2 t3 : Tok) (l : Addr) (row : Int) (tr : Tok) (col : Int) (tc : Tok) : Obj :=
 dictOf [kv P "items" t1 (.ref l), kv P "row" t2 (.int row tr), kv P "column" t3 (.int col tc)] 3
inductive Tr where
 | tok (sort text : Str) (val : Option Int) (row col : Int)
 | br (items : List Tr) (row col : Int)
noncomputable def VOk (v : Value) : Option Int → Prop
 | some n => ∃ t, v = .int n t
 | none => True
mutual
inductive TAt (P : Params) (R : List (Addr × Obj)) : Value → Tr → Prop
 | tok {x dx t1 t2 t3 t4 t5 sort ts text tt v row tr col tc val} : (x, instObj 116 dx) ∈ R → (dx, tokD P t1 t2 t3 t4 t5 sort ts text tt v row tr col tc) ∈ R → VOk v val → TAt P R (.ref x) (.tok sort text val row col)
 | br {x dx t1 t2 t3 l row tr col tc vs k items} : (x, instObj 144 dx) ∈ R → (dx, brD P t1 t2 t3 l row tr col tc) ∈ R → (l, W.listOf (vs : List Value).toArray k) ∈ R → vs.length ≤ 16777216 → TsAt P R vs items → TAt P R (.ref x) (.br items row col)
inductive TsAt (P : Params) (R : List (Addr × Obj)) : List Value → List Tr → Prop
 | nil : TsAt P R [] []
 | cons {v t vs ts} : TAt P R v t → TsAt P R vs ts → TsAt P R (v :: vs) (t :: ts)
end
theorem TAt.mono {P : Params} {R R' : List (Addr × Obj)} (hs : ∀ p ∈ R, p ∈ R') {v : Value} {t : Tr} (r : TAt P R v t) : TAt P R' v t :=
 TAt.rec (motive_1 := fun v t _ => TAt P R' v t) (motive_2 := fun vs ts _ => TsAt P R' vs ts) (fun h1 h2 h3 => .tok (hs _ h1) (hs _ h2) h3) (fun h1 h2 h3 hz _ h4 => .br (hs _ h1) (hs _ h2) (hs _ h3) hz h4) .nil (fun _ _ h1 h2 => .cons h1 h2) r
theorem TsAt.mono {P : Params} {R R' : List (Addr × Obj)} (hs : ∀ p ∈ R, p ∈ R') {vs : List Value} {ts : List Tr} (r : TsAt P R vs ts) : TsAt P R' vs ts :=
 TsAt.rec (motive_1 := fun v t _ => TAt P R' v t) (motive_2 := fun vs ts _ => TsAt P R' vs ts) (fun h1 h2 h3 => .tok (hs _ h1) (hs _ h2) h3) (fun h1 h2 h3 hz _ h4 => .br (hs _ h1) (hs _ h2) (hs _ h3) hz h4) .nil (fun _ _ h1 h2 => .cons h1 h2) r
theorem TsAt.iNil {P : Params} {R : List (Addr × Obj)} {vs : List Value} (r : TsAt P R vs []) : vs = [] := by cases r; rfl
theorem TsAt.iCons {P : Params} {R : List (Addr × Obj)} {vs : List Value} {t : Tr} {ts : List Tr} (r : TsAt P R vs (t :: ts)) : ∃ v vs', vs = v :: vs' ∧ TAt P R v t ∧ TsAt P R vs' ts := by
 cases r with
 | cons a b => exact ⟨_, _, rfl, a, b⟩
theorem TsAt.length {P : Params} {R : List (Addr × Obj)} {vs : List Value} {ts : List Tr} (r : TsAt P R vs ts) : vs.length = ts.length := by
 induction ts generalizing vs with
 | nil => rw [r.iNil]; rfl
 | cons t ts ih =>
  refine ee23 r.iCons fun _ _ qe2 _ b => ?_; subst qe2
  exact congrArg (· + 1) (ih b)
noncomputable def HAt (P : Params) (R : List (Addr × Obj)) (v : Value) : Option Tr → Prop
 | none => v = .none
 | some t => TAt P R v t
noncomputable def Tr.row : Tr → Int
 | .tok _ _ _ r _ => r
 | .br _ r _ => r
noncomputable def Tr.col : Tr → Int
 | .tok _ _ _ _ c => c
 | .br _ _ c => c
theorem TsAt.get {P : Params} {R : List (Addr × Obj)} : ∀ {vs : List Value} {ts : List Tr} (i : Nat), TsAt P R vs ts → HAt P R ((vs[i]?).getD .none) ts[i]?
 | [], _, i, .nil => rfl
 | v :: vs, _, 0, .cons h _ => h
 | v :: vs, _, i + 1, .cons _ h => TsAt.get i h
section
variable {w : World} {A : Around} {R : Result → Shared → Prop} {h : Heap} {g : Array GenState} {d : Drawn} {t : Nat} {os : OsState}
noncomputable abbrev excO (C t : Addr) (dd : Option Addr) : Obj := { cls := .ref C, dict := dd, data := .fields #[.ref t, .none, .none, .none, .bool false, .none] }
noncomputable abbrev tupO (vs : List Value) : Obj := { cls := .type "tuple", data := .seq vs.toArray }
structure ExcMk (M : Model) (h : Heap) (C fI : Addr) (rest : List Value) : Prop where
 obj : ∃ oc od cd sl, h.get? C = some ⟨oc, od, .cls cd, sl⟩ ∧ cd.mro.isEmpty = false ∧ cd.hasDel = false
 call : Looks M h (specialOf (.ref C) "__call__") (some (.builtin "type.__call__"))
 typ : Looks M h (isInstance (.ref C) (.type "type")) true
 made : Looks M h (Bind.madeBy (.ref C)) (some "Exception.__new__")
 chk : Looks M h (checkBuiltinCall "Exception.__new__" ⟨.ref C :: rest, []⟩) ()
 isT : Looks M h (isType (.ref C)) true
 sub : Looks M h (isSubtype (.ref C) (.type "Exception")) true
 noA : Looks M h (isSubtype (.ref C) (.type "AttributeError")) false
 noN : Looks M h (isSubtype (.ref C) (.type "NameError")) false
 here : Looks M h (Bind.madeHere "BaseException.__new__" (.ref C)) ()
 self : Looks M h (isSubtype (.ref C) (.ref C)) true
 init : Looks M h (typeLookup (.ref C) "__init__") (some (.ref fI))
 bind : ∀ self, Looks M h (bindSpecial (.ref fI) self) (.ref fI, [self])
noncomputable def clsOkIn (K : Frag) (C : Addr) : Bool := match K.lookup C with
 | some ⟨_, _, .cls cd, _⟩ => !cd.mro.isEmpty && !cd.hasDel
 | _ => false
theorem clsOk_of {K : Frag} {h : Heap} (X : K.In h) {C : Addr} (e : clsOkIn K C = true) : ∃ oc od cd sl, h.get? C = some ⟨oc, od, .cls cd, sl⟩ ∧ cd.mro.isEmpty = false ∧ cd.hasDel = false := by
 unfold clsOkIn at e
 split at e
 ·rename_i ho
  simp only [Bool.and_eq_true, Bool.not_eq_true'] at e
  exact ⟨_, _, _, _, X _ _ ho, e.1, e.2⟩
 ·exact ftE e
theorem excMk58 (X : (KO w.params).In h) (a b c : Value) : ExcMk (model pw_nm0149_01 w) h 58 55 [a, b, c] where
 obj := clsOk_of X (by kernel_rfl)
 call := Looks.of_peek X (by kernel_rfl)
 typ := Looks.of_peek X (by kernel_rfl)
 made := Looks.of_peek X (by kernel_rfl)
 chk := Looks.of_peek X (by kernel_rfl)
 isT := Looks.of_peek X (by kernel_rfl)
 sub := Looks.of_peek X (by kernel_rfl)
 noA := Looks.of_peek X (by kernel_rfl)
 noN := Looks.of_peek X (by kernel_rfl)
 here := Looks.of_peek X (by kernel_rfl)
 self := Looks.of_peek X (by kernel_rfl)
 init := Looks.of_peek X (by kernel_rfl)
 bind := fun s => Looks.of_peek X (by kernel_rfl)
theorem new_E {C : Addr} {rest : List Value} {fI : Addr} (Y : ExcMk (model pw_nm0149_01 w) h C fI rest) (hrest : rest.length ≤ sizeLine)
  (hq : R (.ok (.ret (.ref (h.objs.size + 1)))) ⟨(h.push (tupO rest)).push (excO C h.objs.size none), g, d, t, os⟩) :
  codeAny (model pw_nm0149_01 w) A (.call (.builtin "Exception.__new__") ⟨.ref C :: rest, []⟩) R ⟨h, g, d, t, os⟩ := by
 obtain ⟨⟨oc, od, cd, sl, hC, e1, e2⟩, call, typ, made, chk, isT, sub, noA, noN, here, self, init, bind⟩ := Y
 have Fc := PySem.F.excCall_Exception
 refine codeAny_call_builtin_code (Code.quiet_builtin _ Fc.quiet) (chk.at ?_)
 refine PySem.codeAny_builtinAt Fc.entry ?_
 unfold Builtin.«BaseException.__new__»
 refine PySem.wpAt_bind ?_
 show PySem.wpAt _ _ _ (stack >>= _) _ _ _
 refine PySem.wpAt_bind (PySem.wpAt_stack fun p below => PySem.wpAt_of_wpAny ?_)
 have hends := Fc.ends
 wp_walk
 refine PySem.wpAt_of_wpAny ?_
 rw [Fc.owner]
 have here' := here
 repeat (first | with_reducible refine wpAny_loadPart_at hC ?_ | lk)
 rw [if_neg (by rw [List.size_toArray]; omega)]
 have hC₁ := Heap.get?_push_of_some (tupO rest) hC
 have hC₂ := Heap.get?_push_of_some (excO C h.objs.size none) hC₁
 repeat (first | with_reducible refine wpAny_loadPart_at hC ?_ | lk)
 rw [e2, if_neg (by decide)]
 refine wpAny_pure (wpAny_pure ?_)
 show R _ _
 rw [Heap.size_push]
 exact hq
theorem make_E {C : Addr} {rest : List Value} {fI : Addr} (Y : ExcMk (model pw_nm0149_01 w) h C fI rest) (hrest : rest.length ≤ sizeLine)
  (hq : codeAny (model pw_nm0149_01 w) (A.under (.builtin "type.__call__" ⟨.ref C :: rest, []⟩)) (.call (.ref fI) ⟨.ref (h.objs.size + 1) :: rest, []⟩) (InitBack (h.objs.size + 1) R) ⟨(h.push (tupO rest)).push (excO C h.objs.size none), g, d, t, os⟩) :
  codeAny (model pw_nm0149_01 w) A (.call (.ref C) ⟨rest, []⟩) R ⟨h, g, d, t, os⟩ := by
 have Y' := Y
 obtain ⟨⟨oc, od, cd, sl, hC, e1, e2⟩, call, typ, made, chk, isT, sub, noA, noN, here, self, init, bind⟩ := Y
 refine codeAny_of_tree ?_
 show wpAny _ _ (callAny (.ref C) _) _ _ _
 refine nd_load hC ?_
 show wpAny _ _ (callAny.viaDunder (.ref C) _) _ _ _
 unfold callAny.viaDunder
 refine wpAny_bind (call.at ?_)
 dsimp only
 rw [PySem.tc_bind]
 refine wpAny_bind (wpAny_pure (wpAny_bind (wpAny_pure ?_)))
 refine wpAny_pure (a := Fin.again (.call (.builtin "type.__call__") ⟨.ref C :: rest, []⟩)) (And.intro rfl ?_)
 refine codeAny_call_builtin_at (Code.quiet_builtin _ (by decide +kernel)) entry_typeCall (check_slot tc_kind tc_split typ (tc_args _ _ _) ?_)
 unfold Builtin.«type.__call__»
 have hm : Looks (model pw_nm0149_01 w) h (mroOf (.ref C)) cd.mro := ((Looks.ld (part := none) hC).andThen .now).andThen .now
 repeat (first | simp only [e1, Bool.false_eq_true, if_false] | with_reducible refine wpAny_call ?_ | lk)
 refine new_E Y' hrest ?_
 have k : ∀ b o, h.get? b = some o → ((h.push (tupO rest)).push (excO C h.objs.size none)).get? b = some o := fun b o e => Heap.get?_push_of_some _ (Heap.get?_push_of_some _ e)
 have hx : ((h.push (tupO rest)).push (excO C h.objs.size none)).get? (h.objs.size + 1) = some (excO C h.objs.size none) := by heap_get
 have t1 : Looks (model pw_nm0149_01 w) ((h.push (tupO rest)).push (excO C h.objs.size none)) (typeOf (.ref (h.objs.size + 1))) (.ref C) := (Looks.ld hx).andThen .now
 have s1 := self.keeps k
 have i1 := init.keeps k
 have b1 := (bind (.ref (h.objs.size + 1))).keeps k
 unfold isInstance callSpecial? specialOf
 repeat (first | with_reducible refine wpAny_call ?_ | lk)
 refine codeAny_mono hq fun r s' z => ?_
 rcases r with e | (v | _ | _ | _) <;> first | exact z | exact z.elim | skip
 obtain ⟨rfl, z⟩ := z
 exact wpAny_pure (wpAny_pure z)
end
section
variable {w : World} {A : Around} {E : Value → Shared → Prop} {s : Shared} {h₀ : Heap} {L : Addr} {m : Str → Option Value} {news : List (Addr × Obj)}
theorem exc_init {C e t : Addr} {dd : Option Addr} {v : Value} {Q : Value → Shared → Prop} (F : Fr h₀ L s.heap m) (N : News h₀ L s.heap ((e, excO C t dd) :: news)) (hne : ∀ p ∈ news, p.1 ≠ e)
  (hC : ∃ oc od cd sl, s.heap.get? C = some ⟨oc, od, .cls cd, sl⟩ ∧ cd.mro.isEmpty = false ∧ cd.hasDel = false)
  (hsub : Looks (model pw_nm0149_01 w) s.heap (isSubtype (.ref C) (.type "Exception")) true)
  (h : ∀ t' h', Fr h₀ L h' m → News h₀ L h' ((e, excO C t' dd) :: (t', tupO [v]) :: news) → (∀ p ∈ (t', tupO [v]) :: news, p.1 ≠ e) → (∀ p ∈ news, p.1 ≠ t') → Q .none { s with heap := h' }) :
  wpAny (model pw_nm0149_01 w) A (call (.builtin "Exception.__init__") [.ref e, v]) Q E s := by
 have Fc := PySem.F.excCall_Exception
 refine ee43 hC fun oc od cd sl hC _ _ => ?_
 obtain ⟨hh, g, d, tk, os⟩ := s
 have he := (N _ (.head _)).1
 have T1 : Looks (model pw_nm0149_01 w) hh (isInstance (.ref e) (.type "Exception")) true := ((Looks.ld (M := model pw_nm0149_01 w) (part := some headPart) he).andThen .now).andThen hsub
 refine wpAny_call (codeAny_call_builtin Fc.init.plain Fc.initEntry ?_)
 simp only [checkBuiltinCall, Fc.initKind, Fc.initSplit, Fc.initRow]
 have he' := Heap.get?_push_of_some (tupO [v]) he
 repeat (first | simp only [Bool.not_true, Bool.false_eq_true, if_false] | lk)
 have F1 := F.push (tupO [v])
 have N1 := N.push F (tupO [v])
 have hl : ∀ p ∈ (e, excO C t dd) :: news, p.1 < hh.objs.size := fun p hp => Heap.lt_size (N p hp).1
 obtain ⟨F2, N2⟩ := news_upd (pre := [(hh.objs.size, tupO [v])]) (o' := excO C hh.objs.size dd) (f := Obj.mapFields fun x => x.setIfInBounds 0 (Value.ref hh.objs.size)) F1 N1
  (fun p hp => by rcases List.mem_singleton.mp hp with rfl; exact Nat.ne_of_gt (hl (e, excO C t dd) (.head _))) hne rfl rfl
 refine wpAny_updatePart he' (wpAny_letGo (wpAny_pure ?_))
 exact h _ _ F2 (fun p hp => N2 p (by
  apply mcE hp
  ·exact .tail _ (.head _)
  ·intro hp; rcases List.mem_cons.mp hp with rfl | hp
   ·exact .head _
   ·exact .tail _ (.tail _ hp))) (fun p hp => by
  apply mcE hp
  ·exact Nat.ne_of_gt (hl (e, excO C t dd) (.head _))
  ·intro hp; exact hne p hp) (fun p hp => Nat.ne_of_lt (hl p (.tail _ hp)))
end
section
open Builtin Builtin.ObjectAttr Builtin.Getset_descriptor
variable {w : World} {A : Around} {E : Value → Shared → Prop} {s : Shared} {h₀ : Heap} {L : Addr} {m : Str → Option Value} {news : List (Addr × Obj)}
theorem set_open {e : Addr} {oe : Obj} {name : Str} {v : Value} {Q : Unit → Shared → Prop} (X : (KO w.params).In s.heap) (he : s.heap.get? e = some oe) (hc : oe.cls = .ref 58)
  (hs : findIn (KO w.params) (.ref 58) name = some none)
  (h : ∀ A', wpAny (model pw_nm0149_01 w) A' (storeInOwnDict (.ref e) (.ref 58) (.str name s.toks) name v false)
   (fun fin s' => match fin with | .done (.ret _) => Q () s' | _ => False) E { s with toks := s.toks + 1 }) :
  wpAny (model pw_nm0149_01 w) A (setAttr (.ref e) name v) Q E s := by
 have SF := PySem.F.store_object
 obtain ⟨hh, g, d, tk, os⟩ := s
 have tO : Looks (model pw_nm0149_01 w) hh (typeOf (.ref e)) (.ref 58) := hc ▸ (Looks.ld (M := model pw_nm0149_01 w) (part := some headPart) he).andThen .now
 have sA : Looks (model pw_nm0149_01 w) hh (typeLookup (.ref 58) "__setattr__") (some (.builtin "object.__setattr__")) := Looks.of_peek X (by kernel_rfl)
 have sS : Looks (model pw_nm0149_01 w) hh (isInstance (.ref e) (.type "object")) true := tO.andThen (Looks.of_peek X (by kernel_rfl))
 have sM : Looks (model pw_nm0149_01 w) hh (mroOf (.ref 58)) [.ref 58, .ref 38, .type "Exception", .type "BaseException", .type "object"] := Looks.of_peek X (by kernel_rfl)
 have sR : Looks (model pw_nm0149_01 w) hh (refuseLoop (.ref e) "__setattr__" [.ref 58, .ref 38, .type "Exception", .type "BaseException", .type "object"]) () := Looks.of_peek X (by kernel_rfl)
 have sN : Looks (model pw_nm0149_01 w) hh (typeLookup (.ref 58) name) none := looks_findIn X hs
 have sT : Looks (model pw_nm0149_01 w) hh (storeTaker? none) none := Looks.now
 unfold setAttr callSpecial? specialOf
 refine wpAny_bind (wpAny_mkText (wpAny_bind (wpAny_bind (wpAny_bind (tO.at (sA.at (wpAny_holding ?_)))))))
 rw [SF.slot.bind]
 refine wpAny_bind (wpAny_pure (wpAny_bind (wpAny_call (codeAny_call_builtin SF.slot.plain SF.entry (@check_slot (model pw_nm0149_01 w) _ _ ⟨hh, g, d, tk + 1, os⟩ "object.__setattr__" "object" "__setattr__" (.ref e) [.str name tk, v] [] _ SF.kind SF.split sS (SF.args (.ref e) (.str name tk) v) ?_)))))
 show wpAny _ _ (Builtin.«object.__setattr__» ⟨[.ref e, .str name tk, v], []⟩) _ _ _
 rw [osa_eq, refuse_eq]
 refine wpAny_bind (wpAny_bind (tO.at (wpAny_bind (sM.at (sR.at ?_)))))
 refine wpAny_bind (tO.at (wpAny_bind (sN.at (wpAny_bind (sT.at ?_)))))
 dsimp only
 refine wpAny_mono (h _) (fun fin s' hq => ?_) fun _ _ z => z
 rcases fin with (f | c)
 ·cases f with
  | ret v => exact wpAny_pure (wpAny_pure hq)
  | _ => exact hq.elim
 ·exact hq.elim
set_option tactic.hygienic true in
theorem storeInDict_N {dx : Addr} {es es' : List DictEntry} {n n' : Nat} {pre post : List (Addr × Obj)} {name : Str} {tk0 : Tok} {v : Value} {Q : PySem.Fin → Shared → Prop} (F : Fr h₀ L s.heap m) (N : News h₀ L s.heap (pre ++ (dx, dictOf es n) :: post))
  (h1 : ∀ p ∈ pre, p.1 ≠ dx) (h2 : ∀ p ∈ post, p.1 ≠ dx) (hl : (getL name es).isSome = true) (e : (putL name (PyData.keyHash w.params name) (.str name s.toks) v es, putN name es n) = (es', n')) (hz : es'.length ≤ 1000)
  (h : ∀ h', Fr h₀ L h' m → News h₀ L h' (pre ++ (dx, dictOf es' n') :: post) → Q (.done (.ret .none)) { s with heap := h', toks := s.toks + 1 }) :
  wpAny (model pw_nm0149_01 w) A (storeInDict dx (.str name tk0) name v) Q E s := by
 obtain ⟨e1, e2⟩ := Prod.mk.inj e
 obtain ⟨U1, U2⟩ := news_upd (f := Obj.putName name (PyData.keyHash w.params name) (.str name s.toks) v) (o' := dictOf es' n') F N h1 h2 (by rw [putName_dict, e1, e2]) rfl
 have D := (N (dx, dictOf es n) (by simp)).1
 have D' := (U2 (dx, dictOf es' n') (by simp)).1
 unfold storeInDict
 refine wpAny_bind (wpAny_pure (wpAny_bind ?_))
 unfold nsSet
 refine wpAny_bind (wpAny_bind (wpAny_askSetting (wpAny_pure (wpAny_bind (wpAny_mkText (wpAny_bind (wpAny_loadPart D ?_)))))))
 dsimp only
 have c : (!es.toArray.any (·.key.isStr name) && es.toArray.any (·.refKey)) = false := by
  rw [List.any_toArray, List.any_toArray]
  unfold getL at hl
  split at hl
  ·rename_i en he
   rw [List.any_eq_true.mpr ⟨en, List.mem_of_find?_eq_some he, List.find?_some he⟩]; rfl
  ·split at hl
   ·exact ftE hl
   ·rename_i z; rw [Bool.not_eq_true] at z; rw [z, Bool.and_false]
 rw [aRefKeyMayBeTheName_at, c]
 refine wpAny_updatePart D ?_
 refine wpAny_bind (wpAny_lookBehind D' (pastItsLine_dict (by rw [List.size_toArray, sizeLine_eq]; omega)) ?_)
 exact wpAny_pure (h _ U1 U2)
theorem store_E0 {e t : Addr} {v : Value} {name : Str} {tk0 : Tok} {Q : PySem.Fin → Shared → Prop} (X : (KO w.params).In s.heap) (F : Fr h₀ L s.heap m) (N : News h₀ L s.heap ((e, excO 58 t none) :: news)) (hne : ∀ p ∈ news, p.1 ≠ e)
  (h : ∀ dx h', Fr h₀ L h' m → News h₀ L h' ((e, excO 58 t (some dx)) :: (dx, dictOf [⟨PyData.keyHash w.params name, .str name s.toks, v⟩] 1) :: news) → (∀ p ∈ (e, excO 58 t none) :: news, p.1 < dx) → Q (.done (.ret .none)) { s with heap := h', toks := s.toks + 1 }) :
  wpAny (model pw_nm0149_01 w) A (storeInOwnDict (.ref e) (.ref 58) (.str name tk0) name v false) Q E s := by
 obtain ⟨hh, g, d, tk, os⟩ := s
 have he := (N _ (.head _)).1
 have he' := Heap.get?_push_of_some emptyDict he
 have sH : Looks (model pw_nm0149_01 w) hh (classData 58) ((clsIn (KO w.params) 58).getD default) := looks_clsIn X (by kernel_rfl)
 have hhd : ((clsIn (KO w.params) 58).getD default).hasDict = true := by kernel_rfl
 have hl : ∀ p ∈ (e, excO 58 t none) :: news, p.1 < hh.objs.size := fun p hp => Heap.lt_size (N p hp).1
 obtain ⟨F1, N1⟩ := news_upd (pre := [(hh.objs.size, emptyDict)]) (o' := excO 58 t (some hh.objs.size)) (f := fun o => { cls := o.cls, dict := some hh.objs.size, data := o.data, slots := o.slots }) (F.push emptyDict) (N.push F emptyDict)
  (fun p hp => by rcases List.mem_singleton.mp hp with rfl; exact Nat.ne_of_gt (hl (e, excO 58 t none) (.head _))) hne rfl rfl
 unfold storeInOwnDict
 repeat (first | (rw [hhd]) | lk)
 refine wpAny_updatePart he' ?_
 show wpAny _ _ (pure (some hh.objs.size)) _ _ _
 refine wpAny_pure ?_
 have N2 : News h₀ L ((hh.push emptyDict).update e fun o => { cls := o.cls, dict := some hh.objs.size, data := o.data, slots := o.slots }) ([(e, excO 58 t (some hh.objs.size))] ++ (hh.objs.size, dictOf [] 0) :: news) := fun p hp => N1 p (by
  apply mcE hp
  ·exact .tail _ (.head _)
  ·intro hp; rcases List.mem_cons.mp hp with rfl | hp
   ·exact .head _
   ·exact .tail _ (.tail _ hp))
 refine storeInDict_N (s := ⟨_, g, d, tk, os⟩) F1 N2 (fun p hp => by rcases List.mem_singleton.mp hp with rfl; exact Nat.ne_of_lt (hl (e, excO 58 t none) (.head _))) (fun p hp => Nat.ne_of_lt (hl p (.tail _ hp))) rfl rfl (Nat.le_of_ble_eq_true rfl) fun h' F' N' => ?_
 exact h _ _ F' N' hl
theorem set_E0 {e t : Addr} {v : Value} {name : Str} {Q : Unit → Shared → Prop} (X : (KO w.params).In s.heap) (F : Fr h₀ L s.heap m) (N : News h₀ L s.heap ((e, excO 58 t none) :: news)) (hne : ∀ p ∈ news, p.1 ≠ e)
  (hs : findIn (KO w.params) (.ref 58) name = some none)
  (h : ∀ dx h' tk, Fr h₀ L h' m → News h₀ L h' ((e, excO 58 t (some dx)) :: (dx, dictOf [⟨PyData.keyHash w.params name, .str name tk, v⟩] 1) :: news) → (∀ p ∈ news, p.1 ≠ dx) → e ≠ dx → Q () { s with heap := h', toks := tk + 1 }) :
  wpAny (model pw_nm0149_01 w) A (setAttr (.ref e) name v) Q E s :=
 set_open X (N _ (.head _)).1 rfl hs fun A' => store_E0 X F N hne fun dx h' F' N' l => h dx h' _ F' N' (fun p hp => Nat.ne_of_lt (l p (.tail _ hp))) (Nat.ne_of_lt (l (e, excO 58 t none) (.head _)))
theorem set_E1 {e t dx : Addr} {v : Value} {name : Str} {es es' : List DictEntry} {n n' : Nat} {Q : Unit → Shared → Prop} (X : (KO w.params).In s.heap) (F : Fr h₀ L s.heap m) (N : News h₀ L s.heap ((e, excO 58 t (some dx)) :: (dx, dictOf es n) :: news)) (hne : ∀ p ∈ news, p.1 ≠ dx) (hed : e ≠ dx)
  (hs : findIn (KO w.params) (.ref 58) name = some none) (hl : (getL name es).isSome = true) (e' : (putL name (PyData.keyHash w.params name) (.str name (s.toks + 1)) v es, putN name es n) = (es', n')) (hz : es'.length ≤ 1000)
  (h : ∀ h' tk, Fr h₀ L h' m → News h₀ L h' ((e, excO 58 t (some dx)) :: (dx, dictOf es' n') :: news) → Q () { s with heap := h', toks := tk + 1 }) :
  wpAny (model pw_nm0149_01 w) A (setAttr (.ref e) name v) Q E s := by
 refine set_open X (N _ (.head _)).1 rfl hs fun A' => ?_
 obtain ⟨hh, g, d, tk, os⟩ := s
 have he := (N _ (.head _)).1
 have sH : Looks (model pw_nm0149_01 w) hh (classData 58) ((clsIn (KO w.params) 58).getD default) := looks_clsIn X (by kernel_rfl)
 have hhd : ((clsIn (KO w.params) 58).getD default).hasDict = true := by kernel_rfl
 have Y : ∀ A, wpAny (model pw_nm0149_01 w) A (storeInDict dx (.str name tk) name v) (fun fin s' => match fin with | .done (.ret _) => Q () s' | _ => False) E ⟨hh, g, d, tk + 1, os⟩ := fun A =>
  storeInDict_N (pre := [(e, excO 58 t (some dx))]) (s := ⟨hh, g, d, tk + 1, os⟩) F N (fun p hp => by rcases List.mem_singleton.mp hp with rfl; exact hed) hne hl e' hz fun h' F' N' => h h' (tk + 1) F' N'
 unfold storeInOwnDict ownDictForStores instanceDict
 repeat (first | (rw [hhd]) | exact Y _ | lk)
end
section
noncomputable def DSafe {α : Type} : Sem α → Prop
 | .pure _ | .raise _ | .unsupported _ | .finish _ | .register .. | .yield .. | .fork .. | .await .. => True
 | .rule _ k | .at _ k | .point _ k => DSafe (k ())
 | .load _ _ k => ∀ o, DSafe (k o)
 | .update _ _ f k => (∀ o : Obj, (f o).dict = o.dict ∧ (o.isFreed = false → (f o).isFreed = false)) ∧ DSafe (k ())
 | .loadIfAlive _ k => ∀ o, DSafe (k o)
 | .alloc _ k => ∀ a, DSafe (k a)
 | .fresh k => ∀ t, DSafe (k t)
 | .ask k => ∀ S, DSafe (k S)
 | .stack k => ∀ l, DSafe (k l)
 | .handled _ k => ∀ h, DSafe (k h)
 | .choose .. | .os .. | .call .. | .genState .. | .newGen .. | .resume .. | .thread .. => False
theorem DSafe.bind' {α β : Type} : ∀ {m : Sem α} {f : α → Sem β}, DSafe m → (∀ a, DSafe (f a)) → DSafe (m.bind f) := by
 intro m f hm hf
 induction m with
 | pure a => exact hf a
 | rule _ k ih => exact ih () hm
 | «at» _ k ih => exact ih () hm
 | point _ k ih => exact ih () hm
 | load _ _ k ih => exact fun o => ih o (hm o)
 | update _ _ f k ih => exact ⟨hm.1, ih () hm.2⟩
 | loadIfAlive _ k ih => exact fun o => ih o (hm o)
 | alloc _ k ih => exact fun o => ih o (hm o)
 | fresh k ih => exact fun o => ih o (hm o)
 | ask k ih => exact fun o => ih o (hm o)
 | stack k ih => exact fun o => ih o (hm o)
 | handled _ k ih => exact fun o => ih o (hm o)
 | _ => first | trivial | exact hm.elim
theorem DSafe.bind {α β : Type} {m : Sem α} {f : α → Sem β} (hm : DSafe m) (hf : ∀ a, DSafe (f a)) : DSafe (m >>= f) := DSafe.bind' hm hf
noncomputable def DK (h₀ h : Heap) : Prop := ∀ b o, h₀.get? b = some o → ∃ o', h.get? b = some o' ∧ o'.dict = o.dict
theorem DK.refl (h : Heap) : DK h h := fun _ o e => ⟨o, e, rfl⟩
theorem wp_dict {α : Type} {M : Model} {Γ : PySem.Ctx} {h₀ : Heap} : ∀ {t : Sem α} {Q : α → Pos → Shared → Prop} {E : Value → Pos → Shared → Prop} {p : Pos} {s : Shared}, DSafe t → DK h₀ s.heap → Sem.wp M Γ t Q E p s →
  Sem.wp M Γ t (fun a p s' => Q a p s' ∧ DK h₀ s'.heap) (fun e p s' => E e p s' ∧ DK h₀ s'.heap) p s := by
 intro t
 induction t with
 | pure a => exact fun _ d h => ⟨h, d⟩
 | raise e => exact fun _ d h => ⟨h, d⟩
 | rule _ k ih => exact fun hm d h => ih () hm d h
 | «at» _ k ih => exact fun hm d h => ih () hm d h
 | point _ k ih => exact fun hm d h => ih () hm d h
 | load a _ k ih => exact fun hm d ⟨o, ho, h⟩ => ⟨o, ho, ih o (hm o) d h⟩
 | update a _ f k ih =>
  rintro Q E p s ⟨hf, hm⟩ d ⟨ho, h⟩
  refine ⟨ho, ih () hm (fun b o e => ?_) h⟩
  refine ee12 (d b o e) fun o' h1 h2 => ?_
  by_cases q : a = b
  ·subst q
   exact ⟨f o', Heap.get?_update_self f h1 ((hf o').2 (Heap.get?_some_iff.mp h1).2), (hf o').1.trans h2⟩
  ·exact ⟨o', (Heap.get?_update_other _ _ q).trans h1, h2⟩
 | loadIfAlive a k ih => exact fun hm d h => ih _ (hm _) d h
 | alloc o k ih => exact fun hm d h => ih _ (hm _) (fun b o e => let ⟨o', h1, h2⟩ := d b o e; ⟨o', Heap.get?_push_of_some _ h1, h2⟩) h
 | fresh k ih => exact fun hm d h => ih _ (hm _) d h
 | ask k ih => exact fun hm d h => ih _ (hm _) d h
 | stack k ih => exact fun hm d h => ih _ (hm _) d h
 | handled _ k ih => exact fun hm d h => ih _ (hm _) d h
 | choose => exact fun hm => hm.elim
 | os => exact fun hm => hm.elim
 | call => exact fun hm => hm.elim
 | genState => exact fun hm => hm.elim
 | newGen => exact fun hm => hm.elim
 | resume => exact fun hm => hm.elim
 | thread => exact fun hm => hm.elim
 | _ => exact fun _ _ h => h.elim
theorem wpAny_dict {α : Type} {M : Model} {A : Around} {t : Sem α} {Q : α → Shared → Prop} {E : Value → Shared → Prop} {s : Shared} (hm : DSafe t) (h : wpAny M A t Q E s) :
  wpAny M A t (fun a s' => Q a s' ∧ DK s.heap s'.heap) (fun e s' => E e s' ∧ DK s.heap s'.heap) s :=
 fun Γ p hΓ => wp_dict hm (DK.refl _) (h Γ p hΓ)
theorem ds_mapFields (f : Array Value → Array Value) (o : Obj) : (Obj.mapFields f o).dict = o.dict ∧ (o.isFreed = false → (Obj.mapFields f o).isFreed = false) := by
 obtain ⟨c, d, da, sl⟩ := o
 cases da <;> exact ⟨rfl, fun h => h⟩
theorem ds_load (a : Addr) : DSafe (load a) := fun _ => trivial
theorem ds_fieldsOf (v : Value) : DSafe (fieldsOf v) := by
 unfold fieldsOf
 cases v with
 | ref a => exact (ds_load a).bind fun o => by cases o.data <;> trivial
 | _ => trivial
theorem ds_field (v : Value) (i : Nat) : DSafe (field v i) := (ds_fieldsOf v).bind fun a => by
 split <;> trivial
theorem ds_setField (v : Value) (i : Nat) (x : Value) : DSafe (setField v i x) := by
 unfold setField
 cases v with
 | ref a =>
  refine (ds_load a).bind fun o => ?_
  split
  ·split
   ·exact ⟨ds_mapFields _, trivial⟩
   ·trivial
  ·trivial
 | _ => trivial
theorem ds_stack : DSafe stack := fun _ => trivial
theorem ds_readyFrames : ∀ l, DSafe (readyFrames l)
 | [] => trivial
 | env :: outer => by
  unfold readyFrames
  split
  ·refine (ds_load _).bind fun o => ?_
   split
   ·trivial
   ·refine DSafe.bind ?_ fun i => DSafe.bind ?_ fun k => DSafe.bind ⟨fun o => ⟨rfl, fun h => (kts_isFreed o _).trans h⟩, trivial⟩ fun _ => ds_readyFrames outer
    ·unfold behindIsImport
     repeat' (first | trivial | split | exact (ds_field _ _).bind fun _ => trivial | refine DSafe.bind ?_ fun _ => ?_)
    ·unfold keptBack
     split
     ·split
      ·trivial
      ·unfold underTheClaimsCaller
       exact DSafe.bind (ds_stack.bind fun _ => trivial) fun _ => trivial
     ·trivial
  ·trivial
theorem ds_frameEnvs : DSafe frameEnvs := ds_stack.bind fun _ => trivial
theorem ds_frameOf (env : Env) : DSafe (PySem.frameOf env) := by
 unfold PySem.frameOf
 refine ds_frameEnvs.bind fun l => DSafe.bind ?_ fun o => ?_
 ·generalize List.dropWhile _ l = l'
  cases l' with
  | nil => trivial
  | cons e r => exact (ds_readyFrames _).bind fun _ => trivial
 ·split <;> trivial
theorem ds_entryPlaceOf (f : Addr) (b : Bool) : DSafe (entryPlaceOf f b) := by
 unfold entryPlaceOf
 refine ds_stack.bind fun l => ?_
 split <;> trivial
theorem ds_newFields (ty : String) (vs : List Value) : DSafe (newFields ty vs) := by
 unfold newFields newObj
 dsimp only
 split
 ·exact DSafe.bind (m := unsupported _) trivial fun _ => fun _ => trivial
 ·exact fun _ => trivial
theorem ds_newEntry (a b c d e : Value) (l : List Value) : DSafe (EntryCells.newEntry a b c d e l) := ds_newFields _ _
theorem ds_setFlight (e : Value) (f : Option Addr) : DSafe (setFlight e f) := by
 unfold setFlight
 refine (ds_field _ _).bind fun tb => ?_
 split
 ·exact ds_setField _ _ _
 ·trivial
theorem ds_noteFrame (e : Value) (env : Env) : DSafe (noteFrame e env) := by
 unfold noteFrame
 split
 ·refine (ds_field _ _).bind fun hd => ?_
  have last : ∀ f, DSafe (do setField e 1 (← EntryCells.newEntry hd (← PySem.frameOf env) .none (rawInt f) .none (← entryPlaceOf f (hd != .none))) : Sem Unit) := fun f =>
   (ds_frameOf _).bind fun a => (ds_entryPlaceOf _ _).bind fun pl => (ds_newEntry _ _ _ _ _ _).bind fun b => ds_setField _ _ _
  split
  ·refine (ds_field _ _).bind fun x => ?_
   split
   ·trivial
   ·exact (ds_setField _ _ _).bind fun _ => last _
  ·exact last _
 ·trivial
theorem ds_leaving (env : Env) (e : Value) : DSafe (leaving env e) := (ds_noteFrame _ _).bind fun _ => ds_setFlight _ _
end
section
variable {w : World} {A : Around} {E : Value → Shared → Prop} {s' : Shared} {base g g₂ G : Heap} {outer : List Env} {L a e de t C : Addr} {m : Str → Option Value} {name : Str} {scope : Scope} {cd : Value} {news : List (Addr × Obj)} {vs : List Value}
def RB (base G : Heap) (l : List Env) (C e de t : Addr) (vs : List Value) (news : List (Addr × Obj)) (h : Heap) : Prop :=
 RaisedS base G l e (.ref C) t vs news h ∧ ∃ oe, h.get? e = some oe ∧ oe.dict = some de
theorem leave_bad1 {M : Model} {Q : Unit → Shared → Prop} (K : Below A base outer g) (F : Fr g L s'.heap m) (N : News g L s'.heap ((e, excO C t (some de)) :: (t, tupO vs) :: news)) (hne : ∀ p ∈ news, p.1 ≠ e ∧ p.1 ≠ t)
  (hQ : ∀ h', RB base g outer C e de t vs news h' → g.UpToSlots h' → Q () { s' with heap := h' }) (hk : scope.kind = .function := by rfl) :
  wpAny M (A.deeper (envOf name scope L a cd)) (leaving (envOf name scope L a cd) (.ref e)) Q E s' := by
 have K' := K.push (name := name) (a := a) (cd := cd) F hk
 generalize hfs : (envOf name scope L a cd :: outer).filterMap (·.frame) = fs
 have he := (N _ (.head _)).1
 have hge : g.get? e = none := (N _ (.head _)).2.2
 have hgt : g.get? t = none := (N _ (.tail _ (.head _))).2.2
 have hin : ∀ env ∈ (envOf name scope L a cd :: outer), ∀ b, env.frame = some b → b ∈ e :: t :: fs := fun env he b hb => .tail _ (.tail _ (hfs ▸ List.mem_filterMap.mpr ⟨env, he, hb⟩))
 have bfs : ∀ b ∈ fs, base.get? b = none := fun b hb => (K'.frames.mem (hfs ▸ hb)).1
 have bne : ∀ b o, base.get? b = some o → b ∉ e :: t :: fs := fun b o q hm => by
  rcases List.mem_cons.mp hm with rfl | hm
  ·rw [fresh_of_stays K.stays hge] at q; exact nsE q
  ·rcases List.mem_cons.mp hm with rfl | hm
   ·rw [fresh_of_stays K.stays hgt] at q; exact nsE q
   ·rw [bfs b hm] at q; exact nsE q
 have st : base.StaysIn (hideAll s'.heap (e :: t :: fs)) := fun b o q => hideAll_get _ (K'.stays b o q) (bne b o q)
 have sg : ∀ b o, g.get? b = some o → b ∉ outer.filterMap (·.frame) → (hideAll s'.heap (e :: t :: fs)).get? b = some o := fun b o q nm => hideAll_get _ (F.keep b o q) fun hm => by
  rcases List.mem_cons.mp hm with rfl | hm
  ·rw [hge] at q; exact nsE q
  ·rcases List.mem_cons.mp hm with rfl | hm
   ·rw [hgt] at q; exact nsE q
   ·rw [← hfs] at hm
    rcases kts_mem hm with z | z
    ·rw [z, kts_self F] at q; exact nsE q
    ·exact nm z
 have hl : ∀ q ∈ news, (hideAll s'.heap (e :: t :: fs)).get? q.1 = some q.2 ∧ g.get? q.1 = none ∧ base.get? q.1 = none := fun q hq => by
  have hN := N q (.tail _ (.tail _ hq))
  refine ⟨hideAll_get _ hN.1 fun hm => ?_, hN.2.2, fresh_of_stays K.stays hN.2.2⟩
  rcases List.mem_cons.mp hm with z | hm
  ·exact (hne q hq).1 z
  ·rcases List.mem_cons.mp hm with z | hm
   ·exact (hne q hq).2 z
   ·rw [← hfs] at hm
    refine ee12 (List.mem_filterMap.mp hm) fun env he hf => ?_
    rcases List.mem_cons.mp he with rfl | he
    ·exact hN.2.1 (Option.some.inj hf).symm
    ·refine ee12 ((K.frames.mem (List.mem_filterMap.mpr ⟨env, he, hf⟩)).2) fun o ho _ => ?_
     rw [hN.2.2] at ho; exact nsE ho
 have hen : (hideAll s'.heap (e :: t :: fs)).get? e = none := hideAll_none _ (.head _)
 have htn : (hideAll s'.heap (e :: t :: fs)).get? t = none := hideAll_none _ (.tail _ (.head _))
 refine wpAny_mono (wpAny_dict (ds_leaving _ _) (wpAny_leaving_firstW (a0 := .ref t) (base := hideAll s'.heap (e :: t :: fs)) (Q := fun _ s'' => s'' = { s' with heap := s''.heap } ∧ Heap.LeftW (hideAll s'.heap (e :: t :: fs)) (envOf name scope L a cd :: outer) e (.ref C) (.ref t) s'.heap s''.heap) K'.stack (funFrames_hide K'.frames hin) rfl he (fun b o hb => of_hideAll _ hb) hen rfl rfl rfl fun h' hL => ⟨rfl, hL⟩)) (fun _ s'' hq => ?_) fun _ _ x => x.1
 obtain ⟨⟨hs, k1, ⟨_, _, k2⟩, k3, k4⟩, dk⟩ := hq
 rw [hs]
 refine ee12 (dk e _ he) fun oe he' hd' => ?_
 exact hQ _ ⟨⟨⟨_, st, sg, hl, ⟨k1, hen, k2, k3⟩, htn⟩, Heap.TupAt.of_slots ⟨_, _, (N _ (.tail _ (.head _))).1, rfl, rfl⟩ k4⟩, oe, he', hd'⟩ ((Heap.UpToSlots.of_keeps F.keep).trans k4)
theorem leave_bad2 {M : Model} {Q : Unit → Shared → Prop} (K : Below A base outer g) (F : Fr g L g₂ m) (R : RB base g₂ (envOf name scope L a cd :: outer) C e de t vs news s'.heap) (hsm : g₂.UpToSlots s'.heap)
  (hQ : ∀ h', RB base g outer C e de t vs news h' → g.UpToSlots h' → Q () { s' with heap := h' }) :
  wpAny M (A.deeper (envOf name scope L a cd)) (leaving (envOf name scope L a cd) (.ref e)) Q E s' := by
 obtain ⟨R, oe, he, hd⟩ := R
 refine wpAny_mono (wpAny_dict (ds_leaving _ _) (leave_onS (Q := fun _ s'' => s'' = { s' with heap := s''.heap } ∧ RaisedS base g outer e (.ref C) t vs news s''.heap ∧ g.UpToSlots s''.heap) K F R hsm fun h' r1 _ r3 => ⟨rfl, r1, r3⟩)) (fun _ s'' hq => ?_) fun _ _ x => x.1
 obtain ⟨⟨hs, r1, r3⟩, dk⟩ := hq
 rw [hs]
 refine ee12 (dk e _ he) fun oe' he' hd' => ?_
 exact hQ _ ⟨r1, oe', he', hd'.trans hd⟩ r3
end
section
variable {w : World} {A : Around} {E : Value → Shared → Prop} {s : Shared} {env : Env}
def RaisableC (w : World) (C : Addr) (E : Value → Shared → Prop) (v : Value) (s₁ : Shared) : Prop :=
 ∃ x t dd, v = .ref x ∧ s₁.heap.get? x = some (excO C t dd) ∧ (KO w.params).In s₁.heap ∧ E v s₁
theorem raise_own {C : Addr} {e : PySem.Expr} {pos : Pos} {Q : Flow → Shared → Prop} (hb : subIn (KO w.params) (.ref C) (.type "BaseException") = some true) (ht : typeIn (KO w.params) (.ref C) = some (.type "type")) (hh : A.handled = none)
  (h : wpAny (model pw_nm0149_01 w) A (eval e env) (RaisableC w C E) E s) : wpAny (model pw_nm0149_01 w) A (exec (.Raise (some e) none pos) env) Q E s := by
 show wpAny _ A (do standAt pos; raiseStmt env (some (do let v ← eval e env; standAt pos; pure v)) none) Q E s
 refine wpAny_bind (wpAny_standAt ?_)
 unfold raiseStmt
 dsimp only
 refine wpAny_bind (wpAny_bind (wpAny_mono h (fun v s₁ h₁ => wpAny_bind (wpAny_standAt (wpAny_pure ?_))) fun _ _ x => x))
 refine ee34 h₁ fun x t dd qe3 hx X hE => ?_; subst qe3
 obtain ⟨hp, g, d, tk, os⟩ := s₁
 have tO : Looks (model pw_nm0149_01 w) hp (typeOf (.ref x)) (.ref C) := (Looks.ld (M := model pw_nm0149_01 w) (part := some headPart) hx).andThen .now
 have tC : Looks (model pw_nm0149_01 w) hp (typeOf (.ref C)) (.type "type") := looks_typeIn X ht
 have tB : Looks (model pw_nm0149_01 w) hp (isSubtype (.ref C) (.type "BaseException")) true := looks_subIn X hb
 have iT : Looks (model pw_nm0149_01 w) hp (isType (.ref x)) false := by
  unfold isType
  exact (Looks.ld (M := model pw_nm0149_01 w) hx).andThen .now
 unfold excFromValue isExcClass isInstance raisedInstance setFlight
 repeat (first | exact wpAny_raiseNew_none hh hE | lk)
end
abbrev badD (P : Params) (t1 t2 t3 : Tok) (why : Str) (tw : Tok) (row : Int) (tr : Tok) (col : Int) (tc : Tok) : Obj :=
 dictOf [kv P "why" t1 (.str why tw), kv P "row" t2 (.int row tr), kv P "column" t3 (.int col tc)] 3
theorem bad_end {h₀ h : Heap} {L e dx t' t0 : Addr} {E1 D T1 T0 : Obj} {news : List (Addr × Obj)} (N : News h₀ L h ((e, E1) :: (dx, D) :: (t', T1) :: (t0, T0) :: news)) (a1 : ∀ p ∈ (t', T1) :: (t0, T0) :: news, p.1 ≠ e)
  (a2 : ∀ p ∈ (t0, T0) :: news, p.1 ≠ t') (a3 : ∀ p ∈ (t', T1) :: (t0, T0) :: news, p.1 ≠ dx) (a4 : e ≠ dx) :
  News h₀ L h ((e, E1) :: (t', T1) :: (dx, D) :: news) ∧ ∀ p ∈ (dx, D) :: news, p.1 ≠ e ∧ p.1 ≠ t' := by
 refine ⟨fun p hp => N p ?_, fun p hp => ?_⟩
 ·apply mcE hp
  ·exact .head _
  ·intro hp; rcases List.mem_cons.mp hp with rfl | hp
   ·exact .tail _ (.tail _ (.head _))
   ·apply mcE hp
    ·exact .tail _ (.head _)
    ·intro hp; exact .tail _ (.tail _ (.tail _ (.tail _ hp)))
 ·apply mcE hp
  ·exact ⟨Ne.symm a4, Ne.symm (a3 (t', T1) (.head _))⟩
  ·intro hp; exact ⟨a1 p (.tail _ (.tail _ hp)), a2 p (.tail _ hp)⟩
theorem c_mkBad {w : World} {mean : ExcName → Option Value} {mg mb : Str → Option Value} {A₀ : Around} {base : Heap} {outer : List Env} {h₀ : Heap} {L : Addr} {m : Str → Option Value} {cs : Scope} {s : Shared} {news : List (Addr × Obj)} {dp un : Nat} {gd : Option (List Code)} {cn : Str} {a : Addr} {ccd : Value} {cl : List (Str × Addr)} {Q E : Value → Shared → Prop}
  (c : Cx w mean mg mb A₀ base outer h₀ L m cs s news dp un 4)
  {why : Str} {tw tr tc : Tok} {row col : Int}
  (hret : ∀ e de t ta tb tcc h' tk', Fr h₀ L h' m → News h₀ L h' ((e, excO 58 t (some de)) :: (t, tupO [.str why tw]) :: (de, badD w.params ta tb tcc why tw row tr col tc) :: news) → (∀ p ∈ (de, badD w.params ta tb tcc why tw row tr col tc) :: news, p.1 ≠ e ∧ p.1 ≠ t) → Q (.ref e) { s with heap := h', toks := tk' }) :
  wpAny (model pw_nm0149_01 w) (ktrTop dp un gd cn cs L a ccd cl outer) (call (.ref 58) [.str why tw, .int row tr, .int col tc]) Q E s := by
 obtain ⟨B, F, X, N, T, hk, hd, hu⟩ := c
 obtain ⟨hh, g, d, t, os⟩ := s
 refine wpAny_call (make_E (excMk58 (X.keeps F.keep) _ _ _) (by size_fits) ?_)
 have F2 := (F.push (tupO [.str why tw, .int row tr, .int col tc])).push (excO 58 hh.objs.size none)
 have N2 := (N.push F (tupO [.str why tw, .int row tr, .int col tc])).push (F.push _) (excO 58 hh.objs.size none)
 rw [Heap.size_push] at N2
 have l1 : ∀ p ∈ (hh.objs.size, tupO [.str why tw, .int row tr, .int col tc]) :: news, p.1 ≠ hh.objs.size + 1 := fun p hp => by
  apply mcE hp
  ·exact Nat.ne_of_lt (Nat.lt_succ_self _)
  ·intro hp; exact Nat.ne_of_lt (Nat.lt_succ_of_lt (Heap.lt_size (N p hp).1))
 clear F N
 (k_dflt (refine' code_def ?k1 ?k2 ?k3 ?k4 ?k5 ?kA ?kF ?kK ?k6 ?k7 ?k8 ?k9 ?kB ?_ ?c2 ?c3 ?c4 ?c5; (case kA => exact rfl); (case kF => exact rfl); (case kK => first | assumption | exact rfl); (case k1 => k_asm); (case k2 => k_asm); (case k3 => k_asm); (case k4 => k_asm); (case k5 => k_asm); (case k6 => k_is); (case k7 => k_is); (case k8 => ktr_room); (case k9 => first | exact BindsTo.of_eq rfl | exact binds_K (by k_in) rfl (by k_is) rfl rfl rfl); (case c5 => decide); (case kB => exact locs rfl); (case c2 => exact rfl); (case c3 => exact rfl); (case c4 => exact rfl); k_whole; intro g' L' h' FG' F' N' B' X' T'; (try dsimp only); (try k_fold)))
 k_steps
 (k_here; (refine wpAny_call ?_; (k_dflt (refine' code_def ?k1 ?k2 ?k3 ?k4 ?k5 ?kA ?kF ?kK ?k6 ?k7 ?k8 ?k9 ?kB ?_ ?c2 ?c3 ?c4 ?c5; (case kA => exact rfl); (case kF => exact rfl); (case kK => first | assumption | exact rfl); (case k1 => k_asm); (case k2 => k_asm); (case k3 => k_asm); (case k4 => k_asm); (case k5 => k_asm); (case k6 => k_is); (case k7 => k_is); (case k8 => ktr_room); (case k9 => first | exact BindsTo.of_eq rfl | exact binds_K (by k_in) rfl (by k_is) rfl rfl rfl); (case c5 => decide); (case kB => exact locs rfl); (case c2 => exact rfl); (case c3 => exact rfl); (case c4 => exact rfl); k_whole; intro g' L' h' FG' F' N' B' X' T'; (try dsimp only); (try k_fold)))))
 k_steps
 (k_here; refine' method_type ?F ?X ?m (by decide +kernel) ?e ?h ?_; (case F => k_asm); (case X => k_asm); (case m => kernel_rfl); (case e => k_dflt k_is); (case h => k_handed))
 k_steps
 (k_here; k_dflt (refine' exc_init ?F ?N ?ne ?C ?su ?_; (case F => k_asm); (case N => k_asm); (case ne => assumption); (case C => exact clsOk_of (by k_in) (by kernel_rfl)); (case su => exact Looks.of_peek (by k_in) (by kernel_rfl)); k_whole; intro t' h' F' N' l' lt'; (try k_sweep)))
 k_steps
 (k_here; k_dflt (refine' set_E0 ?X ?F ?N ?ne ?hs ?_; (case F => k_asm); (case N => k_asm); (case X => k_in); (case ne => assumption); (case hs => k_is); k_whole; intro dx' h' tk' F' N' l' l2'; (try k_sweep)))
 k_steps
 (k_here; k_dflt (refine' set_E1 ?X ?F ?N ?ne ?ed ?hs ?hl ?e ?hz ?_; (case F => k_asm); (case N => k_asm); (case X => k_in); (case ne => assumption); (case ed => assumption); (case hs => k_is); (case hl => k_get); (case e => k_put); (case hz => exact Nat.le_of_ble_eq_true rfl); k_whole; intro h' tk' F' N'; (try k_sweep)))
 k_steps
 (k_here; k_dflt (refine' set_E1 ?X ?F ?N ?ne ?ed ?hs ?hl ?e ?hz ?_; (case F => k_asm); (case N => k_asm); (case X => k_in); (case ne => assumption); (case ed => assumption); (case hs => k_is); (case hl => k_get); (case e => k_put); (case hz => exact Nat.le_of_ble_eq_true rfl); k_whole; intro h' tk' F' N'; (try k_sweep)))
 k_steps
 all_goals (
  have X9 := bad_end (by assumption) (by assumption) (by assumption) (by assumption) (by assumption)
  exact hret _ _ _ _ _ _ _ _ (by k_asm) X9.1 X9.2)
section
variable {prog : Program} {w : World} {A : Around} {E : Value → Shared → Prop} {env : Env} {h₀ : Heap} {x : Str} {body : List Stmt} {Q : Flow → Shared → Prop} {s₂ : Shared}
noncomputable def GEnd (h₀ : Heap) (L : Addr) (J : (Str → Option Value) → List (Addr × Obj) → Prop) (own : List (Addr × Obj)) (s₁ s₂ : Shared) : Prop :=
 ∃ h' tk m' news', s₂ = { s₁ with heap := h', toks := tk } ∧ Fr h₀ L h' m' ∧ News h₀ L h' (news' ++ own) ∧ (∀ p ∈ news', ∀ q ∈ own, p.1 ≠ q.1) ∧ J m' news'
def GPost (h₀ : Heap) (L : Addr) (J : (Str → Option Value) → List (Addr × Obj) → Prop) (own : List (Addr × Obj)) (s₁ : Shared) (Q : Flow → Shared → Prop) (f : Flow) (s₂ : Shared) : Prop :=
 match f with
 | .ret v => Q (.ret v) s₂
 | .brk => Q .next s₂
 | _ => GEnd h₀ L J own s₁ s₂
theorem loopG {I : Addr} {fp wr : List Addr} {n : Nat} {P : Nat → Value → Prop} {St : Nat → Heap → Prop} {m : Str → Option Value} {news : List (Addr × Obj)} (W : Walks prog w A I fp wr n P St)
  (hLf : env.locals ∉ fp) (hwr : ∀ b ∈ wr, h₀.get? b = none) (hnw : ∀ p ∈ news, p.1 ∉ fp) (hex : ∀ i h, St i h → ∀ b ∈ fp, ∃ o, h.get? b = some o) (hst : St 0 s₂.heap) (F : Fr h₀ env.locals s₂.heap m) (N : News h₀ env.locals s₂.heap news)
  (J : Nat → (Str → Option Value) → List (Addr × Obj) → Prop) (hj : J 0 m news)
  (turn : ∀ i v m₁ news₁ h tk own, i < n → P i v → J i m₁ news₁ → (∀ p ∈ news₁, ∀ q ∈ own, p.1 ≠ q.1) → Fr h₀ env.locals h (fun y => if y = x then some v else m₁ y) → News h₀ env.locals h (news₁ ++ own) →
   wpAny (model prog w) A (execs body env) (GPost h₀ env.locals (J (i + 1)) own { s₂ with heap := h, toks := tk } Q) E { s₂ with heap := h, toks := tk })
  (done : ∀ m₁ news₁ h tk, J n m₁ news₁ → Fr h₀ env.locals h m₁ → News h₀ env.locals h news₁ → Q .next { s₂ with heap := h, toks := tk }) :
  LoopAtV prog w A h₀ env x body Q E (.ref I) s₂ := by
 let J' : Nat → (Str → Option Value) → List (Addr × Obj) → Prop := fun i m₁ news₁ => (∀ p ∈ news₁, p.1 ∉ fp) ∧ J i m₁ news₁
 refine ⟨I, fp, wr, n, P, St, m, news, J', rfl, W, hLf, hwr, fun p hp hq => hnw p hp (W.sub _ hq), hst, F, N, ⟨hnw, hj⟩, ?_, ?_⟩
 ·rintro i v m₁ news₁ s₁ own ⟨h, tk, rfl⟩ hi hP ⟨hoff, hJ⟩ hnw₁ hown hat hall hstI F₁ N₁
  have N₂ : News h₀ env.locals h (news₁ ++ own) := fun p hp => N₁ p ((List.mem_append.mp hp).elim (fun h => List.mem_append.mpr (.inr h)) fun h => List.mem_append.mpr (.inl h))
  refine wpAny_mono (turn i v m₁ news₁ h tk own hi hP hJ (fun p hp q hq e => hoff p hp (e ▸ hown q hq)) F₁ N₂) (fun f s₃ p => ?_) fun _ _ e => e
  have fin : GEnd h₀ env.locals (J (i + 1)) own { s₂ with heap := h, toks := tk } s₃ → LoopStepU h₀ env.locals wr own (J' (i + 1)) { s₂ with heap := h, toks := tk } .next s₃ := by
   rintro ⟨h', tk', m', news', e, F', N', hne, hm⟩
   have out : ∀ b ∈ fp, h₀.get? b = none → (∃ o, h.get? b = some o) → ∀ p ∈ news', p.1 ≠ b := fun b hb hn ⟨o, ho⟩ p hp => hne p hp (b, o) (hall b hb hn o ho)
   have keepfp : ∀ p ∈ news', p.1 ∉ fp := fun p hp hq => by
    cases hh : h₀.get? p.1 with
    | some o₀ =>
     have := (N' p (List.mem_append_left _ hp)).2.2
     rw [hh] at this; exact nsE this.symm
    | none =>
     exact out p.1 hq hh (hex _ _ hstI p.1 hq) p hp rfl
   exact ⟨rfl, h', tk', m', news', e, F', fun p hp => N' p ((List.mem_append.mp hp).elim (fun h => List.mem_append.mpr (.inr h)) fun h => List.mem_append.mpr (.inl h)), fun p hp hq => keepfp p hp (W.sub _ hq), keepfp, hm⟩
  cases f with
  | ret v => exact .ret p
  | brk => exact .brk p
  | next => exact .next (fin p)
  | cont => exact .cont (fin p)
 ·rintro h' tk m' news' F' N' _ ⟨_, hJ⟩
  exact done m' news' h' tk hJ F' N'
theorem fp_list {I l i : Nat} {items : Array Value} {h : Heap} (h1 : ∃ o, h.get? I = some o) (h2 : ∃ o, h.get? l = some o) : ∀ b ∈ [I, l], ∃ o, h.get? b = some o := by
 intro b hb
 apply mcE hb
 ·exact h1
 ·intro hb; rw [List.mem_singleton.mp hb]; exact h2
theorem iter_keysB {d : Addr} {kvs : List (Int × Value)} {ep : Nat} {m : Str → Option Value} {news : List (Addr × Obj)} {s : Shared} (lo : (d == sysModules) = false) (hd : h₀.DictAt (intKind prog w) d kvs ep) (hh : A.handled = none)
  (F : Fr h₀ env.locals s.heap m) (N : News h₀ env.locals s.heap news) (J : Nat → (Str → Option Value) → List (Addr × Obj) → Prop) (hj : J 0 m news)
  (turn : ∀ i k y t m₁ news₁ h tk own, kvs[i]? = some (k, y) → J i m₁ news₁ → (∀ p ∈ news₁, ∀ q ∈ own, p.1 ≠ q.1) → Fr h₀ env.locals h (fun z => if z = x then some (.int k t) else m₁ z) → News h₀ env.locals h (news₁ ++ own) →
   wpAny (model prog w) A (execs body env) (GPost h₀ env.locals (J (i + 1)) own { s with heap := h, toks := tk } Q) E { s with heap := h, toks := tk })
  (done : ∀ m₁ news₁ h tk, J kvs.length m₁ news₁ → Fr h₀ env.locals h m₁ → News h₀ env.locals h news₁ → Q .next { s with heap := h, toks := tk }) :
  wpAny (model prog w) A (pyIter (.ref d)) (fun it s₂ => LoopAtV prog w A h₀ env x body Q E it s₂) E s := by
 have hds : s.heap.DictAt (intKind prog w) d kvs ep := hd.at' fun o e => F.keep d o e
 refine ee22 (id hd) fun o0 _ ho0 _ => ?_
 have hlt : d < h₀.objs.size := Heap.lt_size ho0
 have hne : d ≠ s.heap.objs.size := Nat.ne_of_lt (Nat.lt_trans (Nat.lt_of_lt_of_le hlt F.above) F.ns.lt)
 refine wpAny_pyIter_dict lo hds ?_
 have W := Walks.dictKeys (prog := prog) (w := w) (knd := intKind prog w) hh s.heap.objs.size d hne kvs ep
 refine loopG W ?_ ?_ ?_ ?_ ⟨⟨_, Heap.get?_push_size _ rfl, rfl, rfl⟩, hds.at' fun o e => Heap.get?_push_of_some _ e⟩ (F.push _) (fun p hp => ⟨Heap.get?_push_of_some _ (N p hp).1, (N p hp).2⟩) J hj ?_ ?_
 ·intro hm
  rcases List.mem_cons.mp hm with e | hm
  ·exact absurd F.ns.lt (e ▸ Nat.lt_irrefl _)
  ·exact absurd (Nat.lt_of_lt_of_le hlt F.above) ((List.mem_singleton.mp hm) ▸ Nat.lt_irrefl _)
 ·intro b hb
  rw [List.mem_singleton.mp hb]
  exact next_is_new F
 ·intro p hp hI
  rcases List.mem_cons.mp hI with e | hI
  ·exact absurd (Heap.lt_size (N p hp).1) (e ▸ Nat.lt_irrefl _)
  ·have := (N p hp).2.2
   rw [List.mem_singleton.mp hI, ho0] at this; exact nsE this.symm
 ·rintro i h ⟨⟨o1, e1, _⟩, ⟨o2, _, e2, _⟩⟩
  exact fp_list (i := 0) (items := #[]) ⟨_, e1⟩ ⟨_, e2⟩
 ·rintro i v m₁ news₁ h tk own hi ⟨k, y, hx, hkey⟩ hJ hne' F₁ N₁
  obtain ⟨t, rfl⟩ := Value.isInt_shape hkey
  exact turn i k y t m₁ news₁ h tk own hx hJ hne' F₁ N₁
 ·exact fun m₁ news₁ h tk hJ F₁ N₁ => done m₁ news₁ h tk hJ F₁ N₁
theorem GEnd.intro {L : Addr} {J : (Str → Option Value) → List (Addr × Obj) → Prop} {m' : Str → Option Value} {own news' nx : List (Addr × Obj)} {s₁ : Shared} {h' : Heap} {tk : Nat} (F : Fr h₀ L h' m') (N : News h₀ L h' news')
  (hn : ∀ p ∈ nx ++ own, p ∈ news') (hne : ∀ p ∈ nx, ∀ q ∈ own, p.1 ≠ q.1) (hj : J m' nx) : GEnd h₀ L J own s₁ { s₁ with heap := h', toks := tk } := ⟨h', tk, m', nx, rfl, F, fun p hp => N p (hn p hp), hne, hj⟩
end
section
variable {prog : Program} {w : World} {A : Around} {E : Value → Shared → Prop} {env : Env} {h₀ : Heap} {x : Str} {body : List Stmt} {Q : Flow → Shared → Prop}
theorem iter_keysC {d : Addr} {kvs : List (Int × Value)} {ep : Nat} {m : Str → Option Value} {news : List (Addr × Obj)} {s : Shared} (lo : (d == sysModules) = false) (hd : h₀.DictAt (intKind prog w) d kvs ep) (hh : A.handled = none)
  (F : Fr h₀ env.locals s.heap m) (N : News h₀ env.locals s.heap news) (J : Nat → Prop) (hj : J 0)
  (turn : ∀ i k y t h tk own (u : Str → Option Value), kvs[i]? = some (k, y) → J i → (∀ p ∈ news, ∀ q ∈ own, p.1 ≠ q.1) → Fr h₀ env.locals h (fun z => if z = x then some (.int k t) else if z = x then u z else m z) → News h₀ env.locals h (news ++ own) →
   wpAny (model prog w) A (execs body env) (GPost h₀ env.locals (fun m' nx => nx = news ∧ J (i + 1) ∧ ∃ u : Str → Option Value, m' = fun z => if z = x then u z else m z) own { s with heap := h, toks := tk } Q) E { s with heap := h, toks := tk })
  (done : ∀ (u : Str → Option Value) h tk, J kvs.length → Fr h₀ env.locals h (fun z => if z = x then u z else m z) → News h₀ env.locals h news → Q .next { s with heap := h, toks := tk }) :
  wpAny (model prog w) A (pyIter (.ref d)) (fun it s₂ => LoopAtV prog w A h₀ env x body Q E it s₂) E s := by
 refine iter_keysB lo hd hh F N (fun i m' nx => nx = news ∧ J i ∧ ∃ u : Str → Option Value, m' = fun z => if z = x then u z else m z) ⟨rfl, hj, m, by funext z; by_cases e : z = x <;> simp [e]⟩ ?_ ?_
 ·rintro i k y t m₁ nx h tk own hx ⟨rfl, hJ, u, rfl⟩ hne F₁ N₁
  exact turn i k y t h tk own u hx hJ hne F₁ N₁
 ·rintro m₁ nx h tk ⟨rfl, hJ, u, rfl⟩ F₁ N₁
  exact done u h tk hJ F₁ N₁
theorem gEnd_same {L : Addr} {J : Prop} {m : Str → Option Value} {u' : Str → Option Value} {own news : List (Addr × Obj)} {s₁ : Shared} {h' : Heap} {tk : Nat} {v : Option Value} (F : Fr h₀ L h' (fun z => if z = x then v else if z = x then u' z else m z)) (N : News h₀ L h' (news ++ own))
  (hne : ∀ p ∈ news, ∀ q ∈ own, p.1 ≠ q.1) (hj : J) : GEnd h₀ L (fun m' nx => nx = news ∧ J ∧ ∃ u : Str → Option Value, m' = fun z => if z = x then u z else m z) own s₁ { s₁ with heap := h', toks := tk } :=
 ⟨h', tk, _, news, rfl, F, N, hne, rfl, hj, fun _ => v, by funext z; by_cases e : z = x <;> simp [e]⟩
end
section
variable {M : Model} {A : Around} {E : Value → Shared → Prop} {s' : Shared} {base g g₂ G : Heap} {outer : List Env} {L a e de t C : Addr} {m : Str → Option Value} {name : Str} {scope : Scope} {cd : Value} {news : List (Addr × Obj)} {vs : List Value}
def HB (base G : Heap) (l : List Env) (L C e de t : Addr) (vs : List Value) (news : List (Addr × Obj)) (h : Heap) : Prop :=
 (∃ B, base.StaysIn B ∧ (∀ b o, G.get? b = some o → b ∉ l.filterMap (·.frame) → B.get? b = some o) ∧ (∀ q ∈ news, B.get? q.1 = some q.2 ∧ G.get? q.1 = none ∧ base.get? q.1 = none) ∧ Heap.HeldW B l e (.ref C) (.ref t) L h ∧ B.get? t = none) ∧ h.TupAt t vs ∧ ∃ oe, h.get? e = some oe ∧ oe.dict = some de
theorem noteFrame_frame {x : Value} {env env' : Env} (h : env'.frame = env.frame) : noteFrame x env' = noteFrame x env := by
 unfold noteFrame PySem.frameOf
 rw [h]
theorem note_held {Q : Unit → Shared → Prop} {env env' : Env} (hfr : A.frames = some (env :: outer)) (hf : env.frame = some L) (he : env'.frame = env.frame) (R : RB base G (env :: outer) C e de t vs news s'.heap)
  (hQ : ∀ h', HB base G (env :: outer) L C e de t vs news h' → s'.heap.UpToSlots h' → Q () { s' with heap := h' }) : wpAny M A (noteFrame (.ref e) env') Q E s' := by
 rw [noteFrame_frame he]
 obtain ⟨⟨⟨B, hB, hBG, hl, hfl, hnew⟩, htup⟩, oe, hoe, hd⟩ := R
 refine wpAny_mono (wpAny_dict (ds_noteFrame _ _) (wpAny_looks_onW (Q := fun _ s'' => s'' = { s' with heap := s''.heap } ∧ Heap.HeldW B (env :: outer) e (.ref C) (.ref t) L s''.heap ∧ s'.heap.UpToSlots s''.heap) hfr hf hfl fun h' x1 x2 => ⟨rfl, x1, x2⟩)) (fun _ s'' hq => ?_) fun _ _ x => x.1
 obtain ⟨⟨hs, r1, r2⟩, dk⟩ := hq
 rw [hs]
 refine ee12 (dk e _ hoe) fun oe' he' hd' => ?_
 exact hQ _ ⟨⟨B, hB, hBG, hl, r1, hnew⟩, htup.of_slots r2, oe', he', hd'.trans hd⟩ r2
theorem leave_bad3 {A₀ : Around} {Q : Unit → Shared → Prop} (K : Below A₀ base outer g) (F : Fr g L g₂ m) (R : HB base g₂ (envOf name scope L a cd :: outer) L C e de t vs news s'.heap) (hsm : g₂.UpToSlots s'.heap)
  (hQ : ∀ h', RB base g outer C e de t vs news h' → g.UpToSlots h' → Q () { s' with heap := h' }) :
  wpAny M (A.deeper (envOf name scope L a cd)) (leaving (envOf name scope L a cd) (.ref e)) Q E s' := by
 obtain ⟨⟨B, hB, hBG, hl, hh, hnew⟩, htup, oe, hoe, hd⟩ := R
 refine wpAny_mono (wpAny_dict (Q := fun _ s'' => s'' = { s' with heap := s''.heap } ∧ Heap.FlyingW B (envOf name scope L a cd :: outer) e (.ref C) (.ref t) s''.heap ∧ s'.heap.UpToSlots s''.heap) (ds_leaving _ _) ?_) (fun _ s'' hq => ?_) fun _ _ x => x.1
 ·unfold leaving
  refine wpAny_bind (wpAny_noteFrame_againW rfl hh.2.2.2 ?_)
  exact wpAny_landsW hh fun h' x1 x2 => ⟨rfl, x1, x2⟩
 ·obtain ⟨⟨hs, ⟨k1, k2, ⟨_, _, k3⟩, k4⟩, x2⟩, dk⟩ := hq
  rw [hs]
  refine ee12 (dk e _ hoe) fun oe' he' hd' => ?_
  refine hQ _ ⟨⟨⟨B, hB, fun b o q nm => hBG b o (F.keep b o q) (fun hm => ?_), fun q hq => ⟨(hl q hq).1, kts_none F.keep (hl q hq).2.1, (hl q hq).2.2⟩, ⟨k1, k2, k3, k4⟩, hnew⟩, htup.of_slots x2⟩, oe', he', hd'.trans hd⟩ ((Heap.UpToSlots.of_keeps F.keep).trans (hsm.trans x2))
  rcases kts_mem hm with z | z
  ·rw [z, kts_self F] at q; exact nsE q
  ·exact nm z
end
section
variable {M : Model} {A : Around} {E : Value → Shared → Prop} {s' : Shared} {base g g₂ G h h' : Heap} {outer l : List Env} {L a e de t C : Addr} {m : Str → Option Value} {name : Str} {scope : Scope} {cd : Value} {news news' : List (Addr × Obj)} {vs : List Value}
theorem funFrames_but {B : Heap} {c : Addr} {o : Obj} (hc : B.get? c = some o) (k : ∀ b o, b ≠ c → h.get? b = some o → h'.get? b = some o) : ∀ {l : List Env}, h.FunFrames B l → h'.FunFrames B l
 | [], _ => trivial
 | _ :: _, ⟨hk, ⟨L, o', hf, hn, ho, hd⟩, hr⟩ => ⟨hk, ⟨L, o', hf, hn, k L o' (fun e => by rw [e, hc] at hn; exact nsE hn.symm) ho, hd⟩, funFrames_but hc k hr⟩
theorem hide1_stays {B : Heap} {c : Addr} : (hideAll B [c]).StaysIn B := fun b o q => of_hideAll _ q
theorem HB.sameBut {c : Addr} {oc : Obj} (R : HB base G l L C e de t vs news h) (hc : (c, oc) ∈ news) (hs : ∀ b o, b ≠ c → h.get? b = some o → h'.get? b = some o) (hn : ∀ q ∈ news', q ∈ news ∧ q.1 ≠ c) : HB base G l L C e de t vs news' h' := by
 obtain ⟨⟨B, hB, hBG, hl, ⟨f1, f2, f3, oe, ws, T, oT, ts, a1, a2, a3, a4, a5, a6, a7, a8, a9⟩, hnew⟩, ⟨o, n, ho, hcl, hdd⟩, oe2, hoe, hd⟩ := R
 refine ee03 (hl _ hc) fun hc1 hc2 hc3 => ?_
 have ne : ∀ b, B.get? b = none → b ≠ c := fun b hb q => by rw [q, hc1] at hb; exact nsE hb.symm
 have nm : ∀ b, b ≠ c → b ∉ [c] := fun b hb hm => hb (List.mem_singleton.mp hm)
 refine ⟨⟨hideAll B [c], fun b o q => hideAll_get _ (hB b o q) (nm b fun z => by rw [z, hc3] at q; exact nsE q), fun b o q hm => hideAll_get _ (hBG b o q hm) (nm b fun z => by rw [z, hc2] at q; exact nsE q), fun q hq => ?_,
  ⟨fun b o q => ?_, fresh_of_stays hide1_stays f2, funFrames_base hide1_stays (funFrames_but hc1 hs f3), oe, ws, T, oT, ts, hs _ _ (ne e f2) a1, a2, a3, a4, fresh_of_stays hide1_stays a5, a6, hs _ _ (ne T a5) a7, a8, a9⟩,
  fresh_of_stays hide1_stays hnew⟩, ⟨o, n, hs _ _ (ne t hnew) ho, hcl, hdd⟩, oe2, hs _ _ (ne e f2) hoe, hd⟩
 ·obtain ⟨q1, q2⟩ := hn q hq
  refine ee03 (hl _ q1) fun z1 z2 z3 => ?_
  exact ⟨hideAll_get _ z1 (nm _ q2), z2, z3⟩
 ·have q' := of_hideAll _ q
  refine hs b o (fun z => ?_) (f1 b o q')
  rw [z, hideAll_none _ (.head _)] at q; exact nsE q
theorem flight_held {B : Heap} {cls a0 : Value} {Q : Unit → Shared → Prop} (hh : Heap.HeldW B l e cls a0 L s'.heap) (hQ : ∀ h', Heap.HeldW B l e cls a0 L h' → s'.heap.UpToSlots h' → Q () { s' with heap := h' }) : wpAny M A (setFlight (.ref e) (some L)) Q E s' := by
 obtain ⟨hkb, f2, hl, oe, vs, T, oT, ts, he, hcls, hd, h1, hnT, hTe, hT, hdT, h3⟩ := hh
 have hsz3 : 3 < ts.size := (Array.getElem?_eq_some_iff.mp h3).1
 have other : ∀ b, b ≠ T → (s'.heap.update T (Obj.mapFields (·.setIfInBounds 3 ((some L : Option Addr).elim Value.none fun f => rawInt f)))).get? b = s'.heap.get? b :=
  fun b hb => Heap.get?_update_other _ _ (Ne.symm hb)
 have noRecord : ∀ b o, s'.heap.get? b = some o → (∀ vs, o.data ≠ .fields vs) → b ≠ T := fun b o hb hnf q => by
  rw [q, hT] at hb; injection hb with hb; subst hb; exact hnf ts hdT
 unfold setFlight
 refine wpAny_bind (wpAny_field he hd h1 ?_)
 rw [if_pos (show (Value.ref T != Value.none) = true from by simp)]
 refine wpAny_setField hT hdT hsz3 (hQ _ ⟨fun b o hbo => (other b fun q => by rw [q, hnT] at hbo; exact nsE hbo).trans (hkb b o hbo), f2,
  hl.of_keeps fun b o hb hnf => ⟨o, (other b (noRecord b o hb hnf)).trans hb, rfl⟩, ?_⟩ fun b o hb hnf => ⟨o.slots, (other b (noRecord b o hb hnf)).trans hb⟩)
 exact ⟨oe, vs, T, _, _, (other e (Ne.symm hTe)).trans he, hcls, hd, h1, hnT, hTe, Heap.get?_update_self _ hT (Obj.isFreed_of_fields (Obj.data_mapFields hdT _)), Obj.data_mapFields hdT _, by simp [hsz3]⟩
theorem pass_held {α : Type} {what : String} {env : Env} {Q : α → Shared → Prop} (R : HB base G l L C e de t vs news s'.heap) (hf : env.frame = some L) (hsm : g₂.UpToSlots s'.heap)
  (hE : ∀ h', HB base G l L C e de t vs news h' → g₂.UpToSlots h' → E (.ref e) { s' with heap := h' }) : wpAny M A (PySem.passOn what (.ref e) env : Sem α) Q E s' := by
 obtain ⟨⟨B, hB, hBG, hl, hh, hnew⟩, htup, oe2, hoe, hd2⟩ := R
 obtain ⟨_, _, _, oe, ws, T, _, _, he, _, hd, h1, _⟩ := id hh
 unfold PySem.passOn
 rw [hf]
 refine wpAny_bind (wpAny_field he hd h1 ?_)
 rw [if_neg (show ¬ (Value.ref T == Value.none) = true from by simp)]
 refine wpAny_bind (wpAny_mono (wpAny_dict (Q := fun _ s'' => s'' = { s' with heap := s''.heap } ∧ Heap.HeldW B l e (.ref C) (.ref t) L s''.heap ∧ s'.heap.UpToSlots s''.heap) (ds_setFlight _ _) (flight_held hh fun h' x1 x2 => ⟨rfl, x1, x2⟩)) (fun _ s'' hq => ?_) fun _ _ x => x.1)
 obtain ⟨⟨hs, r1, r2⟩, dk⟩ := hq
 refine ee12 (dk e _ hoe) fun oe' he' hd' => ?_
 rw [hs]
 exact wpAny_throw (hE _ ⟨⟨B, hB, hBG, hl, r1, hnew⟩, htup.of_slots r2, oe', he', hd'.trans hd2⟩ (hsm.trans r2))
end
section
open PyProof.Rows.LCg
variable {prog : Program} {w : World} {A : Around} {E : Value → Shared → Prop} {s : Shared} {base h₀ : Heap} {L : Addr} {m : Str → Option Value} {env : Env} {outer : List Env}
structure CompIn (prog : Program) (w : World) (A : Around) (E : Value → Shared → Prop) (base h₀ : Heap) (L : Addr) (m : Str → Option Value) (env : Env) (outer : List Env) (elt : PySem.Expr) (x : Str) (scope : Scope) (Q : Value → Shared → Prop) (xv : Value) (s₁ : Shared)
  (ax : Addr) (its : Array Value) (n : Nat) (news : List (Addr × Obj)) (J : Nat → List Value → Prop) : Prop where
 xv : xv = .ref ax
 F : Fr h₀ L s₁.heap m
 N : News h₀ L s₁.heap news
 hm : (ax, W.listOf its n) ∈ news
 hsz : its.size ≤ sizeLine
 j0 : J 0 []
 turn : ∀ i v ys C oC I oI D h tk m₂, its[i]? = some v → J i ys → NsObj oC m₂ → m₂ x = some v → Fr h₀ L h m → News h₀ L h ((I, oI) :: (C, oC) :: (D, lst ys) :: news) →
  wpAny (model prog w) A (eval elt (compEnvC scope [] C env))
   (fun y s₂ => ∃ h' tk', s₂ = { s₁ with heap := h', toks := tk' } ∧ Fr h₀ L h' m ∧ News h₀ L h' ((I, oI) :: (C, oC) :: (D, lst ys) :: news) ∧ J (i + 1) (ys ++ [y]))
   (fun ev s₂ => ∃ G e de dO t vs h' tk', ev = .ref e ∧ s₂ = { s₁ with heap := h', toks := tk' } ∧ Fr h₀ L G m ∧ RB base G (env :: outer) 58 e de t vs ((de, dO) :: (I, oI) :: (C, oC) :: (D, lst ys) :: news) h' ∧ G.UpToSlots h' ∧ de ≠ C ∧
    (∀ h'' tk'', HB base G (env :: outer) L 58 e de t vs ((de, dO) :: news) h'' → G.UpToSlots h'' → E (.ref e) { s₁ with heap := h'', toks := tk'' })) { s₁ with heap := h, toks := tk }
 done : ∀ ys D h tk, J its.size ys → Fr h₀ L h m → News h₀ L h ((D, lst ys) :: news) → (∀ p ∈ news, p.1 ≠ D) → Q (.ref D) { s₁ with heap := h, toks := tk }
end
section
open PyProof.Rows.LCg
variable {prog : Program} {w : World} {A : Around} {E : Value → Shared → Prop} {s : Shared} {base h₀ : Heap} {L : Addr} {m : Str → Option Value} {env : Env} {outer : List Env}
inductive CRJ (h₀ : Heap) (L : Addr) (m : Str → Option Value) (s₁ : Shared) (its : Array Value) (I ax : Addr) (news : List (Addr × Obj)) (J : Nat → List Value → Prop) (k : Nat) (s' : Shared) : Prop
 | mk (h' : Heap) (tk i : Nat) (ys : List Value) (m' : Str → Option Value) : s' = { s₁ with heap := h', toks := tk } → i ≤ its.size → k = its.size + 1 - i → ys.length = i → (h'.IsListIter I ax i ∧ h'.IsList ax its) → Fr h₀ L h' m → h'.Ns (I + 1 + 1) m' → News h₀ L h' ((I + 1, lst ys) :: news) → J i ys → CRJ h₀ L m s₁ its I ax news J k s'
theorem comp_raise {elt iter : PySem.Expr} {x : Str} {px : Pos} {scope : Scope} {pos : Pos} {Q : Value → Shared → Prop}
  (hfree : ∀ y ∈ scope.names, y.2 ≠ .free) (hcell : ∀ y ∈ scope.names, y.2 ≠ .cell) (hkind : scope.kind = .function) (hnames : ∀ y ∈ scope.names, y.2 = .local → scope.names.lookup y.1 = some .local) (hx : scope.names.lookup x = some .local)
  (hrel : relabel scope env = scope) (hfl : env.frame = some L) (hfr : A.frames = some (env :: outer)) (hh : A.handled = none)
  (h : wpAny (model prog w) A (eval iter env) (fun xv s₁ => ∃ m ax its n news J, CompIn prog w A E base h₀ L m env outer elt x scope Q xv s₁ ax its n news J) E s)
  (hs : ∀ x, foldedSetIterable iter env x = pure x := by intro _; rfl) :
  wpAny (model prog w) A (eval (.ListComp elt [⟨.Name x px, iter, [], 0⟩] scope pos) env) Q E s := by
 refine wpAny_ListComp hfree hkind hnames (wpAny_mono h (fun xv s₁ h₁ => ?_) fun _ _ e => e) hs
 obtain ⟨m, ax, its, n, news, J, rfl, F, N, hm, hsz, j0, turn, done⟩ := h₁
 have hl : s₁.heap.IsList ax its := ⟨_, (N _ hm).1, rfl, _, rfl⟩
 have hlt : ax < s₁.heap.objs.size := Heap.lt_size (N _ hm).1
 refine wpAny_pyIter_list hl ?_
 refine wpAny_newObj_type (wpAny_newFunctionEnv hcell (by intro y hy; simp at hy) (fun h₁ hns₁ hsb₁ => ?_) hkind)
 dsimp only at hns₁ hsb₁ ⊢
 have hIn : (s₁.heap.push { cls := .type "list_iterator", data := .fields #[.ref ax, .int 0 0] }).get? s₁.heap.objs.size = some { cls := .type "list_iterator", data := .fields #[.ref ax, .int 0 0] } := Heap.get?_push_size _ rfl
 have upI : ∀ b o, s₁.heap.get? b = some o → (s₁.heap.push { cls := .type "list_iterator", data := .fields #[.ref ax, .int 0 0] }).get? b = some o := fun b o e => Heap.get?_push_of_some _ e
 have sI : (s₁.heap.push { cls := .type "list_iterator", data := .fields #[.ref ax, .int 0 0] }).objs.size = s₁.heap.objs.size + 1 := Heap.size_push ..
 generalize s₁.heap.push { cls := .type "list_iterator", data := .fields #[.ref ax, .int 0 0] } = HI at hns₁ hsb₁ hIn upI sI ⊢
 have hDn : (HI.push { cls := .type "list", dict := none, data := .seq ([] : List Value).toArray }).get? HI.objs.size = some (lst []) := Heap.get?_push_size _ rfl
 have upD : ∀ b o, HI.get? b = some o → (HI.push { cls := .type "list", dict := none, data := .seq ([] : List Value).toArray }).get? b = some o := fun b o e => Heap.get?_push_of_some _ e
 have sD : (HI.push { cls := .type "list", dict := none, data := .seq ([] : List Value).toArray }).objs.size = HI.objs.size + 1 := Heap.size_push ..
 generalize HI.push { cls := .type "list", dict := none, data := .seq ([] : List Value).toArray } = H2 at hns₁ hsb₁ hDn upD sD ⊢
 generalize hIe : s₁.heap.objs.size = I at hIn sI hlt ⊢
 generalize hDe : HI.objs.size = D at hDn sI sD ⊢
 generalize hCe : H2.objs.size = C at hns₁ hsb₁ sD ⊢
 subst sI
 subst sD
 have old : ∀ b o, s₁.heap.get? b = some o → h₁.get? b = some o := fun b o e => hsb₁.extBut b o (fun q => by have z : @LT.lt Nat _ b s₁.heap.objs.size := Heap.lt_size e; have q' : @Eq Nat b (I + 1 + 1) := q; omega) (Heap.get?_push_of_some _ (upD b o (upI b o e)))
 have oldI : h₁.get? I = some { cls := .type "list_iterator", data := .fields #[.ref ax, .int 0 0] } := hsb₁.extBut _ _ (Nat.ne_of_lt (Nat.lt_succ_of_lt (Nat.lt_succ_self I))) (Heap.get?_push_of_some _ (upD _ _ hIn))
 have oldD : h₁.get? (I + 1) = some (lst []) := hsb₁.extBut _ _ (Nat.ne_of_lt (Nat.lt_succ_self _)) (Heap.get?_push_of_some _ hDn)
 have fresh₀ : ∀ b : Nat, I ≤ b → h₀.get? b = none := fun b hb => by
  cases e : h₀.get? b with
  | none => rfl
  | some o' => have z : @LT.lt Nat _ b s₁.heap.objs.size := Heap.lt_size (F.keep b o' e); omega
 have hL : @LT.lt Nat _ L I := by have z : @LT.lt Nat _ L s₁.heap.objs.size := F.ns.lt; omega
 have nlt : ∀ p ∈ news, @LT.lt Nat _ p.1 I := fun p hp => by have z : @LT.lt Nat _ p.1 s₁.heap.objs.size := Heap.lt_size (N p hp).1; omega
 have henv : ({ scope := scope, locals := I + 1 + 1, globals := env.globals, cells := [], qual := env.qual, func := none, code := env.code, frame := env.frame, builtins := env.builtins } : Env) = compEnvC scope [] (I + 1 + 1) env := by
  unfold compEnvC; rw [hrel]
 have W := Walks.list (prog := prog) (w := w) hh I ax (Nat.ne_of_lt hlt) its
 have loop : ∀ s₃ : Shared, s₃ = { s₁ with heap := h₁, toks := s₁.toks + ([] : List (Str × Value)).length } →
   codeAny (model prog w) A (.compLoop (.ListComp elt [⟨.Name x px, iter, [], 0⟩] scope pos) 0 (.ref I) (.ref (I + 1)) (compEnvC scope [] (I + 1 + 1) env))
    (fun r s' => ∃ m, s'.heap.Ns (I + 1 + 1) m ∧ ∀ h', Heap.SameBut (I + 1 + 1) s'.heap h' →
      match r with | .ok _ => Q (.ref (I + 1)) { s' with heap := h' } | .error x => wpAny (model prog w) A (PySem.passOn "comprehension.variables-let-go" x (compEnvC scope [] (I + 1 + 1) env)) Q E { s' with heap := h' }) s₃ := by
  rintro s₃ rfl
  refine codeAny_compLoop_list (CRJ h₀ L m s₁ its I ax news J) ?_ (its.size + 1) ⟨h₁, _, 0, [], _, rfl, Nat.zero_le _, rfl, rfl, ⟨⟨_, oldI, rfl, rfl⟩, let ⟨o, e, r⟩ := hl; ⟨o, old _ o e, r⟩⟩, F.keeps old, hns₁, fun p hp => ?_, j0⟩
  ·rintro k s' ⟨h', tk, i, ys, m', rfl, hi, rfl, hyl, hst', F', hn', N', hJ⟩
   by_cases hlt' : i < its.size
   ·refine W.item i _ _ _ hlt' hst' fun v h₂ tk₂ hPv hst₂ hk₂ => ?_
    dsimp only
    have hn₂ := hn'.at' fun o e => hk₂ _ o (by simp only [List.mem_singleton]; exact Nat.ne_of_gt (Nat.lt_succ_of_lt (Nat.lt_succ_self I))) e
    refine wpAny_assign_Name (wpAny_storeName_local (lookup_relabel_local hx) hn₂ (fun h₃ hn₃ hs₃ => ?_) (by simp [compEnvC, relabel, hkind]))
    obtain ⟨⟨oI, heI, _⟩, _⟩ := W.frame _ _ h₃ hst₂ fun b hb o e => hs₃.extBut b o (fun q => by
     have q' : @Eq Nat b (I + 1 + 1) := q
     rcases List.mem_cons.mp hb with z | z
     ·have z' : @Eq Nat b I := z; omega
     ·have z' : @Eq Nat b ax := List.mem_singleton.mp z; have : @LT.lt Nat _ ax I := hlt; omega) e
    have hst₃ := W.frame _ _ h₃ hst₂ fun b hb o e => hs₃.extBut b o (fun q => by
     have q' : @Eq Nat b (I + 1 + 1) := q
     rcases List.mem_cons.mp hb with z | z
     ·have z' : @Eq Nat b I := z; omega
     ·have z' : @Eq Nat b ax := List.mem_singleton.mp z; have : @LT.lt Nat _ ax I := hlt; omega) e
    refine ee12 (ns_obj hn₃) fun oC heC hoC => ?_
    have F₃ : Fr h₀ L h₃ m := (fr_but F' hk₂ (Nat.ne_of_lt hL) (fresh₀ I (Nat.le_refl _))).change hs₃ (Nat.ne_of_gt (Nat.lt_succ_of_lt (Nat.lt_succ_of_lt hL))) (fresh₀ (I + 1 + 1) (Nat.le_succ_of_le (Nat.le_succ I)))
    have N₂ := news_but N' hk₂ fun p hp => by
     apply mcE hp
     ·exact Nat.succ_ne_self I
     ·intro hp; exact Nat.ne_of_lt (nlt p hp)
    have N₃ : News h₀ L h₃ ((I, oI) :: (I + 1 + 1, oC) :: (I + 1, lst ys) :: news) := fun p hp => by
     apply mcE hp
     ·exact ⟨heI, Nat.ne_of_gt hL, fresh₀ _ (Nat.le_refl _)⟩
     ·intro hp; rcases List.mem_cons.mp hp with rfl | hp
      ·exact ⟨heC, Nat.ne_of_gt (Nat.lt_succ_of_lt (Nat.lt_succ_of_lt hL)), fresh₀ (I + 1 + 1) (Nat.le_succ_of_le (Nat.le_succ I))⟩
      ·refine ⟨hs₃.extBut _ _ ?_ (N₂ p hp).1, (N₂ p hp).2⟩
       apply mcE hp
       ·exact Nat.ne_of_lt (Nat.lt_succ_self _)
       ·intro hp; exact Nat.ne_of_lt (Nat.lt_succ_of_lt (Nat.lt_succ_of_lt (nlt p hp)))
    refine wpAny_mono (turn i v ys (I + 1 + 1) oC I oI (I + 1) h₃ _ _ hPv hJ hoC (by simp) F₃ N₃) (fun y s₄ h₄ => ?_) (fun ev s₄ h₄ => ?_)
    ·obtain ⟨h₄, tk₄, rfl, F₄, N₄, hJ'⟩ := h₄
     have zI := (N₄ _ (.head _)).1
     have zC := (N₄ _ (.tail _ (.head _))).1
     have zD := (N₄ _ (.tail _ (.tail _ (.head _)))).1
     have hst₄ := list_st (i + 1) h₃ h₄ oI _ hst₃ heI zI F₄.keep N₄ (.inr ⟨_, .tail _ (.tail _ (.tail _ hm)), rfl, _, rfl⟩)
     refine append_at (hsz := by show ys.toArray.size ≤ sizeLine; rw [List.size_toArray, hyl]; omega) zD fun h₅ hs₅ hD₅ => ?_
     refine ⟨its.size + 1 - (i + 1), by omega, h₅, tk₄, i + 1, ys ++ [y], _, rfl, hlt', rfl, by rw [List.length_append, List.length_singleton, hyl], W.frame _ _ _ hst₄ fun b hb o e => hs₅.extBut b o (fun q => ?_) e,
      F₄.change hs₅ (Nat.ne_of_gt (Nat.lt_succ_of_lt hL)) (fresh₀ (I + 1) (Nat.le_succ I)), (hoC.ns zC).sameBut hs₅ (Nat.succ_ne_self _), fun p hp => ?_, hJ'⟩
     ·have q' : @Eq Nat b (I + 1) := q
      rcases List.mem_cons.mp hb with z | z
      ·have z' : @Eq Nat b I := z; omega
      ·have z' : @Eq Nat b ax := List.mem_singleton.mp z; have : @LT.lt Nat _ ax I := hlt; omega
     ·apply mcE hp
      ·exact ⟨hD₅.trans (congrArg some (lst_snoc ys y)), Nat.ne_of_gt (Nat.lt_succ_of_lt hL), fresh₀ (I + 1) (Nat.le_succ I)⟩
      ·intro hp; have z := N₄ p (.tail _ (.tail _ (.tail _ hp)))
       exact ⟨hs₅.extBut _ _ (by exact Nat.ne_of_lt (Nat.lt_succ_of_lt (nlt p hp))) z.1, z.2⟩
    ·refine ee87 h₄ fun G e de dO t vs h₄ tk₄ qe8 qe9 FG R hsm hdC fin => ?_; subst qe8; subst qe9
     refine note_held hfr hfl rfl R fun h₅ R₅ u₅ => ?_
     have hc := R₅
     obtain ⟨⟨B, _, _, hl', ⟨f1, _⟩, _⟩, _⟩ := hc
     have mC : (I + 1 + 1, oC) ∈ (de, dO) :: (I, oI) :: (I + 1 + 1, oC) :: (I + 1, lst ys) :: news := .tail _ (.tail _ (.head _))
     refine ⟨_, hoC.ns (f1 _ _ (hl' _ mC).1), fun h₆ hs₆ => pass_held (R₅.sameBut (news' := (de, dO) :: news) mC (fun b o ne e => hs₆.extBut b o ne e) fun q hq => ?_) hfl (g₂ := G) (fun b o e nf => ?_) fun h₇ R₇ u₇ => fin h₇ _ R₇ u₇⟩
     ·apply mcE hq
      ·exact ⟨.head _, hdC⟩
      ·intro hq; exact ⟨.tail _ (.tail _ (.tail _ (.tail _ hq))), by exact Nat.ne_of_lt (Nat.lt_succ_of_lt (Nat.lt_succ_of_lt (nlt q hq)))⟩
     ·obtain ⟨sl, z⟩ := (hsm.trans u₅) b o e nf
      exact ⟨sl, hs₆.extBut _ _ (fun q => by rw [q, (hl' _ mC).2.1] at e; exact nsE e) z⟩
   ·obtain rfl : i = its.size := Nat.le_antisymm hi (Nat.not_lt.mp hlt')
    refine W.done _ _ _ hst' fun h₂ tk₂ hk₂ => ?_
    dsimp only
    have F₂ := fr_but F' hk₂ (Nat.ne_of_lt hL) (fresh₀ I (Nat.le_refl _))
    have N₂ := news_but N' hk₂ fun p hp => by
     apply mcE hp
     ·exact Nat.succ_ne_self I
     ·intro hp; exact Nat.ne_of_lt (nlt p hp)
    refine ⟨m', hn'.at' fun o e => hk₂ _ o (by simp only [List.mem_singleton]; exact Nat.ne_of_gt (Nat.lt_succ_of_lt (Nat.lt_succ_self I))) e, fun h'' hs'' => done ys (I + 1) h'' tk₂ hJ (F₂.change hs'' (Nat.ne_of_gt (Nat.lt_succ_of_lt (Nat.lt_succ_of_lt hL))) (fresh₀ (I + 1 + 1) (Nat.le_succ_of_le (Nat.le_succ I)))) (fun p hp => ⟨hs''.extBut _ _ ?_ (N₂ p hp).1, (N₂ p hp).2⟩) fun p hp => ?_⟩
    ·apply mcE hp
     ·exact Nat.ne_of_lt (Nat.lt_succ_self _)
     ·intro hp; exact Nat.ne_of_lt (Nat.lt_succ_of_lt (Nat.lt_succ_of_lt (nlt p hp)))
    ·exact Nat.ne_of_lt (Nat.lt_succ_of_lt (nlt p hp))
  ·apply mcE hp
   ·exact ⟨oldD, Nat.ne_of_gt (Nat.lt_succ_of_lt hL), fresh₀ _ (Nat.le_succ _)⟩
   ·intro hp; exact ⟨old _ _ (N p hp).1, (N p hp).2⟩
 have cs := codeAny_compStart_list (loop _ rfl) (W.self 0 _ _ _ ⟨⟨_, oldI, rfl, rfl⟩, let ⟨o, e, r⟩ := hl; ⟨o, old _ o e, r⟩⟩ (loop _ rfl))
 rw [← henv] at cs
 exact cs
end
noncomputable def kindNum (name : Str) : Option Int :=
 if Str.ofString "i32" == name then some (-1) else if Str.ofString "i64" == name then some (-2) else if Str.ofString "funcref" == name then some (-16) else if Str.ofString "externref" == name then some (-17) else none
def KindIs (name : Str) (v : Value) : Prop := match kindNum name with
 | some k => ∃ t, v = .int k t
 | none => v = .none
noncomputable def leftName (name : Str) : Bool := Str.ofString "f32" == name || Str.ofString "f64" == name || Str.ofString "v128" == name
noncomputable def kinds4 (a b c d : Tok) : List (Int × Value) := [(-1, .str (Str.ofString "i32") a), (-2, .str (Str.ofString "i64") b), (-16, .str (Str.ofString "funcref") c), (-17, .str (Str.ofString "externref") d)]
noncomputable def knames : List Str := [Str.ofString "i32", Str.ofString "i64", Str.ofString "funcref", Str.ofString "externref"]
theorem news_front {h₀ h : Heap} {L : Addr} {news own : List (Addr × Obj)} (N : News h₀ L h (news ++ own)) : News h₀ L h news := fun p hp => N p (List.mem_append_left _ hp)
theorem knames_succ {name : Str} {i : Nat} (hJ : ∀ j < i, ∀ s, knames[j]? = some s → (s == name) = false) (h : ∀ s, knames[i]? = some s → (s == name) = false) : ∀ j < i + 1, ∀ s, knames[j]? = some s → (s == name) = false := fun j hj s hs => by
 by_cases e : j < i
 ·exact hJ j e s hs
 ·exact h s ((show j = i by omega) ▸ hs)
theorem KindIs.mk {name : Str} {k : Int} {t : Tok} (h : kindNum name = some k) : KindIs name (.int k t) := by unfold KindIs; rw [h]; exact ⟨t, rfl⟩
theorem kinds_nth {a b c d : Tok} {i : Nat} {k : Int} {y : Value} (hx : (kinds4 a b c d)[i]? = some (k, y)) (name : Str) : ∃ nm tt, y = .str nm tt ∧ knames[i]? = some nm ∧ valueAt (kinds4 a b c d) k = some y ∧
  ((∀ j < i, ∀ s, knames[j]? = some s → (s == name) = false) → (nm == name) = true → kindNum name = some k) := by
 match i, hx with
 | 0, hx => cases hx; exact ⟨_, _, rfl, rfl, rfl, fun _ h => by simp [kindNum, h]⟩
 | 1, hx => cases hx; exact ⟨_, _, rfl, rfl, rfl, fun hJ h => by have e0 := hJ 0 (by decide) _ rfl; simp [kindNum, h, e0]⟩
 | 2, hx => cases hx; exact ⟨_, _, rfl, rfl, rfl, fun hJ h => by have e0 := hJ 0 (by decide) _ rfl; have e1 := hJ 1 (by decide) _ rfl; simp [kindNum, h, e0, e1]⟩
 | 3, hx => cases hx; exact ⟨_, _, rfl, rfl, rfl, fun hJ h => by have e0 := hJ 0 (by decide) _ rfl; have e1 := hJ 1 (by decide) _ rfl; have e2 := hJ 2 (by decide) _ rfl; simp [kindNum, h, e0, e1, e2]⟩
 | i + 4, hx => cases hx
theorem kinds_at {w : World} {h : Heap} (X : (KO w.params).In h) : ∃ a b c d ep, h.DictAt (intKind pw_nm0149_01 w) 422 (kinds4 a b c d) ep := by
 refine ⟨_, _, _, _, 4, _, _, X 422 _ rfl, ⟨rfl, rfl, rfl⟩, rfl, ?_, .cons (intKind_is _ _ _ _) rfl (.cons (intKind_is _ _ _ _) rfl (.cons (intKind_is _ _ _ _) rfl (.cons (intKind_is _ _ _ _) rfl .nil))), ?_⟩
 ·intro e he
  simp only [List.mem_toArray, List.mem_cons, List.not_mem_nil, or_false] at he
  rcases he with rfl | rfl | rfl | rfl <;> exact ⟨_, intKind_is _ _ _ _, rfl⟩
 ·show [(-1 : Int), -2, -16, -17].Nodup
  decide
theorem kinds_item {w : World} {A : Around} {E : Value → Shared → Prop} {s : Shared} {h₀ : Heap} {L : Addr} {m : Str → Option Value} {a b c d : Tok} {ep : Nat} {k : Int} {t : Tok} {v : Value} {value slice : PySem.Expr} {Q : Value → Shared → Prop} (F : Fr h₀ L s.heap m) (hd : h₀.DictAt (intKind pw_nm0149_01 w) 422 (kinds4 a b c d) ep)
  (hl : valueAt (kinds4 a b c d) k = some v) (h : Q v { s with toks := s.toks + 1 })
  (hs : subscripted slice false (.ref 422) (.int k t) = operate [.ref 422, .int k t] (getItem (.ref 422) (.int k t)) := by with_unfolding_all rfl) :
  wpAny (model pw_nm0149_01 w) A (subscriptTail value slice (.ref 422) (.int k t)) Q E s :=
 have hm := (hd.at' fun o e => F.keep 422 o e).dictOf
 tail_any hm.typeIs slot_dict_getitem.lookup (wpAny_getItem_of (intKind_is _ _ k t) hm.mapOf hl h) hs
theorem c_kind_of {w : World} {mean : ExcName → Option Value} {mg mb : Str → Option Value} {A₀ : Around} {base : Heap} {outer : List Env} {h₀ : Heap} {L : Addr} {m : Str → Option Value} {cs : Scope} {s : Shared} {news : List (Addr × Obj)} {dp un : Nat} {gd : Option (List Code)} {cn : Str} {a : Addr} {ccd : Value} {cl : List (Str × Addr)} {Q E : Value → Shared → Prop}
  (c : Cx w mean mg mb A₀ base outer h₀ L m cs s news dp un 1)
  {name : Str} {tn : Tok} {o : Option Int}
  (ho : kindNum name = o)
  (hret : ∀ t h' tk', Fr h₀ L h' m → News h₀ L h' (news) → Q (match o with | some k => Value.int k t | none => Value.none) { s with heap := h', toks := tk' })
  : wpAny (model pw_nm0149_01 w) (ktrTop dp un gd cn cs L a ccd cl outer) (call (.ref 430) [.str name tn]) Q E s := by
 obtain ⟨B, F, X, N, T, hk, hd, hu⟩ := c
 (refine wpAny_call ?_; (k_dflt (refine' code_def ?k1 ?k2 ?k3 ?k4 ?k5 ?kA ?kF ?kK ?k6 ?k7 ?k8 ?k9 ?kB ?_ ?c2 ?c3 ?c4 ?c5; (case kA => exact rfl); (case kF => exact rfl); (case kK => first | assumption | exact rfl); (case k1 => k_asm); (case k2 => k_asm); (case k3 => k_asm); (case k4 => k_asm); (case k5 => k_asm); (case k6 => k_is); (case k7 => k_is); (case k8 => ktr_room); (case k9 => first | exact BindsTo.of_eq rfl | exact binds_K (by k_in) rfl (by k_is) rfl rfl rfl); (case c5 => decide); (case kB => exact locs rfl); (case c2 => exact rfl); (case c3 => exact rfl); (case c4 => exact rfl); k_whole; intro g' L' h' FG' F' N' B' X' T'; (try dsimp only); (try k_fold))))
 repeat' (first | (k_here; (with_reducible show wpAny _ _ (exec (Stmt.For _ (PySem.Expr.Name (Str.ofString "KIND_NAMES") _) _ _ _) _) _ _ _); (obtain ⟨a4, b4, c4, d4, ep4, hK4⟩ := kinds_at (by assumption)); (rename Fr _ _ _ _ => lF'); (with_unfolding_all refine' For_invVF lF' ?k1 ?k2 ?_; (case k1 => exact rfl); (case k2 => exact rfl); k_whole)) | (k_unfold; (try dsimp only)) | (k_end; wrow_close) | walk1 | (dsimp only; walk1) | (leave1; walk_say "STEP leave1"; try dsimp only) | fail "no step")
 refine iter_keysC (by decide) (by assumption) rfl (by k_asm) (by k_asm) (fun i => ∀ j < i, ∀ s, knames[j]? = some s → (s == name) = false) (by intro j hj; omega) ?_ ?_
 ·intro i k y t h9 tk9 own9 u9 hx9 hJ9 hne9 F9 N9
  obtain ⟨nm, tt, rfl, hnm, hval, hkn⟩ := kinds_nth hx9 name
  repeat' (first | (k_here; (with_reducible show wpAny _ _ (subscriptTail _ _ (Value.ref 422) (Value.int _ _)) _ _ _); k_dflt (refine' kinds_item ?F ?d ?l ?_ ?s; (case F => k_asm); (case d => assumption); (case l => first | assumption | rfl); (case s => with_unfolding_all rfl); k_whole)) | (dsimp only [GPost]) | (k_unfold; (try dsimp only)) | (k_end; wrow_close) | walk1 | (dsimp only; walk1) | (leave1; walk_say "STEP leave1"; try dsimp only) | fail "no step")
  ·have e9 := hkn hJ9 (by assumption)
   rw [ho] at e9
   subst e9
   exact hret _ _ _ (by k_asm) (news_front (by k_asm))
  ·exact gEnd_same (by assumption) (by assumption) (by assumption) (knames_succ hJ9 (by intro s9 hs9; rw [hnm] at hs9; cases hs9; assumption))
 ·intro u9 h9 tk9 hJ9 F9 N9
  have e0 := hJ9 0 (by simp [kinds4]) _ rfl
  have e1 := hJ9 1 (by simp [kinds4]) _ rfl
  have e2 := hJ9 2 (by simp [kinds4]) _ rfl
  have e3 := hJ9 3 (by simp [kinds4]) _ rfl
  have e9 : kindNum name = none := by simp [kindNum, *]
  rw [ho] at e9
  subst e9
  k_steps
  exact hret 0 _ _ (by k_asm) (by k_asm)
section
variable {w : World} {A : Around} {E : Value → Shared → Prop} {s : Shared} {h₀ : Heap} {L : Addr} {m : Str → Option Value} {news : List (Addr × Obj)}
noncomputable def lefts3 (a b c : Tok) : List (Int × Value) := [(-3, .str (Str.ofString "f32") a), (-4, .str (Str.ofString "f64") b), (-5, .str (Str.ofString "v128") c)]
theorem lefts_at {h : Heap} (X : (KO w.params).In h) : ∃ a b c ep, h.DictAt (intKind pw_nm0149_01 w) 423 (lefts3 a b c) ep := by
 refine ⟨_, _, _, 3, _, _, X 423 _ rfl, ⟨rfl, rfl, rfl⟩, rfl, ?_, .cons (intKind_is _ _ _ _) rfl (.cons (intKind_is _ _ _ _) rfl (.cons (intKind_is _ _ _ _) rfl .nil)), ?_⟩
 ·intro e he
  simp only [List.mem_toArray, List.mem_cons, List.not_mem_nil, or_false] at he
  rcases he with rfl | rfl | rfl <;> exact ⟨_, intKind_is _ _ _ _, rfl⟩
 ·show [(-3 : Int), -4, -5].Nodup
  decide
theorem entry_ci : entryFor table "proto.contains_iter" = some Builtin.«proto.contains_iter» := entryFor_of_tree (by kernel_rfl)
theorem contains_vals {it d : Addr} {kvs : List (Int × Value)} {ep : Nat} {x : Str} {tx : Tok} {R : Result → Shared → Prop} (hh : A.handled = none) (hne : d ≠ it) :
  ∀ (rest : List (Int × Value)) (i : Nat) (s : Shared), kvs.drop i = rest → (∀ p ∈ rest, ∃ y t, p.2 = .str y t) → s.heap.IsValIter it d i kvs.length ep → s.heap.DictAt (intKind pw_nm0149_01 w) d kvs ep →
   (∀ h', (∀ b o, b ≠ it → s.heap.get? b = some o → h'.get? b = some o) → R (.ok (.ret (.bool (rest.any fun p => match p.2 with | .str y _ => y == x | _ => false)))) { s with heap := h' }) →
   codeAny (model pw_nm0149_01 w) A (.builtin "proto.contains_iter" ⟨[.ref it, .str x tx], []⟩) R s
 | [], i, s, hd, _, hit, hm, hQ => by
  refine codeAny_builtin entry_ci ?_
  unfold Builtin.«proto.contains_iter»
  refine wpAny_bind (wpAny_pyNext_values_end hh hit hm ?_ fun h' he' => ?_)
  ·have := congrArg List.length hd
   exact List.getElem?_eq_none (by simp at this; omega)
  ·refine wpAny_bind (wpAny_rule (wpAny_pure ?_))
   exact hQ h' fun b o hb e => he' b o hb e
 | p :: rest, i, s, hd, hs, hit, hm, hQ => by
  obtain ⟨k, v⟩ := p
  obtain ⟨y, t, rfl⟩ : ∃ y t, v = .str y t := hs _ (.head _)
  have hx : kvs[i]? = some (k, .str y t) := by
   have := congrArg (·[0]?) hd
   simpa using this
  refine codeAny_builtin entry_ci ?_
  unfold Builtin.«proto.contains_iter»
  refine wpAny_bind (wpAny_pyNext_values_item hit hm hx fun h' hit' hs' => ?_)
  dsimp only
  refine wpAny_bind (wpAny_eqBool_str ?_)
  by_cases e : y = x
  ·rw [decide_eq_true e, if_pos rfl]
   refine wpAny_bind (wpAny_rule (wpAny_pure ?_))
   have z := hQ h' fun b o hb e => hs'.extBut b o hb e
   rw [show (((k, Value.str y t) :: rest).any fun p => match p.2 with | .str y _ => y == x | _ => false) = true from by simp [e]] at z
   exact z
  ·rw [decide_eq_false e, if_neg (by decide)]
   refine wpAny_pure ⟨Code.quiet_builtin _ (by decide +kernel), ?_⟩
   refine contains_vals hh hne rest (i + 1) _ (by rw [← List.drop_drop, hd]; rfl) (fun p hp => hs p (.tail _ hp)) hit' (hm.extBut hs'.extBut hne) fun h'' hk => ?_
   have z := hQ h'' fun b o hb e => hk b o hb (hs'.extBut b o hb e)
   rw [show (((k, Value.str y t) :: rest).any fun p => match p.2 with | .str y _ => y == x | _ => false) = (rest.any fun p => match p.2 with | .str y _ => y == x | _ => false) from by simp [e]] at z
   exact z
theorem in_vals {v d : Addr} {kvs : List (Int × Value)} {ep : Nat} {x : Str} {tx : Tok} {Q : Value → Shared → Prop} (hh : A.handled = none) (F : Fr h₀ L s.heap m) (N : News h₀ L s.heap news) (hv : s.heap.IsValuesView v d) (hd : h₀.DictAt (intKind pw_nm0149_01 w) d kvs ep) (hs : ∀ p ∈ kvs, ∃ y t, p.2 = .str y t)
  (h : ∀ h', Fr h₀ L h' m → News h₀ L h' news → Q (.bool (kvs.any fun p => match p.2 with | .str y _ => y == x | _ => false)) { s with heap := h' }) :
  wpAny (model pw_nm0149_01 w) A (compareOp .In (.str x tx) (.ref v)) Q E s := by
 have hds : s.heap.DictAt (intKind pw_nm0149_01 w) d kvs ep := hd.at' fun o e => F.keep d o e
 obtain ⟨hp, g, dr, tk, os⟩ := s
 obtain ⟨ov, hov, hcv, hdv⟩ := id hv
 have tV : Looks (model pw_nm0149_01 w) hp (typeOf (.ref v)) (.type "dict_values") := hcv ▸ (Looks.ld (M := model pw_nm0149_01 w) (part := some headPart) hov).andThen .now
 have tC : Looks (model pw_nm0149_01 w) hp (typeLookup (.type "dict_values") "__contains__") none := Looks.of_pure (by rw [typeLookup_type, builtinLookup_eq_fast]; kernel_rfl)
 show wpAny _ _ (do return Value.bool (← contains (.ref v) (.str x tx))) _ _ _
 unfold contains specialOf callSpecialUnlessNone? specialOf
 refine wpAny_bind ?_
 repeat ((fail_if_success (show wpAny _ _ (Sem.tryCatch _ _) _ _ _)); lk)
 refine wpAny_tryCatch (wpAny_pyIter_values hv hds ?_)
 refine wpAny_bind (wpAny_runValue ?_)
 have hne : d ≠ hp.objs.size := fun e => by
  obtain ⟨o0, _, ho0, _⟩ := id hd
  have := Nat.lt_of_lt_of_le (Heap.lt_size ho0) F.above
  exact absurd (Nat.lt_trans this F.ns.lt) (e ▸ Nat.lt_irrefl _)
 have it0 : (hp.push { cls := .type "dict_valueiterator", data := .fields #[.ref d, .int 0 0, .int kvs.length 0, .int ep 0] }).IsValIter hp.objs.size d 0 kvs.length ep := ⟨_, Heap.get?_push_size _ rfl, rfl, rfl⟩
 refine contains_vals hh hne kvs 0 _ rfl hs it0 (hds.at' fun o e => Heap.get?_push_of_some _ e) fun h' hk => ?_
 refine wpAny_pure (wpAny_pure ?_)
 have k' : ∀ b o, hp.get? b = some o → h'.get? b = some o := fun b o e => hk b o (Nat.ne_of_lt (Heap.lt_size e)) (Heap.get?_push_of_some _ e)
 exact h h' ⟨F.ns.keeps k', fun b o e => k' b o (F.keep b o e), F.above⟩ fun p hp => ⟨k' _ _ (N p hp).1, (N p hp).2⟩
end
section
variable {w : World} {A : Around} {E : Value → Shared → Prop} {s : Shared} {h₀ : Heap} {L : Addr} {m : Str → Option Value} {news : List (Addr × Obj)}
theorem lefts_values {Q : Value → Shared → Prop} (F : Fr h₀ L s.heap m) (N : News h₀ L s.heap news) (X₀ : (KO w.params).In h₀)
  (h : ∀ (D : Addr) h', Fr h₀ L h' m → News h₀ L h' ((D, { cls := .type "dict_values", data := .fields #[.ref 423] }) :: news) → (∀ q ∈ news, q.1 < D) → Q (.ref D) { s with heap := h' }) :
  wpAny (model pw_nm0149_01 w) A (call (.builtin "dict.values") [.ref 423]) Q E s := by
 obtain ⟨a, b, c, ep, hd⟩ := lefts_at X₀
 have hD := (hd.at' fun o e => F.keep 423 o e).dictOf
 exact call_meetsIn PySem.F.slot_dict_values hD.typeIs PySem.F.entry_dict_values (PySem.F.args_dict_values_1 _) (meets_dict_values _ 423 (by decide)) ⟨⟨_, hD⟩, h _ _ (F.push _) (News.push F N _) fun q hq => Heap.lt_size (N q hq).1⟩
theorem lefts_in {D : Addr} {x : Str} {tx : Tok} {Q : Value → Shared → Prop} (hh : A.handled = none) (F : Fr h₀ L s.heap m) (N : News h₀ L s.heap news) (X₀ : (KO w.params).In h₀) (hv : (D, ({ cls := .type "dict_values", data := .fields #[.ref 423] } : Obj)) ∈ news)
  (h : ∀ h', Fr h₀ L h' m → News h₀ L h' news → Q (.bool (leftName x)) { s with heap := h' }) : wpAny (model pw_nm0149_01 w) A (compareOp .In (.str x tx) (.ref D)) Q E s := by
 obtain ⟨a, b, c, ep, hd⟩ := lefts_at X₀
 refine in_vals hh F N (d := 423) ⟨_, (N _ hv).1, rfl, rfl⟩ hd (fun p hp => ?_) fun h' F' N' => ?_
 ·simp only [lefts3, List.mem_cons, List.not_mem_nil, or_false] at hp
  rcases hp with rfl | rfl | rfl <;> exact ⟨_, _, rfl⟩
 ·have e : ((lefts3 a b c).any fun p => match p.2 with | .str y _ => y == x | _ => false) = leftName x := by simp [lefts3, leftName, Bool.or_assoc]
  rw [e]
  exact h h' F' N'
end
theorem c_is_left {w : World} {mean : ExcName → Option Value} {mg mb : Str → Option Value} {A₀ : Around} {base : Heap} {outer : List Env} {h₀ : Heap} {L : Addr} {m : Str → Option Value} {cs : Scope} {s : Shared} {news : List (Addr × Obj)} {dp un : Nat} {gd : Option (List Code)} {cn : Str} {a : Addr} {ccd : Value} {cl : List (Str × Addr)} {Q E : Value → Shared → Prop}
  (c : Cx w mean mg mb A₀ base outer h₀ L m cs s news dp un 1)
  {name : Str} {tn : Tok} {b : Bool}
  (hb : leftName name = b)
  (hret : ∀  h' tk', Fr h₀ L h' m → News h₀ L h' (news) → Q (.bool b) { s with heap := h', toks := tk' })
  : wpAny (model pw_nm0149_01 w) (ktrTop dp un gd cn cs L a ccd cl outer) (call (.ref 437) [.str name tn]) Q E s := by
 obtain ⟨B, F, X, N, T, hk, hd, hu⟩ := c
 subst hb
 (refine wpAny_call ?_; (k_dflt (refine' code_def ?k1 ?k2 ?k3 ?k4 ?k5 ?kA ?kF ?kK ?k6 ?k7 ?k8 ?k9 ?kB ?_ ?c2 ?c3 ?c4 ?c5; (case kA => exact rfl); (case kF => exact rfl); (case kK => first | assumption | exact rfl); (case k1 => k_asm); (case k2 => k_asm); (case k3 => k_asm); (case k4 => k_asm); (case k5 => k_asm); (case k6 => k_is); (case k7 => k_is); (case k8 => ktr_room); (case k9 => first | exact BindsTo.of_eq rfl | exact binds_K (by k_in) rfl (by k_is) rfl rfl rfl); (case c5 => decide); (case kB => exact locs rfl); (case c2 => exact rfl); (case c3 => exact rfl); (case c4 => exact rfl); k_whole; intro g' L' h' FG' F' N' B' X' T'; (try dsimp only); (try k_fold))))
 k_steps
 (k_here; (with_reducible show wpAny _ _ (getMethod (Value.ref 423) _ _) _ _ _); k_dflt (refine Looks.here (Looks.of_peek (by k_in) (r := (Value.builtin "dict.values", [Value.ref 423])) (by kernel_rfl)) ?_))
 k_steps
 (k_here; k_dflt (refine' lefts_values ?F ?N ?X ?_; (case F => k_asm); (case N => k_asm); (case X => assumption)); intro D' h' F' N' l1; (try k_sweep))
 k_steps
 (k_here; k_dflt (refine' lefts_in ?hh ?F ?N ?X ?hv ?_; (case hh => exact rfl); (case F => k_asm); (case N => k_asm); (case X => assumption); (case hv => exact List.Mem.head _)); intro h' F' N'; (try k_sweep))
 k_steps
 all_goals exact hret _ _ (by k_asm) (fun p hp => (by assumption : News _ _ _ _) p (.tail _ hp))
noncomputable abbrev S (l : List Nat) : Str := ⟨l.toArray⟩
inductive MV where
 | none | bool (b : Bool) | int (i : Int) | str (s : List Nat) | obj (i : Nat) | tup (l : List MV)
 | tree (t : Tr) | trees (l : List Tr) | scr (l : List Int) | con (v : Value) | junk
structure Wd where
 ρ : List Addr
 R : List (Addr × Obj)
 sc : List (Addr × List Int)
 pin : List (Addr × Obj)
noncomputable abbrev Wd.all (W : Wd) : List (Addr × Obj) := W.R ++ W.pin
theorem Wd.mem (W : Wd) {p : Addr × Obj} (h : p ∈ W.R) : p ∈ W.all := List.mem_append_left _ h
structure Wd.Le (W W' : Wd) : Prop where
 ρ : ∀ (i : Nat) (a : Addr), W.ρ[i]? = some a → W'.ρ[i]? = some a
 R : ∀ p ∈ W.R, p ∈ W'.R
 sc : W'.sc = W.sc
 pin : W'.pin = W.pin
structure Wd.Wk (W W' : Wd) : Prop where
 ρ : ∀ (i : Nat) (a : Addr), W.ρ[i]? = some a → W'.ρ[i]? = some a
 R : ∀ p ∈ W.R, p ∈ W'.R
 sc : W'.sc = W.sc
theorem Wd.Le.wk {W W' : Wd} (h : W.Le W') : W.Wk W' := ⟨h.ρ, h.R, h.sc⟩
theorem Wd.Le.rfl' {W : Wd} : W.Le W := ⟨fun _ _ h => h, fun _ h => h, rfl, rfl⟩
theorem Wd.Le.trans {W W' W'' : Wd} (a : W.Le W') (b : W'.Le W'') : W.Le W'' := ⟨fun i x h => b.ρ i x (a.ρ i x h), fun p h => b.R p (a.R p h), b.sc.trans a.sc, b.pin.trans a.pin⟩
mutual
inductive VR (P : Params) (W : Wd) : MV → Value → Prop
 | none : VR P W .none .none
 | bool {b} : VR P W (.bool b) (.bool b)
 | int {i t} : VR P W (.int i) (.int i t)
 | str {x t} : VR P W (.str x) (.str (S x) t)
 | obj {i a} : W.ρ[i]? = some a → VR P W (.obj i) (.ref a)
 | tup {a vs ws} : (a, tupO ws) ∈ W.R → ws.length ≤ 16777216 → VRs P W vs ws → VR P W (.tup vs) (.ref a)
 | tree {v t} : TAt P W.R v t → VR P W (.tree t) v
 | trees {l k vs ts} : (l, _root_.PySem.W.listOf (vs : List Value).toArray k) ∈ W.R → vs.length ≤ 16777216 → TsAt P W.R vs ts → VR P W (.trees ts) (.ref l)
 | scr {a ns} : (a, ns) ∈ W.sc → VR P W (.scr ns) (.ref a)
 | con {v} : VR P W (.con v) v
 | junk {v} : VR P W .junk v
inductive VRs (P : Params) (W : Wd) : List MV → List Value → Prop
 | nil : VRs P W [] []
 | cons {v V vs Vs} : VR P W v V → VRs P W vs Vs → VRs P W (v :: vs) (V :: Vs)
end
theorem VR.weak {P : Params} {W W' : Wd} (h : W.Wk W') {v : MV} {V : Value} (r : VR P W v V) : VR P W' v V :=
 VR.rec (motive_1 := fun v V _ => VR P W' v V) (motive_2 := fun vs Vs _ => VRs P W' vs Vs) .none .bool .int .str (fun e => .obj (h.ρ _ _ e)) (fun e z _ r => .tup (h.R _ e) z r) (fun t => .tree (t.mono h.R)) (fun e z t => .trees (h.R _ e) z (t.mono h.R)) (fun e => .scr (h.sc ▸ e)) .con .junk .nil (fun _ _ a b => .cons a b) r
theorem VRs.weak {P : Params} {W W' : Wd} (h : W.Wk W') {v : List MV} {V : List Value} (r : VRs P W v V) : VRs P W' v V :=
 VRs.rec (motive_1 := fun v V _ => VR P W' v V) (motive_2 := fun vs Vs _ => VRs P W' vs Vs) .none .bool .int .str (fun e => .obj (h.ρ _ _ e)) (fun e z _ r => .tup (h.R _ e) z r) (fun t => .tree (t.mono h.R)) (fun e z t => .trees (h.R _ e) z (t.mono h.R)) (fun e => .scr (h.sc ▸ e)) .con .junk .nil (fun _ _ a b => .cons a b) r
def VRI (P : Params) (W : Wd) : MV → Value → Prop
 | .none, V => V = .none
 | .bool b, V => V = .bool b
 | .int i, V => ∃ t, V = .int i t
 | .str x, V => ∃ t, V = .str (S x) t
 | .obj i, V => ∃ a, V = .ref a ∧ W.ρ[i]? = some a
 | .tup vs, V => ∃ a ws, V = .ref a ∧ (a, tupO ws) ∈ W.R ∧ ws.length ≤ 16777216 ∧ VRs P W vs ws
 | .tree t, V => TAt P W.R V t
 | .trees ts, V => ∃ l k vs, V = .ref l ∧ (l, _root_.PySem.W.listOf (vs : List Value).toArray k) ∈ W.R ∧ vs.length ≤ 16777216 ∧ TsAt P W.R vs ts
 | .scr ns, V => ∃ a, V = .ref a ∧ (a, ns) ∈ W.sc
 | .con v, V => V = v
 | .junk, _ => True
theorem VR.inv {P : Params} {W : Wd} {v : MV} {V : Value} (h : VR P W v V) : VRI P W v V := by
 cases h with
 | none => exact rfl
 | bool => exact rfl
 | int => exact ⟨_, rfl⟩
 | str => exact ⟨_, rfl⟩
 | obj e => exact ⟨_, rfl, e⟩
 | tup e z r => exact ⟨_, _, rfl, e, z, r⟩
 | tree t => exact t
 | trees e z t => exact ⟨_, _, _, rfl, e, z, t⟩
 | scr e => exact ⟨_, rfl, e⟩
 | con => exact rfl
 | junk => trivial
section
variable {P : Params} {W : Wd} {V : Value}
theorem VR.iNone (h : VR P W .none V) : V = .none := h.inv
theorem VR.iBool {b : Bool} (h : VR P W (.bool b) V) : V = .bool b := h.inv
theorem VR.iInt {i : Int} (h : VR P W (.int i) V) : ∃ t, V = .int i t := h.inv
theorem VR.iStr {x : List Nat} (h : VR P W (.str x) V) : ∃ t, V = .str (S x) t := h.inv
theorem VR.iObj {i : Nat} (h : VR P W (.obj i) V) : ∃ a, V = .ref a ∧ W.ρ[i]? = some a := h.inv
theorem VR.iTup {vs : List MV} (h : VR P W (.tup vs) V) : ∃ a ws, V = .ref a ∧ (a, tupO ws) ∈ W.R ∧ ws.length ≤ 16777216 ∧ VRs P W vs ws := h.inv
theorem VR.iTree {t : Tr} (h : VR P W (.tree t) V) : TAt P W.R V t := h.inv
theorem VR.iTrees {ts : List Tr} (h : VR P W (.trees ts) V) : ∃ l k vs, V = .ref l ∧ (l, _root_.PySem.W.listOf (vs : List Value).toArray k) ∈ W.R ∧ vs.length ≤ 16777216 ∧ TsAt P W.R vs ts := h.inv
theorem VR.iScr {ns : List Int} (h : VR P W (.scr ns) V) : ∃ a, V = .ref a ∧ (a, ns) ∈ W.sc := h.inv
theorem VR.iCon {v : Value} (h : VR P W (.con v) V) : V = v := h.inv
theorem VR.eNone {C : Value → Prop} (h : VR P W .none V) (k : C .none) : C V := h.iNone ▸ k
theorem VR.eBool {b : Bool} {C : Value → Prop} (h : VR P W (.bool b) V) (k : C (.bool b)) : C V := h.iBool ▸ k
theorem VR.eCon {v : Value} {C : Value → Prop} (h : VR P W (.con v) V) (k : C v) : C V := h.iCon ▸ k
theorem VR.eInt {i : Int} {C : Value → Prop} (h : VR P W (.int i) V) (k : ∀ t, C (.int i t)) : C V := h.iInt.elim fun t e => e ▸ k t
theorem VR.eStr {x : List Nat} {C : Value → Prop} (h : VR P W (.str x) V) (k : ∀ t, C (.str (S x) t)) : C V := h.iStr.elim fun t e => e ▸ k t
theorem VR.eObj {i : Nat} {C : Value → Prop} (h : VR P W (.obj i) V) (k : ∀ a, W.ρ[i]? = some a → C (.ref a)) : C V := h.iObj.elim fun a e => e.1 ▸ k a e.2
theorem VR.eTup {vs : List MV} {C : Value → Prop} (h : VR P W (.tup vs) V) (k : ∀ a ws, (a, tupO ws) ∈ W.R → ws.length ≤ 16777216 → VRs P W vs ws → C (.ref a)) : C V := by
 refine ee24 h.iTup fun a ws qe2 h1 h2 h3 => ?_; subst qe2; exact k a ws h1 h2 h3
theorem VR.eTrees {ts : List Tr} {C : Value → Prop} (h : VR P W (.trees ts) V) (k : ∀ l k vs, (l, _root_.PySem.W.listOf (vs : List Value).toArray k) ∈ W.R → vs.length ≤ 16777216 → TsAt P W.R vs ts → C (.ref l)) : C V := by
 refine ee34 h.iTrees fun l j vs qe3 h1 h2 h3 => ?_; subst qe3; exact k l j vs h1 h2 h3
theorem VR.eScr {ns : List Int} {C : Value → Prop} (h : VR P W (.scr ns) V) (k : ∀ a, (a, ns) ∈ W.sc → C (.ref a)) : C V := h.iScr.elim fun a e => e.1 ▸ k a e.2
theorem VRs.iNil {Vs : List Value} (h : VRs P W [] Vs) : Vs = [] := by cases h; rfl
theorem VRs.iCons {v : MV} {vs : List MV} {Vs : List Value} (h : VRs P W (v :: vs) Vs) : ∃ V Vs', Vs = V :: Vs' ∧ VR P W v V ∧ VRs P W vs Vs' := by
 cases h with
 | cons a b => exact ⟨_, _, rfl, a, b⟩
theorem VRs.eNil {Vs : List Value} {C : List Value → Prop} (h : VRs P W [] Vs) (k : C []) : C Vs := h.iNil ▸ k
theorem VRs.eCons {v : MV} {vs : List MV} {Vs : List Value} {C : List Value → Prop} (h : VRs P W (v :: vs) Vs) (k : ∀ V Vs', VR P W v V → VRs P W vs Vs' → C (V :: Vs')) : C Vs := by
 refine ee23 (VRs.iCons h) fun V Vs' qe2 a b => ?_; subst qe2
 exact k V Vs' a b
end
theorem VR.mono {P : Params} {W W' : Wd} (h : W.Le W') {v : MV} {V : Value} (r : VR P W v V) : VR P W' v V := r.weak h.wk
theorem VRs.mono {P : Params} {W W' : Wd} (h : W.Le W') {v : List MV} {V : List Value} (r : VRs P W v V) : VRs P W' v V := r.weak h.wk
theorem VRs.length {P : Params} {W : Wd} {vs : List MV} {Vs : List Value} (h : VRs P W vs Vs) : vs.length = Vs.length := by
 induction vs generalizing Vs with
 | nil => rw [h.iNil]; rfl
 | cons v vs ih =>
  apply h.eCons; intro _ _ _ b
  exact congrArg (· + 1) (ih b)
theorem VRs.get {P : Params} {W : Wd} {vs : List MV} {Vs : List Value} {i : Nat} {v : MV} (r : VRs P W vs Vs) (h : vs[i]? = some v) : ∃ V, Vs[i]? = some V ∧ VR P W v V := by
 induction vs generalizing Vs i with
 | nil => exact nsE h
 | cons u vs ih =>
  apply r.eCons; intro V _ a b
  cases i with
  | zero => exact ⟨V, rfl, Option.some.inj h ▸ a⟩
  | succ i => exact ih (i := i) b h
theorem VRs.append {P : Params} {W : Wd} {vs vs' : List MV} {Vs Vs' : List Value} (r : VRs P W vs Vs) (h : VRs P W vs' Vs') : VRs P W (vs ++ vs') (Vs ++ Vs') := by
 induction vs generalizing Vs with
 | nil => rw [r.iNil]; exact h
 | cons v vs ih =>
  apply r.eCons; intro _ _ a b
  exact .cons a (ih b)
inductive MO where
 | inst (C : Nat) (fs : List (Nat × MV)) | list (l : List MV) | dict (l : List (List Nat × MV)) | lock
noncomputable def FN : List Str := ["items", "at", "row", "column", "sort", "text", "value", "why", "ids", "many", "kinds", "found"]
def fname (c : Nat) : Str := FN.getD c ""
def fdiff (a b : Nat) : Bool := (fname a == fname b) == decide (a = b)
theorem fname_ne : ∀ a < 12, ∀ b < 12, fdiff a b = true := by decide +kernel
inductive EsR (P : Params) (W : Wd) : List (Nat × MV) → List DictEntry → Prop
 | nil : EsR P W [] []
 | cons {c v V t fs es} : c < 12 → VR P W v V → EsR P W fs es → EsR P W ((c, v) :: fs) (⟨PyData.keyHash P (fname c), .str (fname c) t, V⟩ :: es)
inductive KsR (P : Params) (W : Wd) : List (List Nat × MV) → List (Str × Value) → Prop
 | nil : KsR P W [] []
 | cons {k v V ks kws} : VR P W v V → KsR P W ks kws → KsR P W ((k, v) :: ks) ((S k, V) :: kws)
theorem EsR.iNil {P : Params} {W : Wd} {es : List DictEntry} (h : EsR P W [] es) : es = [] := by cases h; rfl
theorem EsR.iCons {P : Params} {W : Wd} {c : Nat} {v : MV} {fs : List (Nat × MV)} {es : List DictEntry} (h : EsR P W ((c, v) :: fs) es) : ∃ V t es', es = ⟨PyData.keyHash P (fname c), .str (fname c) t, V⟩ :: es' ∧ c < 12 ∧ VR P W v V ∧ EsR P W fs es' := by
 cases h with
 | cons a b c => exact ⟨_, _, _, rfl, a, b, c⟩
theorem EsR.eCons {P : Params} {W : Wd} {c : Nat} {v : MV} {fs : List (Nat × MV)} {es : List DictEntry} {C : List DictEntry → Prop} (h : EsR P W ((c, v) :: fs) es) (k : ∀ V t es', c < 12 → VR P W v V → EsR P W fs es' → C (⟨PyData.keyHash P (fname c), .str (fname c) t, V⟩ :: es')) : C es := by
 refine ee34 (EsR.iCons h) fun V t es' qe3 h1 h2 h3 => ?_; subst qe3
 exact k V t es' h1 h2 h3
theorem EsR.eNil {P : Params} {W : Wd} {es : List DictEntry} {C : List DictEntry → Prop} (h : EsR P W [] es) (k : C []) : C es := EsR.iNil h ▸ k
theorem EsR.weak {P : Params} {W W' : Wd} (h : W.Wk W') {fs : List (Nat × MV)} {es : List DictEntry} (r : EsR P W fs es) : EsR P W' fs es :=
 EsR.rec (motive := fun fs es _ => EsR P W' fs es) .nil (fun a b _ c => .cons a (b.weak h) c) r
theorem KsR.weak {P : Params} {W W' : Wd} (h : W.Wk W') {fs : List (List Nat × MV)} {es : List (Str × Value)} (r : KsR P W fs es) : KsR P W' fs es :=
 KsR.rec (motive := fun fs es _ => KsR P W' fs es) .nil (fun b _ c => .cons (b.weak h) c) r
inductive OR (w : World) (W : Wd) : MO → Addr → List (Addr × Obj) → Prop
 | inst {C fs x dx es} : EsR w.params W fs es → OR w W (.inst C fs) x [(x, instObj C dx), (dx, dictOf es es.length)]
 | list {vs x k} {ws : List Value} : VRs w.params W vs ws → vs.length ≤ 1000000 → OR w W (.list vs) x [(x, _root_.PySem.W.listOf ws.toArray k)]
 | dict {ks x o kws} : (x == sysModules) = false → KsR w.params W ks kws → ks.length ≤ 1000 → o.IsDictOf (strKind pw_nm0149_01 w) kws → OR w W (.dict ks) x [(x, o)]
 | lock {x} : OR w W .lock x []
section
variable {w : World} {W : Wd} {x : Addr} {es : List (Addr × Obj)}
noncomputable def ORI (w : World) (W : Wd) (x : Addr) (es : List (Addr × Obj)) : MO → Prop
 | .inst C fs => ∃ dx es', es = [(x, instObj C dx), (dx, dictOf es' es'.length)] ∧ EsR w.params W fs es'
 | .list vs => ∃ k ws, es = [(x, _root_.PySem.W.listOf (ws : List Value).toArray k)] ∧ VRs w.params W vs ws ∧ vs.length ≤ 1000000
 | .dict ks => ∃ o kws, es = [(x, o)] ∧ (x == sysModules) = false ∧ KsR w.params W ks kws ∧ ks.length ≤ 1000 ∧ o.IsDictOf (strKind pw_nm0149_01 w) kws
 | .lock => es = []
theorem OR.inv {o : MO} (h : OR w W o x es) : ORI w W x es o := by
 cases h with
 | inst a => exact ⟨_, _, rfl, a⟩
 | list a z => exact ⟨_, _, rfl, a, z⟩
 | dict lo a z b => exact ⟨_, _, rfl, lo, a, z, b⟩
 | lock => exact rfl
theorem OR.iInst {C : Nat} {fs : List (Nat × MV)} (h : OR w W (.inst C fs) x es) : ∃ dx es', es = [(x, instObj C dx), (dx, dictOf es' es'.length)] ∧ EsR w.params W fs es' := h.inv
theorem OR.iList {vs : List MV} (h : OR w W (.list vs) x es) : ∃ k ws, es = [(x, _root_.PySem.W.listOf (ws : List Value).toArray k)] ∧ VRs w.params W vs ws ∧ vs.length ≤ 1000000 := h.inv
theorem OR.iDict {ks : List (List Nat × MV)} (h : OR w W (.dict ks) x es) : ∃ o kws, es = [(x, o)] ∧ (x == sysModules) = false ∧ KsR w.params W ks kws ∧ ks.length ≤ 1000 ∧ o.IsDictOf (strKind pw_nm0149_01 w) kws := h.inv
theorem OR.iLock (h : OR w W .lock x es) : es = [] := h.inv
theorem OR.eInst {K : Nat} {fs : List (Nat × MV)} {C : List (Addr × Obj) → Prop} (h : OR w W (.inst K fs) x es) (k : ∀ dx es', EsR w.params W fs es' → C [(x, instObj K dx), (dx, dictOf es' es'.length)]) : C es := by
 refine ee22 (OR.iInst h) fun dx es' qe2 a => ?_; subst qe2
 exact k dx es' a
theorem OR.eList {vs : List MV} {C : List (Addr × Obj) → Prop} (h : OR w W (.list vs) x es) (k : ∀ j ws, VRs w.params W vs ws → vs.length ≤ 1000000 → C [(x, _root_.PySem.W.listOf (ws : List Value).toArray j)]) : C es := by
 refine ee23 (OR.iList h) fun j ws qe2 a b => ?_; subst qe2
 exact k j ws a b
end
theorem OR.weak {w : World} {W W' : Wd} (h : W.Wk W') {o : MO} {x : Addr} {es : List (Addr × Obj)} (r : OR w W o x es) : OR w W' o x es :=
 OR.rec (motive := fun o x es _ => OR w W' o x es) (fun a => .inst (a.weak h)) (fun a z => .list (a.weak h) z) (fun lo a z b => .dict lo (a.weak h) z b) .lock r
inductive CellsR (w : World) (W : Wd) : List MO → List Addr → List (Addr × Obj) → Prop
 | nil : CellsR w W [] [] []
 | cons {o x es μ ρ cs} : OR w W o x es → CellsR w W μ ρ cs → CellsR w W (o :: μ) (x :: ρ) (es ++ cs)
theorem CellsR.weak {w : World} {W W' : Wd} (h : W.Wk W') {μ : List MO} {ρ : List Addr} {cs : List (Addr × Obj)} (r : CellsR w W μ ρ cs) : CellsR w W' μ ρ cs :=
 CellsR.rec (motive := fun μ ρ cs _ => CellsR w W' μ ρ cs) .nil (fun a _ b => .cons (a.weak h) b) r
theorem CellsR.mono {w : World} {W W' : Wd} (h : W.Le W') {μ : List MO} {ρ : List Addr} {cs : List (Addr × Obj)} (r : CellsR w W μ ρ cs) : CellsR w W' μ ρ cs := r.weak h.wk
theorem CellsR.snoc {w : World} {W : Wd} {o : MO} {x : Addr} {es : List (Addr × Obj)} (h : OR w W o x es) {μ : List MO} {ρ : List Addr} {cs : List (Addr × Obj)} (r : CellsR w W μ ρ cs) : CellsR w W (μ ++ [o]) (ρ ++ [x]) (cs ++ es) :=
 CellsR.rec (motive := fun μ ρ cs _ => CellsR w W (μ ++ [o]) (ρ ++ [x]) (cs ++ es)) (by have := CellsR.cons h CellsR.nil; rwa [List.append_nil] at this) (fun a _ b => by rw [List.append_assoc]; exact .cons a b) r
theorem CellsR.split {w : World} {W : Wd} {μ : List MO} {ρ : List Addr} {cs : List (Addr × Obj)} {i : Nat} {o : MO} (r : CellsR w W μ ρ cs) (h : μ[i]? = some o) :
  ∃ x es pre post, ρ[i]? = some x ∧ OR w W o x es ∧ cs = pre ++ (es ++ post) ∧ ∀ o' es', OR w W o' x es' → CellsR w W (μ.set i o') ρ (pre ++ (es' ++ post)) := by
 induction r generalizing i with
 | nil => exact nsE h
 | @cons _ x₀ es₀ _ _ cs₀ a b ih =>
  cases i with
  | zero =>
   refine ⟨x₀, es₀, [], cs₀, rfl, Option.some.inj h ▸ a, rfl, fun o' es' h' => ?_⟩
   rw [List.nil_append]
   exact .cons h' b
  | succ i =>
   refine ee44 (ih (i := i) h) fun x es pre post h1 h2 h3 h4 => ?_
   refine ⟨x, es, es₀ ++ pre, post, h1, h2, by rw [h3, List.append_assoc], fun o' es' h' => ?_⟩
   rw [List.append_assoc]
   exact .cons a (h4 o' es' h')
theorem CellsR.len {w : World} {W : Wd} {μ : List MO} {ρ : List Addr} {cs : List (Addr × Obj)} (r : CellsR w W μ ρ cs) : μ.length = ρ.length :=
 CellsR.rec (motive := fun μ ρ _ _ => μ.length = ρ.length) rfl (fun _ _ b => congrArg (· + 1) b) r
structure FG where
 w : World
 mean : ExcName → Option Value
 mg : Str → Option Value
 mb : Str → Option Value
 A₀ : Around
 base : Heap
 outer : List Env
 h₀ : Heap
 L : Addr
 cs : Scope
 A : Around
 cn : Str
 a : Addr
 ccd : Value
 cl : List (Str × Addr)
noncomputable abbrev FG.env (g : FG) : Env := envX g.cn g.cs g.L g.a g.ccd g.cl
structure Stat (g : FG) (D : Nat) : Prop where
 B : Below g.A₀ g.base g.outer g.h₀
 X : (KO g.w.params).In g.h₀
 T : Top viewE LOOSE g.mean g.mg g.mb g.h₀
 K : g.cs.kind = .function
 fr : g.A.frames = some (g.env :: g.outer)
 hd : g.A.handled = none
 d : g.A.depth + D < recursionLimit
 u : g.A.units + 40 * D < cLine
structure St where
 m : List (Option MV)
 μ : List MO
noncomputable def VarIs (W : Wd) (cl : List (Str × Addr)) (m : Str → Option Value) (x : Str) (V : Value) : Prop :=
 (cl.lookup x = none ∧ m x = some V) ∨ ∃ c o, cl.lookup x = some c ∧ (c, o) ∈ W.R ∧ o.data = .cell (some V)
theorem VarIs.weak {W W' : Wd} (h : W.Wk W') {cl : List (Str × Addr)} {m : Str → Option Value} {x : Str} {V : Value} : VarIs W cl m x V → VarIs W' cl m x V
 | .inl a => .inl a
 | .inr ⟨c, o, a, b, d⟩ => .inr ⟨c, o, a, h.R _ b, d⟩
def LocR (P : Params) (W : Wd) (cl : List (Str × Addr)) (ns : List Str) (vs : List (Option MV)) (m : Str → Option Value) : Prop :=
 ∀ (i : Nat) (x : Str) (v : MV), ns[i]? = some x → vs[i]? = some (some v) → ∃ V, VarIs W cl m x V ∧ VR P W v V
noncomputable def ScOk (h₀ : Heap) (W : Wd) : Prop := ∀ a xs, (a, xs) ∈ W.sc → ∃ vs : List Value, h₀.IsList a vs.toArray ∧ IntsAre vs xs ∧ xs.length ≤ 1048576
theorem ScOk.le {h₀ : Heap} {W W' : Wd} (le : W.Le W') (h : ScOk h₀ W) : ScOk h₀ W' := fun a xs q => h a xs (le.sc ▸ q)
theorem ScOk.keep {h₀ h : Heap} {W : Wd} (k : ∀ b o, h₀.get? b = some o → h.get? b = some o) (z : ScOk h₀ W) : ScOk h W := fun a xs q => let ⟨vs, l, r⟩ := z a xs q; ⟨vs, l.at fun o e => k a o e, r⟩
theorem LocR.weak {P : Params} {W W' : Wd} (le : W.Wk W') {cl : List (Str × Addr)} {ns : List Str} {vs : List (Option MV)} {m : Str → Option Value} (h : LocR P W cl ns vs m) : LocR P W' cl ns vs m := fun i x v a b => let ⟨V, c, d⟩ := h i x v a b; ⟨V, c.weak le, d.weak le⟩
theorem LocR.mono {P : Params} {W W' : Wd} (le : W.Le W') {cl : List (Str × Addr)} {ns : List Str} {vs : List (Option MV)} {m : Str → Option Value} (h : LocR P W cl ns vs m) : LocR P W' cl ns vs m := h.weak le.wk
structure Rel (g : FG) (ns : List Str) (W : Wd) (st : St) (h : Heap) (m : Str → Option Value) (cs : List (Addr × Obj)) : Prop where
 F : Fr g.h₀ g.L h m
 N : News g.h₀ g.L h (cs ++ W.all)
 nd : ((cs ++ W.all).map (·.1)).Nodup
 loc : LocR g.w.params W g.cl ns st.m m
 cells : CellsR g.w W st.μ W.ρ cs
 sc : ScOk g.h₀ W
inductive Out (α : Type) where
 | val (a : α) | bad (why : List Nat) (row col : Int)
structure FlyR (g : FG) (ns : List Str) (W : Wd) (st : St) (e : Addr) (why : List Nat) (row col : Int) (m : Str → Option Value) (h : Heap) (cs : List (Addr × Obj)) (G : Heap) : Prop where
 F : Fr g.h₀ g.L G m
 loc : LocR g.w.params W g.cl ns st.m m
 nd : ((cs ++ W.all).map (·.1)).Nodup
 cells : CellsR g.w W st.μ W.ρ cs
 sc : ScOk g.h₀ W
 U : G.UpToSlots h
inductive ERel (g : FG) (ns : List Str) (W : Wd) (st : St) (e : Addr) (why : List Nat) (row col : Int) (m : Str → Option Value) (h : Heap) : Prop
 | new {cs t de ta tb tc twy trw tcl} : Rel g ns W st h m cs → News g.h₀ g.L h ((e, excO 58 t (some de)) :: (t, tupO [.str (S why) twy]) :: (de, badD g.w.params ta tb tc (S why) twy row trw col tcl) :: (cs ++ W.all)) →
   (∀ p ∈ (de, badD g.w.params ta tb tc (S why) twy row trw col tcl) :: (cs ++ W.all), p.1 ≠ e ∧ p.1 ≠ t) → ERel g ns W st e why row col m h
 | fly {cs G t de ta tb tc twy trw tcl} : FlyR g ns W st e why row col m h cs G →
   RB g.base G (g.env :: g.outer) 58 e de t [.str (S why) twy] ((de, badD g.w.params ta tb tc (S why) twy row trw col tcl) :: (cs ++ W.all)) h → ERel g ns W st e why row col m h
 | held {cs G t de ta tb tc twy trw tcl} : FlyR g ns W st e why row col m h cs G →
   HB g.base G (g.env :: g.outer) g.L 58 e de t [.str (S why) twy] ((de, badD g.w.params ta tb tc (S why) twy row trw col tcl) :: (cs ++ W.all)) h → ERel g ns W st e why row col m h
noncomputable abbrev Sh (s : Shared) (h : Heap) (tk : Nat) : Shared := ⟨h, s.gens, s.drawn, tk, s.os⟩
def PostG {α β : Type} (g : FG) (ns : List Str) (W : Wd) (s : Shared) (RR : Params → Wd → β → α → Prop) (Q : α → Shared → Prop) (E : Value → Shared → Prop) (st : St) : Out β → Prop
 | .val b => ∀ W' h' tk' m' cs' a, W.Le W' → Rel g ns W' st h' m' cs' → RR g.w.params W' b a → Q a (Sh s h' tk')
 | .bad why r c => ∀ W' h' tk' m' e, W.Le W' → ERel g ns W' st e why r c m' h' → E (.ref e) (Sh s h' tk')
theorem PostG.eqs {α β : Type} {g : FG} {ns : List Str} {W : Wd} {s : Shared} {RR : Params → Wd → β → α → Prop} {Q : α → Shared → Prop} {E : Value → Shared → Prop} {st st1 : St} {o o1 : Out β} (h : PostG g ns W s RR Q E st o) (e : some (o1, st1) = some (o, st)) : PostG g ns W s RR Q E st1 o1 := by
 obtain ⟨rfl, rfl⟩ := spE e; exact h
structure FS where
 sc : Scope
 ns : List Str
 D : Nat
 lp : Bool := true
structure CsE (F : FS) (g : FG) (E : Value → Shared → Prop) : Prop where
 eq : g.cs = F.sc
 lc : ∀ x, F.sc.names.lookup x = some .local → g.cl.lookup x = none
 cc : ∀ x, F.sc.names.lookup x = some .cell → g.cl.lookup x ≠ none
 pe : F.lp = true → PassesOwn (model pw_nm0149_01 g.w) g.A g.env E
theorem noCell {sc : Scope} (h : ∀ x ∈ sc.names, x.2 ≠ .cell) : ∀ x, sc.names.lookup x ≠ some .cell := fun x => by
 generalize sc.names = l at h
 induction l with
 | nil => exact fun q => nomatch q
 | cons p r ih =>
  rw [List.lookup_cons]
  split
  ·exact fun q => h p (.head _) (Option.some.inj q)
  ·exact ih fun x hx => h x (.tail _ hx)
noncomputable abbrev MM (β : Type) := St → Option (Out β × St)
def MM.pure {β : Type} (b : β) : MM β := fun st => some (.val b, st)
def MM.bind {β γ : Type} (f : MM β) (k : β → MM γ) : MM γ := fun st => match f st with
 | some (.val b, st1) => k b st1
 | some (.bad w r c, st1) => some (.bad w r c, st1)
 | none => none
def MM.fail {β : Type} : MM β := fun _ => none
structure Go {α β : Type} (F : FS) (RR : Params → Wd → β → α → Prop) (g : FG) (W : Wd) (st : St) (s : Shared) (f : MM β) (Q : α → Shared → Prop) (E : Value → Shared → Prop) : Prop where
 cs : CsE F g E
 S : Stat g F.D
 R : ∃ m cs, Rel g F.ns W st s.heap m cs
 o : ∃ o st', f st = some (o, st') ∧ PostG g F.ns W s RR Q E st' o
section
variable {α β : Type} {F : FS} {RR : Params → Wd → β → α → Prop} {g : FG} {W : Wd} {st : St} {s : Shared} {f : MM β} {Q : α → Shared → Prop} {E : Value → Shared → Prop} {C : Prop}
theorem Go.oF (G : Go F RR g W st s f Q E) (k : CsE F g E → Stat g F.D → (∃ m cs, Rel g F.ns W st s.heap m cs) → ∀ o st', f st = some (o, st') → PostG g F.ns W s RR Q E st' o → C) : C := ee22 G.o fun o st' e h => k G.cs G.S G.R o st' e h
theorem Go.oG (G : Go F RR g W st s f Q E) (k : CsE F g E → Stat g F.D → ∀ m cs, Rel g F.ns W st s.heap m cs → ∀ o st', f st = some (o, st') → PostG g F.ns W s RR Q E st' o → C) : C := ee21 G.R fun m cs R => G.oF fun a b _ => k a b m cs R
theorem Go.RE (G : Go F RR g W st s f Q E) (k : ∀ m cs, Rel g F.ns W st s.heap m cs → C) : C := ee21 G.R k
theorem Go.oE (G : Go F RR g W st s f Q E) (k : ∀ o st', f st = some (o, st') → PostG g F.ns W s RR Q E st' o → C) : C := ee22 G.o k
end
def Ev {α β : Type} (F : FS) (RR : Params → Wd → β → α → Prop) (t : FG → Sem α) (f : MM β) : Prop :=
 ∀ g W st s Q E, Go F RR g W st s f Q E → wpAny (model pw_nm0149_01 g.w) g.A (t g) Q E s
theorem PostG.on {α β : Type} {g : FG} {ns : List Str} {W W1 : Wd} {s : Shared} {h1 : Heap} {tk1 : Nat} {RR : Params → Wd → β → α → Prop} {Q : α → Shared → Prop} {E : Value → Shared → Prop} {st : St} {o : Out β} (le : W.Le W1) (h : PostG g ns W s RR Q E st o) : PostG g ns W1 (Sh s h1 tk1) RR Q E st o := by
 cases o with
 | val b => exact fun W' h' tk' m' cs' a l r q => h W' h' tk' m' cs' a (le.trans l) r q
 | bad w r c => exact fun W' h' tk' m' e l r => h W' h' tk' m' e (le.trans l) r
theorem Go.then {α β α' γ : Type} {F : FS} {RR : Params → Wd → β → α → Prop} {RR2 : Params → Wd → γ → α' → Prop} {f : MM β} {k : β → MM γ} {g : FG} {W : Wd} {st : St} {s : Shared} {Q : α → Shared → Prop} {Q2 : α' → Shared → Prop} {E : Value → Shared → Prop} {X : Prop}
  (G : Go F RR2 g W st s (f.bind k) Q2 E) (op : Go F RR g W st s f Q E → X) (h : ∀ W1 st1 h1 tk1 b a, W.Le W1 → RR g.w.params W1 b a → Go F RR2 g W1 st1 (Sh s h1 tk1) (k b) Q2 E → Q a (Sh s h1 tk1)) : X := by
 obtain ⟨hcs, S, R, o, st', e, hP⟩ := G
 cases q : f st with
 | none => unfold MM.bind at e; rw [q] at e; exact nsE e
 | some p =>
  obtain ⟨ob, st1⟩ := p
  unfold MM.bind at e; rw [q] at e
  refine op ⟨hcs, S, R, ob, st1, q, ?_⟩
  cases ob with
  | val b => exact fun W' h' tk' m' cs' a l r hb => h W' st1 h' tk' b a l hb ⟨hcs, S, ⟨_, _, r⟩, o, st', e, hP.on l⟩
  | bad w r c => obtain ⟨rfl, rfl⟩ := spE e; exact hP
theorem Ev.step {α β α' γ : Type} {F : FS} {RR : Params → Wd → β → α → Prop} {RR2 : Params → Wd → γ → α' → Prop} {t : FG → Sem α} {f : MM β} {k : β → MM γ} {g : FG} {W : Wd} {st : St} {s : Shared} {Q : α → Shared → Prop} {Q2 : α' → Shared → Prop} {E : Value → Shared → Prop}
  (hf : Ev F RR t f) (G : Go F RR2 g W st s (f.bind k) Q2 E) (h : ∀ W1 st1 h1 tk1 b a, W.Le W1 → RR g.w.params W1 b a → Go F RR2 g W1 st1 (Sh s h1 tk1) (k b) Q2 E → Q a (Sh s h1 tk1)) : wpAny (model pw_nm0149_01 g.w) g.A (t g) Q E s :=
 G.then (hf g W st s Q E) h
theorem Go.ret {α β : Type} {F : FS} {RR : Params → Wd → β → α → Prop} {g : FG} {W : Wd} {st : St} {s : Shared} {b : β} {a : α} {Q : α → Shared → Prop} {E : Value → Shared → Prop} (G : Go F RR g W st s (MM.pure b) Q E) (h : RR g.w.params W b a) : Q a s := by
 obtain ⟨hcs, S, ⟨m, cs, R⟩, o, st', e, hP⟩ := G
 have hP := hP.eqs e
 exact hP W s.heap s.toks m cs a .rfl' R h
theorem Go.none {α β : Type} {F : FS} {RR : Params → Wd → β → α → Prop} {g : FG} {W : Wd} {st : St} {s : Shared} {Q : α → Shared → Prop} {E : Value → Shared → Prop} (G : Go F RR g W st s MM.fail Q E) : False := by
 obtain ⟨hcs, S, R, o, st', e, hP⟩ := G
 exact nsE e
section
variable {α β : Type} {r : β} {F : FS} {RR : Params → Wd → β → α → Prop} {g : FG} {W : Wd} {st : St} {s : Shared} {Q : α → Shared → Prop} {E : Value → Shared → Prop} {C : Prop}
theorem se1 {x0 : Option (Option MV)} {f : _ → Option β} (e : (match (generalizing := false) x0 with | some (some v0) => f v0 | _ => none) = some r) (k : ∀ v0, x0 = some (some v0) → f v0 = some r → C) : C := by
 split at e
 ·first | exact k _ rfl e | exact k _ (by assumption) e
 ·exact nsE e
theorem se2 {x0 : Option Int} {f : _ → Option β} (e : (match (generalizing := false) x0 with | some v0 => f v0 | none => none) = some r) (k : ∀ v0, x0 = some v0 → f v0 = some r → C) : C := by
 split at e
 ·first | exact k _ rfl e | exact k _ (by assumption) e
 ·exact nsE e
theorem se3 {x0 : Bool} {f : Option β} (e : (match (generalizing := false) x0 with | true => f | false => none) = some r) (k : x0 = true → f = some r → C) : C := by
 split at e
 ·first | exact k rfl e | exact k (by assumption) e
 ·exact nsE e
theorem se4 {x0 : Option MO} {f : _ → _ → Option β} (e : (match (generalizing := false) x0 with | some (MO.inst v0 v1) => f v0 v1 | _ => none) = some r) (k : ∀ v0 v1, x0 = some (MO.inst v0 v1) → f v0 v1 = some r → C) : C := by
 split at e
 ·first | exact k _ _ rfl e | exact k _ _ (by assumption) e
 ·exact nsE e
theorem sg5 {x0 : MV} {f : _ → MM β} (e : Go F RR g W st s (match (generalizing := false) x0 with | MV.obj v0 => f v0 | _ => MM.fail) Q E) (k : ∀ v0, x0 = MV.obj v0 → Go F RR g W st s (f v0) Q E → C) : C := by
 split at e
 ·first | exact k _ rfl e | exact k _ (by assumption) e
 ·exact e.none.elim
theorem sg6 {x0 : Option MV} {f : _ → MM β} (e : Go F RR g W st s (match (generalizing := false) x0 with | some v0 => f v0 | none => MM.fail) Q E) (k : ∀ v0, x0 = some v0 → Go F RR g W st s (f v0) Q E → C) : C := by
 split at e
 ·first | exact k _ rfl e | exact k _ (by assumption) e
 ·exact e.none.elim
theorem sg7 {x0 : Bool} {f : MM β} (e : Go F RR g W st s (match (generalizing := false) x0 with | true => f | false => MM.fail) Q E) (k : x0 = true → Go F RR g W st s (f) Q E → C) : C := by
 split at e
 ·first | exact k rfl e | exact k (by assumption) e
 ·exact e.none.elim
theorem se8 {x0 : Option MV} {f : _ → Option β} (e : (match (generalizing := false) x0 with | some v0 => f v0 | none => none) = some r) (k : ∀ v0, x0 = some v0 → f v0 = some r → C) : C := by
 split at e
 ·first | exact k _ rfl e | exact k _ (by assumption) e
 ·exact nsE e
theorem se9 {x0 : Option (List PyData)} {f : _ → Option β} (e : (match (generalizing := false) x0 with | some v0 => f v0 | none => none) = some r) (k : ∀ v0, x0 = some v0 → f v0 = some r → C) : C := by
 split at e
 ·first | exact k _ rfl e | exact k _ (by assumption) e
 ·exact nsE e
theorem se10 {x0 : Option MO} {f : _ → Option β} (e : (match (generalizing := false) x0 with | some (MO.list v0) => f v0 | _ => none) = some r) (k : ∀ v0, x0 = some (MO.list v0) → f v0 = some r → C) : C := by
 split at e
 ·first | exact k _ rfl e | exact k _ (by assumption) e
 ·exact nsE e
theorem sg11 {x0 : MV} {x1 : MV} {f : _ → _ → MM β} (e : Go F RR g W st s (match (generalizing := false) x0, x1 with | MV.str [v0], MV.str v1 => f v0 v1 | _, _ => MM.fail) Q E) (k : ∀ v0 v1, x0 = MV.str [v0] → x1 = MV.str v1 → Go F RR g W st s (f v0 v1) Q E → C) : C := by
 split at e
 ·first | exact k _ _ rfl rfl e | exact k _ _ (by assumption) (by assumption) e
 ·exact e.none.elim
theorem se12 {x0 : Option MO} {f : _ → Option β} (e : (match (generalizing := false) x0 with | some (MO.dict v0) => f v0 | _ => none) = some r) (k : ∀ v0, x0 = some (MO.dict v0) → f v0 = some r → C) : C := by
 split at e
 ·first | exact k _ rfl e | exact k _ (by assumption) e
 ·exact nsE e
theorem sg13 {x0 : MV} {x1 : MV} {f : _ → _ → MM β} (e : Go F RR g W st s (match (generalizing := false) x0, x1 with | MV.str v0, MV.obj v1 => f v0 v1 | _, _ => MM.fail) Q E) (k : ∀ v0 v1, x0 = MV.str v0 → x1 = MV.obj v1 → Go F RR g W st s (f v0 v1) Q E → C) : C := by
 split at e
 ·first | exact k _ _ rfl rfl e | exact k _ _ (by assumption) (by assumption) e
 ·exact e.none.elim
theorem sg14 {x0 : MV} {x1 : MV} {f : _ → _ → MM β} (e : Go F RR g W st s (match (generalizing := false) x0, x1 with | MV.int v0, MV.int v1 => f v0 v1 | _, _ => MM.fail) Q E) (k : ∀ v0 v1, x0 = MV.int v0 → x1 = MV.int v1 → Go F RR g W st s (f v0 v1) Q E → C) : C := by
 split at e
 ·first | exact k _ _ rfl rfl e | exact k _ _ (by assumption) (by assumption) e
 ·exact e.none.elim
theorem sg15 {x0 : Option Bool} {f : _ → MM β} (e : Go F RR g W st s (match (generalizing := false) x0 with | some v0 => f v0 | none => MM.fail) Q E) (k : ∀ v0, x0 = some v0 → Go F RR g W st s (f v0) Q E → C) : C := by
 split at e
 ·first | exact k _ rfl e | exact k _ (by assumption) e
 ·exact e.none.elim
theorem sg16 {x0 : MV} {f : MM β} (e : Go F RR g W st s (match (generalizing := false) x0 with | MV.none => f | _ => MM.fail) Q E) (k : x0 = MV.none → Go F RR g W st s (f) Q E → C) : C := by
 split at e
 ·first | exact k rfl e | exact k (by assumption) e
 ·exact e.none.elim
theorem se17 {x0 : Option PyData} {f : _ → Option β} (e : (match (generalizing := false) x0 with | some v0 => f v0 | none => none) = some r) (k : ∀ v0, x0 = some v0 → f v0 = some r → C) : C := by
 split at e
 ·first | exact k _ rfl e | exact k _ (by assumption) e
 ·exact nsE e
theorem sg18 {x0 : List MV} {f : _ → MM β} (e : Go F RR g W st s (match (generalizing := false) x0 with | [v0] => f v0 | _ => MM.fail) Q E) (k : ∀ v0, x0 = [v0] → Go F RR g W st s (f v0) Q E → C) : C := by
 split at e
 ·first | exact k _ rfl e | exact k _ (by assumption) e
 ·exact e.none.elim
theorem sg19 {x0 : Option Nat} {f : _ → MM β} (e : Go F RR g W st s (match (generalizing := false) x0 with | some v0 => f v0 | none => MM.fail) Q E) (k : ∀ v0, x0 = some v0 → Go F RR g W st s (f v0) Q E → C) : C := by
 split at e
 ·first | exact k _ rfl e | exact k _ (by assumption) e
 ·exact e.none.elim
theorem sg20 {x0 : Option Int} {f : _ → MM β} (e : Go F RR g W st s (match (generalizing := false) x0 with | some v0 => f v0 | none => MM.fail) Q E) (k : ∀ v0, x0 = some v0 → Go F RR g W st s (f v0) Q E → C) : C := by
 split at e
 ·first | exact k _ rfl e | exact k _ (by assumption) e
 ·exact e.none.elim
theorem sg21 {x0 : Option Tr} {f : _ → MM β} (e : Go F RR g W st s (match (generalizing := false) x0 with | some v0 => f v0 | none => MM.fail) Q E) (k : ∀ v0, x0 = some v0 → Go F RR g W st s (f v0) Q E → C) : C := by
 split at e
 ·first | exact k _ rfl e | exact k _ (by assumption) e
 ·exact e.none.elim
theorem se22 {x0 : Option Nat} {f : _ → Option β} (e : (match (generalizing := false) x0 with | some v0 => f v0 | none => none) = some r) (k : ∀ v0, x0 = some v0 → f v0 = some r → C) : C := by
 split at e
 ·first | exact k _ rfl e | exact k _ (by assumption) e
 ·exact nsE e
theorem sg23 {x0 : MV} {x1 : MV} {f : _ → _ → MM β} (e : Go F RR g W st s (match (generalizing := false) x0, x1 with | MV.obj v0, MV.str v1 => f v0 v1 | _, _ => MM.fail) Q E) (k : ∀ v0 v1, x0 = MV.obj v0 → x1 = MV.str v1 → Go F RR g W st s (f v0 v1) Q E → C) : C := by
 split at e
 ·first | exact k _ _ rfl rfl e | exact k _ _ (by assumption) (by assumption) e
 ·exact e.none.elim
theorem sg24 {x0 : List MV} {f : _ → _ → MM β} (e : Go F RR g W st s (match (generalizing := false) x0 with | [MV.obj v0, MV.obj v1] => f v0 v1 | _ => MM.fail) Q E) (k : ∀ v0 v1, x0 = [MV.obj v0, MV.obj v1] → Go F RR g W st s (f v0 v1) Q E → C) : C := by
 split at e
 ·first | exact k _ _ rfl e | exact k _ _ (by assumption) e
 ·exact e.none.elim
theorem sg25 {x0 : List MV} {f : _ → _ → MM β} (e : Go F RR g W st s (match (generalizing := false) x0 with | [MV.obj v0, v1] => f v0 v1 | _ => MM.fail) Q E) (k : ∀ v0 v1, x0 = [MV.obj v0, v1] → Go F RR g W st s (f v0 v1) Q E → C) : C := by
 split at e
 ·first | exact k _ _ rfl e | exact k _ _ (by assumption) e
 ·exact e.none.elim
theorem sg26 {x0 : MV} {f : _ → MM β} (e : Go F RR g W st s (match (generalizing := false) x0 with | MV.int v0 => f v0 | _ => MM.fail) Q E) (k : ∀ v0, x0 = MV.int v0 → Go F RR g W st s (f v0) Q E → C) : C := by
 split at e
 ·first | exact k _ rfl e | exact k _ (by assumption) e
 ·exact e.none.elim
theorem sg27 {x0 : MV} {x1 : MV} {f : _ → _ → MM β} (e : Go F RR g W st s (match (generalizing := false) x0, x1 with | MV.obj v0, MV.obj v1 => f v0 v1 | _, _ => MM.fail) Q E) (k : ∀ v0 v1, x0 = MV.obj v0 → x1 = MV.obj v1 → Go F RR g W st s (f v0 v1) Q E → C) : C := by
 split at e
 ·first | exact k _ _ rfl rfl e | exact k _ _ (by assumption) (by assumption) e
 ·exact e.none.elim
theorem sg28 {x0 : List MV} {f : _ → _ → MM β} (e : Go F RR g W st s (match (generalizing := false) x0 with | [v0, MV.con (Value.ref v1)] => f v0 v1 | _ => MM.fail) Q E) (k : ∀ v0 v1, x0 = [v0, MV.con (Value.ref v1)] → Go F RR g W st s (f v0 v1) Q E → C) : C := by
 split at e
 ·first | exact k _ _ rfl e | exact k _ _ (by assumption) e
 ·exact e.none.elim
theorem sg29 {x0 : MV} {f : _ → MM β} (e : Go F RR g W st s (match (generalizing := false) x0 with | MV.str v0 => f v0 | _ => MM.fail) Q E) (k : ∀ v0, x0 = MV.str v0 → Go F RR g W st s (f v0) Q E → C) : C := by
 split at e
 ·first | exact k _ rfl e | exact k _ (by assumption) e
 ·exact e.none.elim
theorem sg30 {x0 : Option Str} {f : _ → MM β} (e : Go F RR g W st s (match (generalizing := false) x0 with | some v0 => f v0 | none => MM.fail) Q E) (k : ∀ v0, x0 = some v0 → Go F RR g W st s (f v0) Q E → C) : C := by
 split at e
 ·first | exact k _ rfl e | exact k _ (by assumption) e
 ·exact e.none.elim
theorem sg31 {x0 : MV} {x1 : MV} {f : _ → _ → MM β} (e : Go F RR g W st s (match (generalizing := false) x0, x1 with | MV.con (Value.ref v0), MV.str v1 => f v0 v1 | _, _ => MM.fail) Q E) (k : ∀ v0 v1, x0 = MV.con (Value.ref v0) → x1 = MV.str v1 → Go F RR g W st s (f v0 v1) Q E → C) : C := by
 split at e
 ·first | exact k _ _ rfl rfl e | exact k _ _ (by assumption) (by assumption) e
 ·exact e.none.elim
theorem sg32 {x0 : MV} {f : _ → MM β} (e : Go F RR g W st s (match (generalizing := false) x0 with | MV.trees v0 => f v0 | _ => MM.fail) Q E) (k : ∀ v0, x0 = MV.trees v0 → Go F RR g W st s (f v0) Q E → C) : C := by
 split at e
 ·first | exact k _ rfl e | exact k _ (by assumption) e
 ·exact e.none.elim
theorem sg33 {x0 : List MV} {f : _ → _ → MM β} (e : Go F RR g W st s (match (generalizing := false) x0 with | [MV.str v0, MV.str [v1]] => f v0 v1 | _ => MM.fail) Q E) (k : ∀ v0 v1, x0 = [MV.str v0, MV.str [v1]] → Go F RR g W st s (f v0 v1) Q E → C) : C := by
 split at e
 ·first | exact k _ _ rfl e | exact k _ _ (by assumption) e
 ·exact e.none.elim
theorem sg34 {x0 : MV} {f : _ → MM β} (e : Go F RR g W st s (match (generalizing := false) x0 with | MV.str [v0] => f v0 | _ => MM.fail) Q E) (k : ∀ v0, x0 = MV.str [v0] → Go F RR g W st s (f v0) Q E → C) : C := by
 split at e
 ·first | exact k _ rfl e | exact k _ (by assumption) e
 ·exact e.none.elim
theorem sg35 {x0 : Option (List (List Nat))} {f : _ → MM β} (e : Go F RR g W st s (match (generalizing := false) x0 with | some v0 => f v0 | none => MM.fail) Q E) (k : ∀ v0, x0 = some v0 → Go F RR g W st s (f v0) Q E → C) : C := by
 split at e
 ·first | exact k _ rfl e | exact k _ (by assumption) e
 ·exact e.none.elim
theorem sg36 {x0 : MV} {x1 : MV} {f : _ → _ → MM β} (e : Go F RR g W st s (match (generalizing := false) x0, x1 with | MV.str v0, MV.tup v1 => f v0 v1 | _, _ => MM.fail) Q E) (k : ∀ v0 v1, x0 = MV.str v0 → x1 = MV.tup v1 → Go F RR g W st s (f v0 v1) Q E → C) : C := by
 split at e
 ·first | exact k _ _ rfl rfl e | exact k _ _ (by assumption) (by assumption) e
 ·exact e.none.elim
theorem se37 {x0 : Option (List (List Nat))} {f : _ → Option β} (e : (match (generalizing := false) x0 with | some v0 => f v0 | none => none) = some r) (k : ∀ v0, x0 = some v0 → f v0 = some r → C) : C := by
 split at e
 ·first | exact k _ rfl e | exact k _ (by assumption) e
 ·exact nsE e
theorem se38 {x0 : Option (List Tr)} {f : _ → Option β} (e : (match (generalizing := false) x0 with | some v0 => f v0 | none => none) = some r) (k : ∀ v0, x0 = some v0 → f v0 = some r → C) : C := by
 split at e
 ·first | exact k _ rfl e | exact k _ (by assumption) e
 ·exact nsE e
theorem se40 {x0 : Option (List MV × MV)} {f : _ → _ → Option β} (e : (match (generalizing := false) x0 with | some (v0, v1) => f v0 v1 | none => none) = some r) (k : ∀ v0 v1, x0 = some (v0, v1) → f v0 v1 = some r → C) : C := by
 split at e
 ·first | exact k _ _ rfl e | exact k _ _ (by assumption) e
 ·exact nsE e
theorem sg41 {x0 : List MV} {f : _ → MM β} (e : Go F RR g W st s (match (generalizing := false) x0 with | [MV.obj v0] => f v0 | _ => MM.fail) Q E) (k : ∀ v0, x0 = [MV.obj v0] → Go F RR g W st s (f v0) Q E → C) : C := by
 split at e
 ·first | exact k _ rfl e | exact k _ (by assumption) e
 ·exact e.none.elim
theorem se43 {x0 : Option (Out MV × List MO)} {f : _ → _ → Option β} (e : (match (generalizing := false) x0 with | some (Out.val v0, v1) => f v0 v1 | _ => none) = some r) (k : ∀ v0 v1, x0 = some (Out.val v0, v1) → f v0 v1 = some r → C) : C := by
 split at e
 ·first | exact k _ _ rfl e | exact k _ _ (by assumption) e
 ·exact nsE e
theorem se44 {x0 : MV} {f : _ → _ → Option β} (e : (match (generalizing := false) x0 with | MV.tup [v0, v1] => f v0 v1 | _ => none) = some r) (k : ∀ v0 v1, x0 = MV.tup [v0, v1] → f v0 v1 = some r → C) : C := by
 split at e
 ·first | exact k _ _ rfl e | exact k _ _ (by assumption) e
 ·exact nsE e
end
noncomputable abbrev VV : Params → Wd → MV → Value → Prop := VR
noncomputable abbrev BB : Params → Wd → Bool → Bool → Prop := fun _ _ a b => a = b
noncomputable abbrev UU : Params → Wd → Unit → Unit → Prop := fun _ _ _ _ => True
inductive MF where | next | ret (v : MV) | brk | cont
inductive FlR (P : Params) (W : Wd) : MF → Flow → Prop
 | next : FlR P W .next .next
 | ret {v V} : VR P W v V → FlR P W (.ret v) (.ret V)
 | brk : FlR P W .brk .brk
 | cont : FlR P W .cont .cont
abbrev EvE (F : FS) (e : PySem.Expr) (f : MM MV) : Prop := Ev F VV (fun g => eval e g.env) f
abbrev EvT (F : FS) (e : PySem.Expr) (f : MM Bool) : Prop := Ev F BB (fun g => PySem.isTrue e g.env (eval e g.env)) f
abbrev EvS (F : FS) (t : Stmt) (f : MM MF) : Prop := Ev F FlR (fun g => exec t g.env) f
abbrev EvB (F : FS) (t : List Stmt) (f : MM MF) : Prop := Ev F FlR (fun g => execs t g.env) f
theorem Go.out {α β : Type} {F : FS} {RR : Params → Wd → β → α → Prop} {g : FG} {W W' : Wd} {st st2 : St} {s : Shared} {f : MM β} {b : β} {a : α} {Q : α → Shared → Prop} {E : Value → Shared → Prop} {h' : Heap} {tk' : Nat} {m' : Str → Option Value} {cs' : List (Addr × Obj)}
  (G : Go F RR g W st s f Q E) (e : f st = some (.val b, st2)) (le : W.Le W') (R : Rel g F.ns W' st2 h' m' cs') (h : RR g.w.params W' b a) : Q a (Sh s h' tk') := by
 refine G.oF fun hcs S R0 o st' e' hP => ?_
 rw [e] at e'; obtain ⟨rfl, rfl⟩ := spE e'
 exact hP W' h' tk' m' cs' a le R h
theorem Go.tk {α β : Type} {F : FS} {RR : Params → Wd → β → α → Prop} {g : FG} {W : Wd} {st : St} {s : Shared} {b : β} {a : α} {Q : α → Shared → Prop} {E : Value → Shared → Prop} {tk' : Nat}
  (G : Go F RR g W st s (MM.pure b) Q E) (h : RR g.w.params W b a) : Q a (Sh s s.heap tk') := by
 refine G.RE fun m cs R => ?_
 exact G.out rfl .rfl' R h
theorem Ev.stepE {α β α' γ : Type} {F : FS} {RR : Params → Wd → β → α → Prop} {RR2 : Params → Wd → γ → α' → Prop} {t : FG → Sem α} {f : MM β} {k : β → MM γ} {g : FG} {W : Wd} {st : St} {s : Shared} {Q : α → Shared → Prop} {Q2 : α' → Shared → Prop} {E : Value → Shared → Prop}
  (hf : Ev F RR t f) (G : Go F RR2 g W st s (f.bind k) Q2 E) (h : ∀ W1 st1 h1 tk1 b a, W.Le W1 → RR g.w.params W1 b a → f st = some (.val b, st1) → Go F RR2 g W1 st1 (Sh s h1 tk1) (k b) Q2 E → Q a (Sh s h1 tk1)) : wpAny (model pw_nm0149_01 g.w) g.A (t g) Q E s := by
 refine G.oF fun hcs S R o st' e hP => ?_
 cases q : f st with
 | none => unfold MM.bind at e; rw [q] at e; exact nsE e
 | some p =>
  obtain ⟨ob, st1⟩ := p
  unfold MM.bind at e; rw [q] at e
  refine hf g W st s Q E ⟨hcs, S, R, ob, st1, q, ?_⟩
  cases ob with
  | val b => exact fun W' h' tk' m' cs' a l r hb => h W' st1 h' tk' b a l hb q ⟨hcs, S, ⟨_, _, r⟩, o, st', e, hP.on l⟩
  | bad w r c => obtain ⟨rfl, rfl⟩ := spE e; exact hP
section
variable {F : FS}
def getM (i : Nat) : MM MV := fun st => match st.m[i]? with
 | some (some v) => some (.val v, st)
 | _ => none
theorem Ev.loc {i : Nat} {x : Str} {pos : Pos} (hn : F.ns[i]? = some x := by kernel_rfl) (hk : F.sc.names.lookup x = some .local := by kernel_rfl) (hd : (x == ("__debug__" : Str)) = false := by kernel_rfl) : EvE F (.Name x pos) (getM i) := by
 intro g W st s Q E G
 refine G.oG fun hcs S m cs R o st' e hP => ?_
 unfold getM at e
 refine se1 e fun v hv e => ?_
 have hP := hP.eqs e
 refine ee12 (R.loc i x v hn hv) fun V hm hV => ?_
 rcases hm with ⟨_, hm⟩ | ⟨c, o, hc, _⟩
 case inr => rw [hcs.lc x hk] at hc; exact nsE hc
 exact nameX_L R.F hm (hP W s.heap s.toks m cs V .rfl' R hV) S.K (by show g.cs.names.lookup x = _; rw [hcs.eq]; exact hk) hd
theorem Ev.glob {x : Str} {v : Value} {pos : Pos} (hn : ∀ P, nsIn (KO P) mainGlobals x = some (some v) := by intro _; kernel_rfl) (hk : F.sc.names.lookup x = some .globalImplicit := by kernel_rfl) (hd : (x == ("__debug__" : Str)) = false := by kernel_rfl) : EvE F (.Name x pos) (MM.pure (.con v)) := by
 intro g W st s Q E G
 have G' := G
 obtain ⟨hcs, S, ⟨m, cs, R⟩, -⟩ := G'
 exact nameX_K R.F S.X (topRead_of S.T) (hn _) (G.ret .con) S.K (by show g.cs.names.lookup x = _; rw [hcs.eq]; exact hk) hd
theorem Ev.bltn {x : Str} {v : Value} {pos : Pos} (hn : ∀ P, nsIn (KO P) mainGlobals x = some none := by intro _; kernel_rfl) (hv : bootBuiltins x = some v := by kernel_rfl) (hnn : x ≠ "__name__" := by decide) (hk : F.sc.names.lookup x = some .globalImplicit := by kernel_rfl) (hd : (x == ("__debug__" : Str)) = false := by kernel_rfl) : EvE F (.Name x pos) (MM.pure (.con v)) := by
 intro g W st s Q E G
 have G' := G
 obtain ⟨hcs, S, ⟨m, cs, R⟩, -⟩ := G'
 exact nameX_B R.F S.X (topRead_of S.T) (hn _) hv hnn (G.ret .con) S.K (by show g.cs.names.lookup x = _; rw [hcs.eq]; exact hk) hd
theorem Ev.cnone {k : Nat} {pos : Pos} : EvE F (.Constant .none k pos) (MM.pure .none) := fun _ _ _ _ _ _ G => wpAny_Constant_none (G.ret .none)
theorem Ev.cbool {b : Bool} {k : Nat} {pos : Pos} : EvE F (.Constant (.bool b) k pos) (MM.pure (.bool b)) := fun _ _ _ _ _ _ G => wpAny_Constant_bool (G.ret .bool)
theorem Ev.cint {i : Int} {k : Nat} {pos : Pos} : EvE F (.Constant (.int i) k pos) (MM.pure (.int i)) := fun _ _ _ _ _ _ G => wpAny_Constant_int (G.tk .int)
theorem Ev.cstr {x : Str} {xs : List Nat} {k : Nat} {pos : Pos} (hx : x = S xs := by decide +kernel) : EvE F (.Constant (.str x) k pos) (MM.pure (.str xs)) := by
 subst hx
 exact fun _ _ _ _ _ _ G => wpAny_Constant_str (G.tk .str)
theorem Ev.isNot {e : PySem.Expr} {f : MM Bool} {pos : Pos} (h : EvT F e f) : EvT F (.UnaryOp .Not e pos) (f.bind fun b => MM.pure (!b)) := fun _ _ _ _ _ _ G =>
 isTrue_not (h.step G fun W1 st1 h1 tk1 b a le hb G1 => by cases hb; exact G1.ret rfl)
def tand (f : MM Bool) (g : MM Bool) : MM Bool := f.bind fun b => match b with | true => g | false => MM.pure false
def tor (f : MM Bool) (g : MM Bool) : MM Bool := f.bind fun b => match b with | true => MM.pure true | false => g
abbrev EvW (F : FS) (e : PySem.Expr) (f : MM Bool) : Prop := ∀ wh : FG → Sem Value, Ev F BB (fun g => PySem.isTrue e g.env (wh g)) f
theorem EvW.t {e : PySem.Expr} {f : MM Bool} (h : EvW F e f) : EvT F e f := h _
theorem EvW.andNil {pos : Pos} : EvW F (.BoolOp .And [] pos) (MM.pure true) := fun _ _ _ _ _ _ _ G => isTrue_and_nil (G.ret rfl)
theorem EvW.and {x : PySem.Expr} {r : List PySem.Expr} {f k : MM Bool} {pos : Pos} (h : EvT F x f) (hr : EvW F (.BoolOp .And r pos) k) : EvW F (.BoolOp .And (x :: r) pos) (tand f k) := fun wh g W st s Q E G =>
 isTrue_and (h.step G fun W1 st1 h1 tk1 b a le hb G1 => by
  cases hb
  cases b with
  | true => exact hr wh _ _ _ _ _ _ G1
  | false => exact G1.ret rfl)
theorem EvW.orNil {pos : Pos} : EvW F (.BoolOp .Or [] pos) (MM.pure false) := fun _ _ _ _ _ _ _ G => isTrue_or_nil (G.ret rfl)
theorem EvW.or {x : PySem.Expr} {r : List PySem.Expr} {f k : MM Bool} {pos : Pos} (h : EvT F x f) (hr : EvW F (.BoolOp .Or r pos) k) : EvW F (.BoolOp .Or (x :: r) pos) (tor f k) := fun wh g W st s Q E G =>
 isTrue_or (h.step G fun W1 st1 h1 tk1 b a le hb G1 => by
  cases hb
  cases b with
  | true => exact G1.ret rfl
  | false => exact hr wh _ _ _ _ _ _ G1)
theorem Ev.ifexp {t a b : PySem.Expr} {ft : MM Bool} {fa fb : MM MV} {pos : Pos} (ht : EvT F t ft) (ha : EvE F a fa) (hb : EvE F b fb) : EvE F (.IfExp t a b pos) (ft.bind fun c => match c with | true => fa | false => fb) := fun g W st s Q E G =>
 IfExp_ (ht.step G fun W1 st1 h1 tk1 b a le hb' G1 => by
  cases hb'
  cases b with
  | true => exact ha _ _ _ _ _ _ G1
  | false => exact hb _ _ _ _ _ _ G1)
end
theorem S_of (x : Str) : S x.cps.toList = x := by cases x; simp [S]
theorem VR.str_of {P : Params} {W : Wd} {x : Str} {t : Tok} : VR P W (.str x.cps.toList) (.str x t) := by
 have := VR.str (P := P) (W := W) (x := x.cps.toList) (t := t)
 rwa [S_of] at this
theorem S_inj {a b : List Nat} (h : S a = S b) : a = b := by
 have := congrArg (fun x : Str => x.cps.toList) h
 simpa [S] using this
noncomputable def inCs : List Nat → Nat → Bool
 | [], _ => false
 | a :: r, b => match Nat.beq a b with
  | true => true
  | false => inCs r b
theorem inCs_mem : ∀ {l : List Nat} {b : Nat}, inCs l b = true → b ∈ l
 | [], _, h => by exact ftE h
 | a :: r, b, h => by
  unfold inCs at h
  split at h
  ·rename_i e; rw [Nat.eq_of_beq_eq_true e]; exact .head _
  ·exact .tail _ (inCs_mem h)
noncomputable def fget : List (Nat × MV) → Nat → Option MV
 | [], _ => none
 | p :: r, c => match Nat.beq p.1 c with
  | true => some p.2
  | false => fget r c
noncomputable def fput : List (Nat × MV) → Nat → MV → List (Nat × MV)
 | [], c, v => [(c, v)]
 | p :: r, c, v => match Nat.beq p.1 c with
  | true => (p.1, v) :: r
  | false => p :: fput r c v
theorem isStr_fname {a b : Nat} (ha : a < 12) (hb : b < 12) (t : Tok) : (Value.str (fname a) t).isStr (fname b) = Nat.beq a b := by
 have := fname_ne a ha b hb
 unfold fdiff at this
 show (fname a == fname b) = _
 rw [beq_iff_eq.mp this]
 cases h : Nat.beq a b with
 | true => exact decide_eq_true (Nat.eq_of_beq_eq_true h)
 | false => exact decide_eq_false (Nat.ne_of_beq_eq_false h)
theorem EsR.keys {P : Params} {W : Wd} {fs : List (Nat × MV)} {es : List DictEntry} (r : EsR P W fs es) : es.any (·.refKey) = false :=
 EsR.rec (motive := fun _ es _ => es.any (·.refKey) = false) rfl (fun _ _ _ r => by rw [List.any_cons, r]; rfl) r
theorem getL_cons {P : Params} {name : Str} {e : DictEntry} {es : List DictEntry} (hk : es.any (·.refKey) = false) (he : e.refKey = false) : getL name (e :: es) = if e.key.isStr name then some (some e.val) else getL name es := by
 unfold getL
 rw [List.find?_cons]
 cases h : e.key.isStr name with
 | true => rfl
 | false =>
  simp only [List.any_cons, he, hk, Bool.false_or, if_false, Bool.false_eq_true]
theorem EsR.get {P : Params} {W : Wd} {c : Nat} (hc : c < 12) : ∀ {fs : List (Nat × MV)} {es : List DictEntry}, EsR P W fs es → (∀ v, fget fs c = some v → ∃ V, getL (fname c) es = some (some V) ∧ VR P W v V) ∧ (fget fs c = none → getL (fname c) es = some none) := fun r => by
 induction r with
 | nil => exact ⟨fun v h => (by exact nsE h), fun _ => rfl⟩
 | @cons d u U t _ es₀ hd hv r ih =>
  have e := getL_cons (P := P) (name := fname c) (e := ⟨PyData.keyHash P (fname d), .str (fname d) t, U⟩) r.keys rfl
  dsimp only at e
  rw [isStr_fname hd hc] at e
  unfold fget
  dsimp only
  cases h : Nat.beq d c with
  | true =>
   rw [h, if_pos rfl] at e
   exact ⟨fun v h' => (by obtain rfl := Option.some.inj h'; exact ⟨U, e, hv⟩), fun h' => (by exact nsE h'.symm)⟩
  | false =>
   rw [h, if_neg Bool.false_ne_true] at e
   rw [e]
   exact ih
noncomputable def handM : MV → Bool
 | .con v => handedIn v
 | .junk => false
 | _ => true
theorem TAt.isRef {P : Params} {R : List (Addr × Obj)} : ∀ {v : Value} {t : Tr}, TAt P R v t → ∃ a, v = .ref a
 | _, _, .tok .. => ⟨_, rfl⟩
 | _, _, .br .. => ⟨_, rfl⟩
set_option tactic.hygienic true in
theorem handM_of {P : Params} {W : Wd} {v : MV} {V : Value} (r : VR P W v V) (h : handM v = true) : handedIn V = true := by
 cases r <;> first | rfl | exact h | cases h | skip
 rename_i t ht
 obtain ⟨a, rfl⟩ := ht.isRef
 rfl
noncomputable def attrOk (K : Frag) (name : Str) (C : Nat) : Bool := plainGet K C name && hasDictIn K C && match findIn K (.ref C) name with
 | some a => noGet K a
 | none => false
set_option tactic.hygienic true in
theorem attrOk_of {K : Frag} {name : Str} {C : Nat} (h : attrOk K name C = true) : plainGet K C name = true ∧ hasDictIn K C = true ∧ ∃ a, findIn K (.ref C) name = some a ∧ noGet K a = true := by
 unfold attrOk at h
 rw [Bool.and_eq_true, Bool.and_eq_true] at h
 refine ⟨h.1.1, h.1.2, ?_⟩
 have := h.2
 split at this
 ·rename_i a e; exact ⟨a, e, this⟩
 ·exact ftE this
noncomputable def tokGet (sort text : Str) (v : Option Int) (r c : Int) : Nat → Option MV
 | 2 => some (.int r)
 | 3 => some (.int c)
 | 4 => some (.str sort.cps.toList)
 | 5 => some (.str text.cps.toList)
 | 6 => match v with
  | some n => some (.int n)
  | none => none
 | _ => none
noncomputable def brGet (its : List Tr) (r c : Int) : Nat → Option MV
 | 0 => some (.trees its)
 | 2 => some (.int r)
 | 3 => some (.int c)
 | _ => none
def trGet : Tr → Nat → Option MV
 | .tok sort text v r c, k => tokGet sort text v r c k
 | .br its r c, k => brGet its r c k
noncomputable def trCls : Tr → Nat
 | .tok .. => 116
 | .br .. => 144
def attrM (Cs : List Nat) (c : Nat) (v : MV) : MM MV := match v with
 | .obj i => fun st => match st.μ[i]? with
  | some (.inst C fs) => match inCs Cs C with
   | true => match fget fs c with
    | some v => match handM v with
     | true => some (.val v, st)
     | false => none
    | none => none
   | false => none
  | _ => none
 | .tree t => match inCs Cs (trCls t) with
  | true => match trGet t c with
   | some v => MM.pure v
   | none => MM.fail
  | false => MM.fail
 | _ => MM.fail
theorem TAt.attr {w : World} {W : Wd} {h₀ h : Heap} {L : Addr} {cs : List (Addr × Obj)} (N : News h₀ L h (cs ++ W.all)) {c : Nat} {t : Tr} {V : Value} {v : MV} (ht : TAt w.params W.R V t) (hv : trGet t c = some v) : ∃ x ox es n U, V = .ref x ∧ InstAt h x ox (trCls t) (some (dictOf es n)) ∧ getL (fname c) es = some (some U) ∧ VR w.params W v U ∧ handedIn U = true := by
 have N' : ∀ p ∈ W.R, p ∈ cs ++ W.all := fun p hp => List.mem_append_right _ (W.mem hp)
 cases ht with
 | tok a b d =>
  have I := InstAt.of_news N (N' _ a) (N' _ b)
  replace hv : tokGet _ _ _ _ _ c = some v := hv
  unfold tokGet at hv
  split at hv <;> first | (cases hv; done) | skip
  ·obtain rfl := Option.some.inj hv; exact ⟨_, _, _, _, _, rfl, I, rfl, .int, rfl⟩
  ·obtain rfl := Option.some.inj hv; exact ⟨_, _, _, _, _, rfl, I, rfl, .int, rfl⟩
  ·obtain rfl := Option.some.inj hv; exact ⟨_, _, _, _, _, rfl, I, rfl, VR.str_of, rfl⟩
  ·obtain rfl := Option.some.inj hv; exact ⟨_, _, _, _, _, rfl, I, rfl, VR.str_of, rfl⟩
  ·refine se2 hv fun _ qs0 hv => ?_; subst qs0
   ·obtain rfl := Option.some.inj hv
    obtain ⟨t, rfl⟩ := d
    exact ⟨_, _, _, _, _, rfl, I, rfl, .int, rfl⟩
 | br a b d z e =>
  have I := InstAt.of_news N (N' _ a) (N' _ b)
  replace hv : brGet _ _ _ c = some v := hv
  unfold brGet at hv
  split at hv <;> first | (cases hv; done) | skip
  ·obtain rfl := Option.some.inj hv; exact ⟨_, _, _, _, _, rfl, I, rfl, .trees d z e, rfl⟩
  ·obtain rfl := Option.some.inj hv; exact ⟨_, _, _, _, _, rfl, I, rfl, .int, rfl⟩
  ·obtain rfl := Option.some.inj hv; exact ⟨_, _, _, _, _, rfl, I, rfl, .int, rfl⟩
theorem Stat.X' {g : FG} {D : Nat} (S : Stat g D) {h : Heap} {m : Str → Option Value} (Fh : Fr g.h₀ g.L h m) : (KO g.w.params).In h := S.X.keeps Fh.keep
section
variable {F : FS} {g : FG} {W : Wd} {st : St} {s : Shared} {Q : Value → Shared → Prop} {E : Value → Shared → Prop}
theorem Rel.inst {ns : List Str} {h : Heap} {m : Str → Option Value} {cs : List (Addr × Obj)} {i : Nat} {C : Nat} {fs : List (Nat × MV)} {a : Addr} (R : Rel g ns W st h m cs) (ha : W.ρ[i]? = some a) (hi : st.μ[i]? = some (.inst C fs)) :
  ∃ dx es pre post, cs = pre ++ (a, instObj C dx) :: (dx, dictOf es es.length) :: post ∧ EsR g.w.params W fs es ∧ ∀ fs' es', EsR g.w.params W fs' es' → CellsR g.w W (st.μ.set i (.inst C fs')) W.ρ (pre ++ (a, instObj C dx) :: (dx, dictOf es' es'.length) :: post) := by
 refine ee44 (R.cells.split hi) fun x es pre post h1 h2 h3 h4 => ?_
 rw [ha] at h1; obtain rfl := Option.some.inj h1
 refine ee22 h2.iInst fun _ _ qe2 he => ?_; subst qe2
 exact ⟨_, _, pre, post, h3, he, fun fs' es' h' => h4 _ _ (.inst h')⟩
set_option tactic.hygienic true in
theorem op_attr {Cs : List Nat} {c : Nat} {name : Str} {v : MV} {V : Value} (hn : fname c = name) (hc : c < 12) (hok : ∀ P, (Cs.all fun C => attrOk (KO P) name C) = true) (ra : VR g.w.params W v V) (G : Go F VV g W st s (attrM Cs c v) Q E) :
  wpAny (model pw_nm0149_01 g.w) g.A (getAttr V name true) Q E s := by
 subst hn
 refine G.RE fun m cs R => ?_
 have S := G.S
 have ok : ∀ C, inCs Cs C = true → attrOk (KO g.w.params) (fname c) C = true := fun C h => List.all_eq_true.mp (hok g.w.params) C (inCs_mem h)
 unfold attrM at G
 split at G
 ·rename_i i
  apply ra.eObj; intro _ ha
  refine G.oE fun o st' e _ => ?_
  refine se4 e fun C fs hi e => ?_
  refine se3 e fun hC e => ?_
  refine se8 e fun v hv e => ?_
  refine se3 e fun hh e => ?_
  clear e
  refine ee43 (R.inst ha hi) fun dx es pre post qe4 he _ => ?_; subst qe4
  obtain ⟨a1, a2, x, a3, a4⟩ := attrOk_of (ok C hC)
  refine ee12 ((he.get hc).1 v hv) fun U hU rU => ?_
  refine get_own R.F S.X (InstAt.of_news R.N (List.mem_append_left _ (List.mem_append_right _ (.head _))) (List.mem_append_left _ (List.mem_append_right _ (.tail _ (.head _))))) a1 a2 a3 a4 hU (handM_of rU hh) ?_
  refine G.out (st2 := st) (b := v) ?_ .rfl' R rU
  simp only [hi, hC, hv, hh]
 ·rename_i t
  have ht := ra.iTree
  refine sg7 G fun hC G => ?_
  refine sg6 G fun v hv G => ?_
  refine ee55 (ht.attr R.N hv) fun x ox es n U qe5 I hU rU hh => ?_; subst qe5
  obtain ⟨a1, a2, y, a3, a4⟩ := attrOk_of (ok _ hC)
  exact get_own R.F S.X I a1 a2 a3 a4 hU hh (G.tk rU)
 ·exact G.none.elim
theorem Ev.attr {e : PySem.Expr} {f : MM MV} {Cs : List Nat} {c : Nat} {name : Str} {pos : Pos} (he : EvE F e f) (hn : fname c = name := by kernel_rfl) (hc : c < 12 := by decide) (hok : ∀ P, (Cs.all fun C => attrOk (KO P) name C) = true := by intro _; kernel_rfl)
  (hs : ∀ env, eval (.Attribute e name pos) env = (do
   let o ← eval e env
   standAt pos.atName
   let r ← holding [o] (getAttr o name true)
   letTemporaryGo e o r
   pure r) := by intro _; with_unfolding_all rfl) : EvE F (.Attribute e name pos) (f.bind (attrM Cs c)) := fun g W st s Q E G =>
 Attribute_any_ (he.step G fun W1 st1 h1 tk1 b a le hb G1 => op_attr hn hc hok hb G1) (hs _)
theorem EsR.put {P : Params} {c : Nat} {v : MV} {V : Value} {t : Tok} (hc : c < 12) (hv : VR P W v V) : ∀ {fs : List (Nat × MV)} {es : List DictEntry}, EsR P W fs es →
  EsR P W (fput fs c v) (putL (fname c) (PyData.keyHash P (fname c)) (.str (fname c) t) V es) ∧ putN (fname c) es es.length = (putL (fname c) (PyData.keyHash P (fname c)) (.str (fname c) t) V es).length
 | _, _, .nil => ⟨.cons hc hv .nil, rfl⟩
 | _, _, .cons (c := d) (v := u) (V := U) (t := t') (es := es₀) hd hu r => by
  have ih := EsR.put hc hv (t := t) r
  unfold fput putL
  dsimp only
  rw [isStr_fname hd hc]
  cases h : Nat.beq d c with
  | true =>
   simp only [if_true]
   refine ⟨.cons hd hv r, ?_⟩
   unfold putN
   rw [List.any_cons]
   dsimp only
   rw [isStr_fname hd hc, h]
   rfl
  | false =>
   simp only [if_false, Bool.false_eq_true]
   refine ⟨.cons hd hu ih.1, ?_⟩
   rw [List.length_cons, List.length_cons, ← ih.2]
   unfold putN
   rw [List.any_cons]
   dsimp only
   rw [isStr_fname hd hc, h, Bool.false_or]
   split <;> rfl
theorem upd_at {d : Addr} {o o' : Obj} : ∀ {pre post : List (Addr × Obj)}, ((pre ++ (d, o) :: post).map (·.1)).Nodup → Upd d o o' (pre ++ (d, o) :: post) (pre ++ (d, o') :: post)
 | [], post, h => .head fun p hp e => (List.nodup_cons.mp h).1 (by rw [← e]; exact List.mem_map_of_mem (f := (·.1)) hp)
 | p :: pre, post, h => .tail (fun e => (List.nodup_cons.mp h).1 (by
   show p.1 ∈ List.map (·.1) (pre ++ (d, o) :: post)
   rw [e, List.map_append, List.map_cons]
   exact List.mem_append_right _ (.head _))) (upd_at (List.nodup_cons.mp h).2)
noncomputable def setOk (K : Frag) (name : Str) (C : Nat) : Bool := findIn K (.ref C) "__setattr__" == some (some (.builtin "object.__setattr__")) && plainOver K C && takerIn K C name == some none && hasDictIn K C
theorem setOk_of {K : Frag} {name : Str} {C : Nat} (h : setOk K name C = true) : findIn K (.ref C) "__setattr__" = some (some (.builtin "object.__setattr__")) ∧ plainOver K C = true ∧ takerIn K C name = some none ∧ hasDictIn K C = true := by
 unfold setOk at h
 rw [Bool.and_eq_true, Bool.and_eq_true, Bool.and_eq_true] at h
 exact ⟨beq_iff_eq.mp h.1.1.1, h.1.1.2, beq_iff_eq.mp h.1.2, h.2⟩
def setM (Cs : List Nat) (c : Nat) (v o : MV) : MM Unit := match o with
 | .obj i => fun st => match st.μ[i]? with
  | some (.inst C fs) => match inCs Cs C && Nat.ble fs.length 100 with
   | true => some (.val (), ⟨st.m, st.μ.set i (.inst C (fput fs c v))⟩)
   | false => none
  | _ => none
 | _ => MM.fail
theorem fput_len : ∀ (fs : List (Nat × MV)) (c : Nat) (v : MV), (fput fs c v).length ≤ fs.length + 1
 | [], _, _ => Nat.le_refl _
 | p :: r, c, v => by
  unfold fput
  split
  ·exact Nat.le_succ _
  ·exact Nat.succ_le_succ (fput_len r c v)
theorem EsR.length {P : Params} : ∀ {fs : List (Nat × MV)} {es : List DictEntry}, EsR P W fs es → fs.length = es.length
 | _, _, .nil => rfl
 | _, _, .cons _ _ r => congrArg (· + 1) r.length
theorem op_set {Qu : Unit → Shared → Prop} {Cs : List Nat} {c : Nat} {name : Str} {v o : MV} {V O : Value} (hn : fname c = name) (hc : c < 12) (hok : ∀ P, (Cs.all fun C => setOk (KO P) name C) = true) (rv : VR g.w.params W v V) (ro : VR g.w.params W o O) (G : Go F UU g W st s (setM Cs c v o) Qu E) :
  wpAny (model pw_nm0149_01 g.w) g.A (setAttr O name V) Qu E s := by
 subst hn
 refine G.RE fun m cs R => ?_
 have S := G.S
 unfold setM at G
 refine sg5 G fun i qs0 G => ?_; subst qs0
 apply ro.eObj; intro a ha
 refine G.oE fun ou st' e _ => ?_
 refine se4 e fun C fs hi e => ?_
 refine se3 e fun hC e => ?_
 clear e
 obtain ⟨hC1, hC2⟩ := Bool.and_eq_true_iff.mp hC
 refine ee43 (R.inst ha hi) fun dx es pre post qe4 he hset => ?_; subst qe4
 refine ee04 (setOk_of (List.all_eq_true.mp (hok g.w.params) C (inCs_mem hC1))) fun a1 a2 a3 a4 => ?_
 obtain ⟨E1, E2⟩ := he.put (t := s.toks + 1) hc rv
 have hl : (getL (fname c) es).isSome = true := by
  cases h : fget fs c with
  | none => rw [(he.get hc).2 h]; rfl
  | some u => refine ee12 ((he.get hc).1 u h) fun U hU _ => ?_; rw [hU]; rfl
 have sh : ∀ o, (pre ++ (a, instObj C dx) :: (dx, o) :: post) ++ W.all = (pre ++ [(a, instObj C dx)]) ++ (dx, o) :: (post ++ W.all) := fun o => by simp only [List.append_assoc, List.cons_append, List.nil_append]
 have nd := R.nd
 rw [sh] at nd
 have U := upd_at (o' := dictOf (putL (fname c) (PyData.keyHash g.w.params (fname c)) (.str (fname c) (s.toks + 1)) V es) (putL (fname c) (PyData.keyHash g.w.params (fname c)) (.str (fname c) (s.toks + 1)) V es).length) nd
 rw [← sh, ← sh] at U
 refine set_dict R.F S.X R.N (InstAt.of_news R.N (List.mem_append_left _ (List.mem_append_right _ (.head _))) (List.mem_append_left _ (List.mem_append_right _ (.tail _ (.head _))))) rfl a1 a2 a3 a4 hl (congrArg (Prod.mk _) E2) U ?_ fun h' F' N' => ?_
 ·rw [← E1.length]
  have := fput_len fs c v
  have := Nat.le_of_ble_eq_true hC2
  omega
 ·refine G.out (st2 := ⟨st.m, st.μ.set i (.inst C (fput fs c v))⟩) (b := ()) ?_ .rfl' ⟨F', N', ?_, R.loc, hset _ _ E1, R.sc⟩ trivial
  ·simp only [hi, hC]
  ·rw [sh]
   rw [List.map_append, List.map_cons] at nd ⊢
   exact nd
theorem Ev.assignAttr {e o : PySem.Expr} {fv fo : MM MV} {Cs : List Nat} {c : Nat} {name : Str} {pos' pos : Pos} (hv : EvE F e fv) (ho : EvE F o fo) (hn : fname c = name := by kernel_rfl) (hc : c < 12 := by decide) (hok : ∀ P, (Cs.all fun C => setOk (KO P) name C) = true := by intro _; kernel_rfl)
  (hs : ∀ env, swapsWith e (some (.Attribute o name pos')) pos.line env = pure false := by intro _; rfl) : EvS F (.Assign [.Attribute o name pos'] e pos) (fv.bind fun v => fo.bind fun o => (setM Cs c v o).bind fun _ => MM.pure .next) := fun g W st s Q E G =>
 plainObj_wpAny_Assign_Attribute (hv.step G fun W1 st1 h1 tk1 v V le rv G1 => ho.step G1 fun W2 st2 h2 tk2 o O le2 ro G2 =>
  G2.then (RR := UU) (op_set hn hc hok (rv.mono le2) ro) fun W3 st3 h3 tk3 _ _ le3 _ G3 => G3.ret .next) (hs _)
end
inductive FlyE (g : FG) (ns : List Str) (W : Wd) (st : St) (e : Addr) (why : List Nat) (row col : Int) (m : Str → Option Value) (h : Heap) : Prop
 | mk (cs : List (Addr × Obj)) (G : Heap) (t de : Addr) (ta tb tc twy trw tcl : Tok) : FlyR g ns W st e why row col m h cs G → RB g.base G (g.env :: g.outer) 58 e de t [.str (S why) twy] ((de, badD g.w.params ta tb tc (S why) twy row trw col tcl) :: (cs ++ W.all)) h → FlyE g ns W st e why row col m h
theorem FlyE.rel {g : FG} {ns : List Str} {W : Wd} {st : St} {e : Addr} {why : List Nat} {row col : Int} {m : Str → Option Value} {h : Heap} : FlyE g ns W st e why row col m h → ERel g ns W st e why row col m h := fun h => FlyE.casesOn h fun _ _ _ _ _ _ _ _ _ _ a b => .fly a b
def PostR (g : FG) (ns : List Str) (W : Wd) (s : Shared) (R : Result → Shared → Prop) (mr : Str → Option Value) (st : St) : Out MV → Prop
 | .val b => ∀ W' h' tk' cs' V, W.Le W' → Rel g ns W' st h' mr cs' → VR g.w.params W' b V → R (.ok (.ret V)) (Sh s h' tk')
 | .bad why r c => ∀ W' h' tk' e, W.Le W' → FlyE g ns W' st e why r c mr h' → R (.error (.ref e)) (Sh s h' tk')
theorem PostR.eqs {g : FG} {ns : List Str} {W : Wd} {s : Shared} {R : Result → Shared → Prop} {mr : Str → Option Value} {m : List (Option MV)} {μ μ1 : List MO} {o o1 : Out MV} (h : PostR g ns W s R mr ⟨m, μ⟩ o) (e : some (o1, μ1) = some (o, μ)) : PostR g ns W s R mr ⟨m, μ1⟩ o1 := by
 obtain ⟨rfl, rfl⟩ := spE e; exact h
noncomputable abbrev FF := List MV → List MO → Option (Out MV × List MO)
def FnR (addr D : Nat) (f : FF) : Prop :=
 ∀ ns g W m μ s vs Vs R o μ' mr cs, Stat g D → Rel g ns W ⟨m, μ⟩ s.heap mr cs → VRs g.w.params W vs Vs → f vs μ = some (o, μ') → PostR g ns W s R mr ⟨m, μ'⟩ o → codeAny (model pw_nm0149_01 g.w) g.A (.call (.ref addr) ⟨Vs, []⟩) R s
def fnOut (n : Nat) (init : List MV → List (Option MV)) (fb : MM MF) : FF := fun vs μ => match Nat.beq vs.length n with
 | true => match fb ⟨init vs, μ⟩ with
  | some (.val (.ret v), st) => some (.val v, st.μ)
  | some (.val .next, st) => some (.val .none, st.μ)
  | some (.val _, _) => none
  | some (.bad w r c, st) => some (.bad w r c, st.μ)
  | none => none
 | false => none
theorem Stat.le {g : FG} {D D' : Nat} (S : Stat g D) (h : D' ≤ D) : Stat g D' := ⟨S.B, S.X, S.T, S.K, S.fr, S.hd, by have := S.d; omega, by have := S.u; omega⟩
def BindOk (fd : FuncData) (n : Nat) (ns : List Str) (init : List MV → List (Option MV)) : Prop :=
 ∀ (w : World) (s : Shared) (W : Wd) (vs : List MV) (Vs : List Value), (KO w.params).In s.heap → VRs w.params W vs Vs → vs.length = n → ∃ binds, BindsTo s fd ⟨Vs, []⟩ binds ∧ (∀ y ∈ binds, fd.scope.names.lookup y.1 = some .local) ∧ LocR w.params W [] ns (init vs) (fun y => binds.reverse.lookup y)
noncomputable abbrev FG.call (g : FG) (gh : Heap) (L' : Addr) (scope : Scope) (A' : Around) (qual : Str) (addr : Addr) (cdv : Value) (cl : List (Str × Addr)) : FG := ⟨g.w, g.mean, g.mg, g.mb, g.A, g.base, g.env :: g.outer, gh, L', scope, A', qual, addr, cdv, cl⟩
set_option tactic.hygienic true in
theorem FnR.mk {addr D n : Nat} {name qual : Str} {params : Arguments} {body : List Stmt} {scope : Scope} {dV kV doc pm cdv ct oc : Value} {od : Option Addr} {osl : Array (Option Value)} {an : Option Addr} {ns : List Str} {init : List MV → List (Option MV)} {fb : MM MF}
  (ho : ∀ P, (KO P).lookup addr = some ⟨oc, od, .func (fnOf name qual params body scope dV kV doc pm an cdv ct), osl⟩) (hcd : ∀ P, codeIn (KO P) cdv qual = true)
  (hbind : BindOk (fnOf name qual params body scope dV kV doc pm an cdv ct) n ns init) (hb : EvB ⟨scope, ns, D, true⟩ body fb)
  (hco : scope.isCoroutine = false := by rfl) (hgen : scope.isGenerator = false := by rfl) (hk : scope.kind = .function := by rfl) (hcell : ∀ x ∈ scope.names, x.2 ≠ .cell := by decide) : FnR addr (D + 1) (fnOut n init fb) := by
 intro ns0 g W m μ s vs Vs R o μ' mr cs S hR hvs hf hP
 unfold fnOut at hf
 refine se3 hf fun hn hf => ?_
 refine ee13 (hbind g.w s W vs Vs (S.X' hR.F) hvs (Nat.eq_of_beq_eq_true hn)) fun binds b1 b2 b3 => ?_
 refine code_def (env := g.env) S.B hR.F S.X hR.N S.T S.fr rfl S.K (ho _) (hcd _) (by have := S.d; omega) b1 b2 (fun gh L' h₁ FG F' N' B' X' T' => ?_) hco hgen hk hcell
 have sc' : ScOk gh W := hR.sc.keep FG.keep
 refine hb (g.call gh L' scope (g.A.deeper (envOf qual scope L' addr cdv)) qual addr cdv []) W ⟨init vs, μ⟩ _ _ _ ⟨⟨rfl, fun _ _ => rfl, fun x q => absurd q (noCell hcell x), fun _ => PassesOwn.leaving⟩, ⟨B', X', T', hk, ?_, S.hd, ?_, ?_⟩, ⟨_, cs, ⟨F', N', hR.nd, b3, hR.cells, sc'⟩⟩, ?_⟩
 ·show Option.map _ g.A.frames = _
  rw [S.fr]; rfl
 ·have := S.d
  show g.A.depth + 1 + D < recursionLimit
  omega
 ·have := S.u
  show g.A.units + 3 + 40 * D < cLine
  omega
 ·have back : ∀ {W' : Wd} {h' : Heap} {tk' : Nat} {m' : Str → Option Value} {cs' : List (Addr × Obj)} {st' : St}, W.Le W' → Rel (g.call gh L' scope (g.A.deeper (envOf qual scope L' addr cdv)) qual addr cdv []) ns W' st' h' m' cs' →
    ∀ {V : Value}, (∀ cs, Rel g ns0 W' ⟨m, st'.μ⟩ h' mr cs → R (.ok (.ret V)) (Sh s h' tk')) → LeaveK g.h₀ g.L mr gh R V (Sh s h' tk') := by
   intro W' h' tk' m' cs' st' le R' V k
   exact leaveK_ R'.F R'.N fun F2 N2 => k cs' ⟨F2, N2, R'.nd, hR.loc.mono le, R'.cells, hR.sc.le le⟩
  split at hf
  ·rename_i v st' e
   have hP := hP.eqs hf
   exact ⟨_, _, e, fun W' h' tk' m' cs' a le R' ha => by
    cases ha with
    | ret hv => exact back le R' fun cs R2 => hP W' h' tk' cs _ le R2 hv⟩
  ·rename_i st' e
   have hP := hP.eqs hf
   exact ⟨_, _, e, fun W' h' tk' m' cs' a le R' ha => by
    cases ha with
    | next => exact back le R' fun cs R2 => hP W' h' tk' cs _ le R2 .none⟩
  ·exact nsE hf
  ·rename_i w r c st' e
   have hP := hP.eqs hf
   refine ⟨_, _, e, fun W' h' tk' m' e1 le hE => ?_⟩
   cases hE with
   | new R' N2 hne =>
    exact leave_bad1 (s' := Sh s h' tk') (A := g.A) (a := addr) (cd := cdv) B' R'.F N2 hne (fun h2 R2 U2 => hP W' h2 tk' e1 le ⟨_, _, _, _, _, _, _, _, _, _, ⟨FG, hR.loc.mono le, R'.nd, R'.cells, hR.sc.le le, U2⟩, R2⟩) hk
   | fly Y R2 =>
    exact leave_bad2 (s' := Sh s h' tk') (A := g.A) (a := addr) (cd := cdv) B' Y.F R2 Y.U (fun h3 R3 U3 => hP W' h3 tk' e1 le ⟨_, _, _, _, _, _, _, _, _, _, ⟨FG, hR.loc.mono le, Y.nd, Y.cells, hR.sc.le le, U3⟩, R3⟩)
   | held Y R2 =>
    exact leave_bad3 (s' := Sh s h' tk') (A := g.A) (a := addr) (cd := cdv) B' Y.F R2 Y.U (fun h3 R3 U3 => hP W' h3 tk' e1 le ⟨_, _, _, _, _, _, _, _, _, _, ⟨FG, hR.loc.mono le, Y.nd, Y.cells, hR.sc.le le, U3⟩, R3⟩)
  ·exact nsE hf
section
variable {F : FS}
theorem EvB.nil : EvB F [] (MM.pure .next) := fun _ _ _ _ _ _ G => wpAny_execs_nil (G.ret .next)
def seqM (f k : MM MF) : MM MF := f.bind fun r => match r with
 | .next => k
 | r => MM.pure r
theorem EvB.cons {t : Stmt} {r : List Stmt} {f k : MM MF} (h : EvS F t f) (hr : EvB F r k) : EvB F (t :: r) (seqM f k) := fun g W st s Q E G =>
 wpAny_execs_cons (h.step G fun W1 st1 h1 tk1 b a le hb G1 => by
  cases hb with
  | next => exact hr _ _ _ _ _ _ G1
  | ret hv => exact G1.ret (.ret hv)
  | brk => exact G1.ret .brk
  | cont => exact G1.ret .cont)
theorem EvS.if {t : PySem.Expr} {a b : List Stmt} {ft : MM Bool} {fa fb : MM MF} {pos : Pos} (ht : EvT F t ft) (ha : EvB F a fa) (hb : EvB F b fb) : EvS F (.If t a b pos) (ft.bind fun c => match c with | true => fa | false => fb) := fun g W st s Q E G =>
 wpAny_If (ht.step G fun W1 st1 h1 tk1 b a le hb' G1 => by
  cases hb'
  cases b with
  | true => exact ha _ _ _ _ _ _ G1
  | false => exact hb _ _ _ _ _ _ G1)
def putM (i : Nat) (v : MV) : MM Unit := fun st => some (.val (), ⟨st.m.set i (some v), st.μ⟩)
noncomputable def nsOk (ns : List Str) (i : Nat) (x : Str) : Bool := ns[i]? == some x && (ns.zipIdx.all fun p => p.1 != x || p.2 == i)
theorem nsOk_of {ns : List Str} {i : Nat} {x : Str} (h : nsOk ns i x = true) : ns[i]? = some x ∧ ∀ j, ns[j]? = some x → j = i := by
 unfold nsOk at h
 rw [Bool.and_eq_true, List.all_eq_true] at h
 refine ⟨beq_iff_eq.mp h.1, fun j hj => ?_⟩
 have := h.2 (x, j) (List.mem_zipIdx_iff_getElem?.mpr hj)
 simpa using this
theorem op_store {g : FG} {W : Wd} {st : St} {s : Shared} {Q : Unit → Shared → Prop} {E : Value → Shared → Prop} {i : Nat} {x : Str} {v : MV} {V : Value} (hn : nsOk F.ns i x = true) (hk : F.sc.names.lookup x = some .local) (hv : VR g.w.params W v V) (G : Go F UU g W st s (putM i v) Q E) :
  wpAny (model pw_nm0149_01 g.w) g.A (storeName g.env x V) Q E s := by
 refine G.RE fun m cs R => ?_
 obtain ⟨n1, n2⟩ := nsOk_of hn
 refine storeX_L R.F R.N (fun h' F' N' => G.out (st2 := ⟨st.m.set i (some v), st.μ⟩) (b := ()) rfl .rfl' ⟨F', N', R.nd, fun j y u hj hu => ?_, R.cells, R.sc⟩ trivial) G.S.K (by show g.cs.names.lookup x = _; rw [G.cs.eq]; exact hk)
 by_cases hy : y = x
 ·subst hy
  cases n2 j hj
  rw [List.getElem?_set_self' ] at hu
  cases h : st.m[i]? with
  | none => rw [h] at hu; exact nsE hu
  | some o =>
   rw [h] at hu
   obtain rfl := Option.some.inj (Option.some.inj hu)
   exact ⟨V, .inl ⟨G.cs.lc _ hk, if_pos rfl⟩, hv⟩
 ·have hij : i ≠ j := fun e => hy (by rw [← e, n1] at hj; obtain rfl := Option.some.inj hj; rfl)
  rw [List.getElem?_set_ne hij] at hu
  refine ee12 (R.loc j y u hj hu) fun U a b => ?_
  exact ⟨U, a.imp (fun z => ⟨z.1, (if_neg hy).trans z.2⟩) id, b⟩
theorem EvS.assign {x : Str} {i : Nat} {e : PySem.Expr} {f : MM MV} {pos' pos : Pos} (he : EvE F e f) (hn : nsOk F.ns i x = true := by kernel_rfl) (hk : F.sc.names.lookup x = some .local := by kernel_rfl)
  (hs : ∀ env, swapsWith e (some (.Name x pos')) pos.line env = pure false := by intro _; rfl) : EvS F (.Assign [.Name x pos'] e pos) (f.bind fun v => (putM i v).bind fun _ => MM.pure .next) := fun g W st s Q E G =>
 wpAny_Assign_Name (he.step G fun W1 st1 h1 tk1 v V le rv G1 => G1.then (RR := UU) (op_store hn hk rv) fun W3 st3 h3 tk3 _ _ le3 _ G3 => G3.ret .next) (hs _)
theorem EvS.ret {e : PySem.Expr} {f : MM MV} {pos : Pos} (he : EvE F e f) : EvS F (.Return (some e) pos) (f.bind fun v => MM.pure (.ret v)) := fun g W st s Q E G =>
 wpAny_Return_some (he.step G fun W1 st1 h1 tk1 v V le rv G1 => G1.ret (.ret rv))
theorem EvS.expr {e : PySem.Expr} {f : MM MV} {pos : Pos} (he : EvE F e f) (hi : ∀ g : FG, g.cs = F.sc → interactive g.env = false := by intro g hg; obtain ⟨⟩ := g; subst hg; rfl) (hs : ∀ env, swapsWith e none pos.line env = pure false := by intro _; rfl) : EvS F (.Expr e pos) (f.bind fun _ => MM.pure .next) := fun g W st s Q E G =>
 wpAny_Expr_any (he.step G fun W1 st1 h1 tk1 v V le rv G1 => G1.ret .next) (hi g G.cs.eq) (hs _)
abbrev EvA (F : FS) (es : List PySem.Expr) (f : MM (List MV)) : Prop := ∀ pos, Ev F (fun P W => VRs P W) (fun g => spliced (backTo pos (starEach es g.env))) f
theorem EvA.nil : EvA F [] (MM.pure []) := fun _ _ _ _ _ _ _ G => args_nil (G.ret .nil)
theorem EvA.cons {e : PySem.Expr} {r : List PySem.Expr} {f : MM MV} {k : MM (List MV)} (he : EvE F e f) (hr : EvA F r k) (hs : ∀ env, starEach (e :: r) env = (false, eval e env) :: starEach r env := by intro _; rfl) : EvA F (e :: r) (f.bind fun v => k.bind fun vs => MM.pure (v :: vs)) := fun pos g W st s Q E G =>
 args_cons (he.step G fun W1 st1 h1 tk1 v V le rv G1 => (hr pos).step G1 fun W2 st2 h2 tk2 vs Vs le2 rvs G2 => G2.ret (.cons (rv.mono le2) rvs)) (hs _)
def callM (f : FF) (vs : List MV) : MM MV := fun st => match f vs st.μ with
 | some (o, μ') => some (o, ⟨st.m, μ'⟩)
 | none => none
set_option tactic.hygienic true in
theorem op_call {addr D : Nat} {f : FF} {g : FG} {W : Wd} {st : St} {s : Shared} {Q : Value → Shared → Prop} {E : Value → Shared → Prop} {vs : List MV} {Vs : List Value} (hf : FnR addr D f) (hD : D ≤ F.D) (hvs : VRs g.w.params W vs Vs) (G : Go F VV g W st s (callM f vs) Q E) :
  wpAny (model pw_nm0149_01 g.w) g.A (call (.ref addr) Vs) Q E s := by
 refine G.oG fun hcs S mr cs hR o st' e hP => ?_
 unfold callM at e
 split at e
 ·rename_i o' μ' e'
  cases e
  refine wpAny_call (hf F.ns g W st.m st.μ s vs Vs _ o μ' mr cs (S.le hD) hR hvs e' ?_)
  cases o with
  | val b => exact fun W' h' tk' cs' V le R r => hP W' h' tk' mr cs' V le R r
  | bad w r c => exact fun W' h' tk' e le R => hP W' h' tk' mr e le R.rel
 ·exact nsE e
theorem evalArgs_any {M : Model} {A : Around} {E : Value → Shared → Prop} {s : Shared} {f : Value} {l : List (Bool × Sem Value)} {Q : Args → Shared → Prop} (hl : l.any (·.1) = false) (h : wpAny M A (spliced l) (fun vs s' => Q ⟨vs, []⟩ s') E s) : wpAny M A (evalArgs f true l []) Q E s := by
 cases l with
 | nil =>
  unfold evalArgs
  show wpAny M A (spliced [] >>= _) Q E s
  refine wpAny_bind (wpAny_mono h (fun vs s' h' => ?_) fun _ _ x => x)
  refine wpAny_holding ?_
  exact wpAny_bind (wpAny_pure (wpAny_bind (wpAny_pure (wpAny_pure h'))))
 | cons p r =>
  obtain ⟨b, x⟩ := p
  cases b with
  | true => exact ftE hl.symm
  | false => exact evalArgs_plain h
theorem op_callWith {addr : Nat} {g : FG} {W : Wd} {st : St} {s : Shared} {Q : Value → Shared → Prop} {E : Value → Shared → Prop} {fst : List MV} {Fst : List Value} {es : List PySem.Expr} {fa : MM (List MV)} {k : List MV → MM MV} {pos : Pos} (hk : keepIn (KO g.w.params) (.ref addr) = true) (ha : EvA F es fa) (h1 : VRs g.w.params W fst Fst)
  (hpl : ∀ env, (backTo pos (starEach es env)).any (·.1) = false)
  (op : ∀ W1 st1 s1 vs Vs, VRs g.w.params W1 vs Vs → Go F VV g W1 st1 s1 (k vs) Q E → wpAny (model pw_nm0149_01 g.w) g.A (call (.ref addr) Vs) Q E s1)
  (G : Go F VV g W st s (fa.bind fun vs => k (fst ++ vs)) Q E) :
  wpAny (model pw_nm0149_01 g.w) g.A (callWith pos (.ref addr) Fst (backTo pos (starEach es g.env)) []) Q E s := by
 refine callWith_of (by rw [hpl]; rfl) (keeps_K hk) (evalArgs_any (hpl _) ((ha pos).step G fun W1 st1 h1' tk1 vs Vs le rvs G1 => ?_))
 refine G1.RE fun m cs R => ?_
 exact ⟨G.S.X' R.F, op _ _ _ _ _ ((h1.mono le).append rvs) G1⟩
theorem Ev.call {fe : PySem.Expr} {es : List PySem.Expr} {addr D : Nat} {f : FF} {fa : MM (List MV)} {pos : Pos} (hfe : EvE F fe (MM.pure (.con (.ref addr)))) (ha : EvA F es fa) (hf : FnR addr D f) (hD : D ≤ F.D := by decide) (hk : ∀ P, keepIn (KO P) (.ref addr) = true := by intro _; kernel_rfl)
  (hpl : ∀ env, (backTo pos (starEach es env)).any (·.1) = false := by intro _; rfl)
  (hs : ∀ env, eval (.Call fe es [] pos) env = (do callWith pos (← eval fe env) [] (backTo pos (starEach es env)) (backToKw pos (keywordEach [] env))) := by intro _; rfl) : EvE F (.Call fe es [] pos) (fa.bind (callM f)) := fun g W st s Q E G =>
 Call_ (hfe.stepE (k := fun _ => fa.bind (callM f)) G fun W1 st1 h1 tk1 v V le rv ev G1 => by
  cases ev
  apply rv.eCon
  exact op_callWith (hk _) ha .nil hpl (fun W1 st1 s1 vs Vs rvs G2 => op_call hf hD rvs G2) G1) (hs _)
end
section
variable {F : FS}
def notFld (name : Str) : Bool := FN.all fun x => !(x == name)
theorem notFld_of {name : Str} (h : notFld name = true) {c : Nat} (hc : c < 12) : (fname c == name) = false := by
 have := List.all_eq_true.mp h (fname c) (by
  unfold fname
  have hl : c < FN.length := hc
  rw [List.getD_eq_getElem?_getD, List.getElem?_eq_getElem hl]
  exact List.getElem_mem hl)
 simpa using this
theorem EsR.noFld {P : Params} {W : Wd} {name : Str} (h : notFld name = true) : ∀ {fs : List (Nat × MV)} {es : List DictEntry}, EsR P W fs es → getL name es = some none
 | _, _, .nil => rfl
 | _, _, .cons (c := d) (V := U) (t := t) (es := es₀) hd hv r => by
  have e := getL_cons (P := P) (name := name) (e := ⟨PyData.keyHash P (fname d), .str (fname d) t, U⟩) r.keys rfl
  rw [e, show (Value.str (fname d) t).isStr name = false from notFld_of h hd, if_neg Bool.false_ne_true]
  exact r.noFld h
theorem br_flds {P : Params} {W : Wd} {its : List Tr} {r c : Int} {t1 t2 t3 tr tc : Tok} {l : Addr} (h : VR P W (.trees its) (.ref l)) : EsR P W [(0, .trees its), (2, .int r), (3, .int c)] [kv P "items" t1 (.ref l), kv P "row" t2 (.int r tr), kv P "column" t3 (.int c tc)] :=
 EsR.cons (c := 0) (t := t1) (by decide) h (EsR.cons (c := 2) (t := t2) (by decide) .int (EsR.cons (c := 3) (t := t3) (by decide) .int .nil))
def methOk (K : Frag) (name : Str) (C f : Nat) : Bool := plainGet K C name && findIn K (.ref C) name == some (some (.ref f)) && isFn K (.ref f) && notFld name
theorem methOk_of {K : Frag} {name : Str} {C f : Nat} (h : methOk K name C f = true) : plainGet K C name = true ∧ findIn K (.ref C) name = some (some (.ref f)) ∧ isFn K (.ref f) = true ∧ notFld name = true := by
 unfold methOk at h
 rw [Bool.and_eq_true, Bool.and_eq_true, Bool.and_eq_true] at h
 exact ⟨h.1.1.1, beq_iff_eq.mp h.1.1.2, h.1.2, h.2⟩
def clsM (C : Nat) (o : MV) : MM Unit := match o with
 | .obj i => fun st => match st.μ[i]? with
  | some (.inst C' _) => match Nat.beq C' C with
   | true => some (.val (), st)
   | false => none
  | _ => none
 | .tree (.br ..) => match Nat.beq 144 C with
  | true => MM.pure ()
  | false => MM.fail
 | _ => MM.fail
noncomputable abbrev QQ (addr : Nat) (O : Value) : Params → Wd → Unit → Value × List Value → Prop := fun _ _ _ x => x = (Value.ref addr, [O])
set_option tactic.hygienic true in
theorem op_meth {C addr : Nat} {name : Str} {g : FG} {W : Wd} {st : St} {s : Shared} {Q : Value × List Value → Shared → Prop} {E : Value → Shared → Prop} {pl : Sem Bool} {o : MV} {O : Value} (hok : ∀ P, methOk (KO P) name C addr = true) (ro : VR g.w.params W o O)
  (G : Go F (QQ addr O) g W st s (clsM C o) Q E) : wpAny (model pw_nm0149_01 g.w) g.A (getMethod O name pl) Q E s := by
 refine G.RE fun m cs R => ?_
 have S := G.S
 refine ee04 (methOk_of (hok g.w.params)) fun a1 a2 a3 a4 => ?_
 unfold clsM at G
 split at G
 ·rename_i i
  refine ee12 ro.iObj fun a qe1 ha => ?_; subst qe1
  refine G.oE fun ou st' e _ => ?_
  refine se4 e fun C' fs hi e => ?_
  refine se3 e fun hC e => ?_
  have hC' := Nat.eq_of_beq_eq_true hC
  subst hC'
  clear e
  refine ee43 (R.inst ha hi) fun dx es pre post qe4 he _ => ?_; subst qe4
  refine method_inst R.F S.X (InstAt.of_news R.N (List.mem_append_left _ (List.mem_append_right _ (.head _))) (List.mem_append_left _ (List.mem_append_right _ (.tail _ (.head _))))) a1 a2 a3 (he.noFld a4) ?_
  exact G.out (st2 := st) (b := ()) (by simp only [hi, hC]) .rfl' R rfl
 ·rename_i its r c
  have ht := ro.iTree
  refine sg7 G fun hC G => ?_
  have hC' := Nat.eq_of_beq_eq_true hC
  subst hC'
  cases ht with
  | br x1 x2 x3 x4 x5 =>
   have N' : ∀ p ∈ W.R, p ∈ cs ++ W.all := fun p hp => List.mem_append_right _ (W.mem hp)
   exact method_inst R.F S.X (InstAt.of_news R.N (N' _ x1) (N' _ x2)) a1 a2 a3 ((br_flds (VR.trees x3 x4 x5)).noFld a4) (G.tk rfl)
 ·exact G.none.elim
theorem Ev.meth {o : PySem.Expr} {es : List PySem.Expr} {name : Str} {C addr D : Nat} {f : FF} {fo : MM MV} {fa : MM (List MV)} {apos pos : Pos} (ho : EvE F o fo) (ha : EvA F es fa) (hf : FnR addr D f) (hD : D ≤ F.D := by decide) (hok : ∀ P, methOk (KO P) name C addr = true := by intro _; kernel_rfl) (hk : ∀ P, keepIn (KO P) (.ref addr) = true := by intro _; kernel_rfl)
  (pl : Env → Sem Bool)
  (hpl : ∀ env, (backTo pos (starEach es env)).any (·.1) = false := by intro _; rfl)
  (hs : ∀ env, eval (.Call (.Attribute o name apos) es [] pos) env = (do
   let ov ← eval o env
   standAt apos.atName
   let (f, first) ← holding [ov] (getMethod ov name (pl env))
   callWith pos f first (backTo pos (starEach es env)) []) := by intro _; rfl) : EvE F (.Call (.Attribute o name apos) es [] pos) (fo.bind fun o => (clsM C o).bind fun _ => fa.bind fun vs => callM f ([o] ++ vs)) := fun g W st s Q E G =>
 MethodCall_ (pl := pl g.env) (ho.step G fun W1 st1 h1 tk1 o O le ro G1 => G1.then (RR := QQ addr O) (op_meth hok ro) fun W2 st2 h2 tk2 _ x le2 hx G2 => by
  cases hx
  exact op_callWith (hk _) ha (.cons (ro.mono le2) .nil) hpl (fun W1 st1 s1 vs Vs rvs G2 => op_call hf hD rvs G2) G2) (hs _)
end
theorem nodup_put {es cs R : List (Addr × Obj)} (h : ((cs ++ R).map (·.1)).Nodup) (he : (es.map (·.1)).Nodup) (hf : ∀ p ∈ cs ++ R, ∀ q ∈ es, p.1 ≠ q.1) : (((cs ++ es) ++ R).map (·.1)).Nodup := by
 have pm : ((es ++ (cs ++ R)).map (·.1)).Perm (((cs ++ es) ++ R).map (·.1)) := by
  refine List.Perm.map _ ?_
  rw [← List.append_assoc]
  exact List.perm_append_comm.append_right R
 refine pm.nodup_iff.mp ?_
 rw [List.map_append]
 refine List.nodup_append.mpr ⟨he, h, fun a ha b hb e => ?_⟩
 refine ee12 (List.mem_map.mp ha) fun q hq qe2 => ?_; subst qe2
 refine ee12 (List.mem_map.mp hb) fun p hp qe2 => ?_; subst qe2
 exact hf p hp q hq e.symm
noncomputable def Wd.snoc (W : Wd) (x : Addr) : Wd := ⟨W.ρ ++ [x], W.R, W.sc, W.pin⟩
theorem Wd.le_snoc {W : Wd} {x : Addr} : W.Le (W.snoc x) := ⟨fun i a h => by
 show (W.ρ ++ [x])[i]? = some a
 obtain ⟨hi, _⟩ := List.getElem?_eq_some_iff.mp h
 rw [List.getElem?_append_left hi]; exact h, fun _ h => h, rfl, rfl⟩
noncomputable def Wd.froz (W : Wd) (p : Addr × Obj) : Wd := ⟨W.ρ, p :: W.R, W.sc, W.pin⟩
theorem Wd.le_froz {W : Wd} {p : Addr × Obj} : W.Le (W.froz p) := ⟨fun _ _ h => h, fun _ h => .tail _ h, rfl, rfl⟩
theorem Rel.snoc {g : FG} {ns : List Str} {W : Wd} {st : St} {h h' : Heap} {m : Str → Option Value} {cs es : List (Addr × Obj)} {o : MO} {x : Addr} (R : Rel g ns W st h m cs) (F' : Fr g.h₀ g.L h' m) (N' : News g.h₀ g.L h' (es ++ (cs ++ W.all))) (he : (es.map (·.1)).Nodup) (hf : ∀ p ∈ cs ++ W.all, ∀ q ∈ es, p.1 ≠ q.1) (ho : OR g.w (W.snoc x) o x es) :
  Rel g ns (W.snoc x) ⟨st.m, st.μ ++ [o]⟩ h' m (cs ++ es) :=
 ⟨F', fun p hp => N' p (by
  rcases List.mem_append.mp hp with hp | hp
  ·rcases List.mem_append.mp hp with hp | hp
   ·exact List.mem_append_right _ (List.mem_append_left _ hp)
   ·exact List.mem_append_left _ hp
  ·exact List.mem_append_right _ (List.mem_append_right _ hp)), nodup_put R.nd he hf, R.loc.mono Wd.le_snoc, (R.cells.mono Wd.le_snoc).snoc ho, R.sc.le Wd.le_snoc⟩
theorem Rel.froz {g : FG} {ns : List Str} {W : Wd} {st : St} {h h' : Heap} {m : Str → Option Value} {cs : List (Addr × Obj)} {p : Addr × Obj} (R : Rel g ns W st h m cs) (F' : Fr g.h₀ g.L h' m) (N' : News g.h₀ g.L h' (p :: (cs ++ W.all))) (hf : ∀ q ∈ cs ++ W.all, q.1 ≠ p.1) :
  Rel g ns (W.froz p) st h' m cs :=
 ⟨F', fun q hq => N' q (by
  rcases List.mem_append.mp hq with hq | hq
  ·exact .tail _ (List.mem_append_left _ hq)
  ·apply mcE hq
   ·exact .head _
   ·intro hq; exact .tail _ (List.mem_append_right _ hq)), by
  have := nodup_put (es := [p]) R.nd (by simp) (fun q hq r hr => by rw [List.mem_singleton.mp hr]; exact hf q hq)
  rw [List.append_assoc] at this
  exact this, R.loc.mono Wd.le_froz, R.cells.mono Wd.le_froz, R.sc.le Wd.le_froz⟩
theorem Rel.idx {g : FG} {ns : List Str} {W : Wd} {st : St} {h : Heap} {m : Str → Option Value} {cs : List (Addr × Obj)} (R : Rel g ns W st h m cs) {x : Addr} : (W.snoc x).ρ[st.μ.length]? = some x := by
 show (W.ρ ++ [x])[st.μ.length]? = _
 rw [R.cells.len, List.getElem?_append_right (Nat.le_refl _), Nat.sub_self]
 rfl
section
variable {F : FS}
def newM (C : Nat) (f : FF) (vs : List MV) : MM MV := fun st => match f (.obj st.μ.length :: vs) (st.μ ++ [.inst C []]) with
 | some (.val .none, μ') => some (.val (.obj st.μ.length), ⟨st.m, μ'⟩)
 | some (.val _, _) => none
 | some (.bad w r c, μ') => some (.bad w r c, ⟨st.m, μ'⟩)
 | none => none
theorem tc_weight {C : Addr} {pos : List Value} {kw : List (Str × Value)} : (Code.builtin "type.__call__" ⟨.ref C :: pos, kw⟩).weight = 1 ∧ (Code.builtin "type.__call__" ⟨.ref C :: pos, kw⟩).envs = [] ∧ (Code.builtin "type.__call__" ⟨.ref C :: pos, kw⟩).cUnits = 1 := by
 refine ⟨?_, ?_, ?_⟩
 ·kernel_rfl
 ·kernel_rfl
 ·kernel_rfl
theorem Stat.under {g : FG} {D : Nat} (S : Stat g (D + 1)) {C : Addr} {pos : List Value} {kw : List (Str × Value)} : Stat { g with A := g.A.under (.builtin "type.__call__" ⟨.ref C :: pos, kw⟩) } D := by
 refine ee03 (tc_weight (C := C) (pos := pos) (kw := kw)) fun h1 h2 h3 => ?_
 refine ⟨S.B, S.X, S.T, S.K, ?_, S.hd, ?_, ?_⟩
 ·show pushEnvs (Code.builtin "type.__call__" ⟨.ref C :: pos, kw⟩).envs g.A.frames = _
  rw [h2, S.fr]; rfl
 ·show g.A.depth + (Code.builtin "type.__call__" ⟨.ref C :: pos, kw⟩).weight + D < _
  rw [h1]; have := S.d; omega
 ·show g.A.units + (Code.builtin "type.__call__" ⟨.ref C :: pos, kw⟩).cUnits + 40 * D < _
  rw [h3]; have := S.u; omega
noncomputable def newOk (K : Frag) (C fI : Nat) : Bool := makesIn K C && findIn K (.ref C) "__init__" == some (some (.ref fI)) && isFn K (.ref fI) && keepIn K (.ref C)
set_option tactic.hygienic true in
theorem op_new {C fI D : Nat} {f : FF} {g : FG} {W : Wd} {st : St} {s : Shared} {Q : Value → Shared → Prop} {E : Value → Shared → Prop} {vs : List MV} {Vs : List Value} (hf : FnR fI D f) (hD : D + 1 ≤ F.D) (hok : ∀ P, newOk (KO P) C fI = true) (hvs : VRs g.w.params W vs Vs) (G : Go F VV g W st s (newM C f vs) Q E) :
  wpAny (model pw_nm0149_01 g.w) g.A (call (.ref C) Vs) Q E s := by
 refine G.oG fun hcs S m cs R o st' e hP => ?_
 have ok := hok g.w.params
 unfold newOk at ok
 rw [Bool.and_eq_true, Bool.and_eq_true, Bool.and_eq_true] at ok
 obtain ⟨⟨⟨o1, o2⟩, o3⟩, -⟩ := ok
 refine call_cls R.F S.X R.N o1 (beq_iff_eq.mp o2) o3 fun x dx h' F' N' l1 l2 => ?_
 have R' : Rel g F.ns (W.snoc x) ⟨st.m, st.μ ++ [.inst C []]⟩ h' m (cs ++ [(x, instObj C dx), (dx, dictOf [] 0)]) := R.snoc F' N' (by simp only [List.map_cons, List.map_nil, List.nodup_cons, List.mem_singleton, List.not_mem_nil, not_false_eq_true, List.nodup_nil, and_self, and_true]; exact Nat.ne_of_gt l2) (fun p hp q hq => by
  have := l1 p hp
  apply mcE hq
  ·exact Nat.ne_of_lt (Nat.lt_trans this l2)
  ·intro hq; rw [List.mem_singleton.mp hq]; exact Nat.ne_of_lt this) (.inst .nil)
 unfold newM at e
 refine hf F.ns { g with A := g.A.under (.builtin "type.__call__" ⟨.ref C :: Vs, []⟩) } (W.snoc x) st.m (st.μ ++ [.inst C []]) _ (.obj st.μ.length :: vs) (.ref x :: Vs) _ ?_ ?_ m _ (S.le hD).under { R' with } (.cons (.obj R.idx) (hvs.mono Wd.le_snoc)) ?_ ?_
 ·exact match f (.obj st.μ.length :: vs) (st.μ ++ [.inst C []]) with
   | some p => p.1
   | none => .bad [] 0 0
 ·exact match f (.obj st.μ.length :: vs) (st.μ ++ [.inst C []]) with
   | some p => p.2
   | none => []
 ·cases h : f (.obj st.μ.length :: vs) (st.μ ++ [.inst C []]) with
  | none => rw [h] at e; exact nsE e
  | some p => rfl
 ·split at e
  ·rename_i μ' h
   have hP := hP.eqs e
   rw [h]
   exact fun W2 h2 tk2 cs2 V le R2 rV => by
    apply rV.eNone
    exact ⟨rfl, hP W2 h2 tk2 m cs2 _ (Wd.le_snoc.trans le) { R2 with } (.obj (le.ρ _ _ R.idx))⟩
  ·exact nsE e
  ·rename_i w r c μ' h
   have hP := hP.eqs e
   rw [h]
   exact fun W2 h2 tk2 e2 le R2 => hP W2 h2 tk2 m e2 (Wd.le_snoc.trans le) (by
    obtain ⟨_, _, _, _, _, _, _, _, _, _, a, b⟩ := R2
    exact .fly { a with } b)
  ·exact nsE e
theorem Ev.new {fe : PySem.Expr} {es : List PySem.Expr} {C fI D : Nat} {f : FF} {fa : MM (List MV)} {pos : Pos} (hfe : EvE F fe (MM.pure (.con (.ref C)))) (ha : EvA F es fa) (hf : FnR fI D f) (hD : D + 1 ≤ F.D := by decide) (hok : ∀ P, newOk (KO P) C fI = true := by intro _; kernel_rfl)
  (hpl : ∀ env, (backTo pos (starEach es env)).any (·.1) = false := by intro _; rfl)
  (hs : ∀ env, eval (.Call fe es [] pos) env = (do callWith pos (← eval fe env) [] (backTo pos (starEach es env)) (backToKw pos (keywordEach [] env))) := by intro _; rfl) : EvE F (.Call fe es [] pos) (fa.bind (newM C f)) := fun g W st s Q E G =>
 Call_ (hfe.stepE (k := fun _ => fa.bind (newM C f)) G fun W1 st1 h1 tk1 v V le rv ev G1 => by
  cases ev
  apply rv.eCon
  have ok := hok g.w.params
  unfold newOk at ok
  rw [Bool.and_eq_true] at ok
  exact op_callWith ok.2 ha .nil hpl (fun W1 st1 s1 vs Vs rvs G2 => op_new hf hD hok rvs G2) G1) (hs _)
def raiseM {β : Type} (vs : List MV) : MM β := match vs with
 | [.str w, .int r, .int c] => fun st => some (.bad w r c, st)
 | _ => MM.fail
theorem A_ktr {g : FG} {D : Nat} (S : Stat g D) : g.A = ktrTop g.A.depth g.A.units g.A.guards g.cn g.cs g.L g.a g.ccd g.cl g.outer := by
 have h1 := S.hd
 have h2 := S.fr
 cases h : g.A with
 | mk a b c d e => rw [h] at h1 h2; cases h1; cases h2; rfl
set_option tactic.hygienic true in
theorem op_raise {g : FG} {W : Wd} {st : St} {s : Shared} {E : Value → Shared → Prop} {vs : List MV} {Vs : List Value} (hD : 4 ≤ F.D) (hvs : VRs g.w.params W vs Vs) (G : Go F VV g W st s (raiseM vs) (RaisableC g.w 58 E) E) :
  wpAny (model pw_nm0149_01 g.w) g.A (call (.ref 58) Vs) (RaisableC g.w 58 E) E s := by
 refine G.oG fun hcs S m cs R o st' e hP => ?_
 unfold raiseM at e
 split at e
 ·have hP := hP.eqs e
  apply hvs.eCons; intro _ _ a1 hvs
  apply hvs.eCons; intro _ _ a2 hvs
  apply hvs.eCons; intro _ _ a3 hvs
  apply hvs.eNil
  apply a1.eStr; intro _; apply a2.eInt; intro _; apply a3.eInt; intro _
  have S4 := S.le hD
  rename_i w r c t1 t2 t3
  rw [A_ktr S]
  refine c_mkBad (Cx.mk S4.B R.F S4.X R.N S4.T S4.K S4.d S4.u) fun e de t ta tb tcc h' tk' F' N' hne => ⟨e, t, some de, rfl, (N' _ (.head _)).1, S4.X' F', ?_⟩
  refine hP W h' tk' m e .rfl' (.new ⟨F', fun p hp => N' p (.tail _ (.tail _ (.tail _ hp))), R.nd, R.loc, R.cells, R.sc⟩ N' hne)
 ·exact nsE e
set_option tactic.hygienic true in
theorem EvS.raise {fe : PySem.Expr} {es : List PySem.Expr} {fa : MM (List MV)} {cpos pos : Pos} (hfe : EvE F fe (MM.pure (.con (.ref 58)))) (ha : EvA F es fa) (hD : 4 ≤ F.D)
  (h1 : ∀ P, subIn (KO P) (.ref 58) (.type "BaseException") = some true) (h2 : ∀ P, typeIn (KO P) (.ref 58) = some (.type "type")) (hk : ∀ P, keepIn (KO P) (.ref 58) = true)
  (hpl : ∀ env, (backTo cpos (starEach es env)).any (·.1) = false := by intro _; rfl)
  (hs : ∀ env, eval (.Call fe es [] cpos) env = (do callWith cpos (← eval fe env) [] (backTo cpos (starEach es env)) (backToKw cpos (keywordEach [] env))) := by intro _; rfl) : EvS F (.Raise (some (.Call fe es [] cpos)) none pos) (fa.bind raiseM) := fun g W st s Q E G =>
 raise_own (h1 _) (h2 _) G.S.hd (by
  have G' : Go F VV g W st s (fa.bind (raiseM (β := MV))) (RaisableC g.w 58 E) E := by
   refine G.oF fun hcs S R o st' e hP => ?_
   unfold MM.bind at e
   split at e
   ·rename_i vs st1 e1
    unfold raiseM at e
    split at e
    ·have hP := hP.eqs e
     exact ⟨hcs, S, R, .bad _ _ _, _, by unfold MM.bind; rw [e1]; rfl, fun W' h' tk' m' e le r => hP W' h' tk' m' e le r⟩
    ·exact nsE e
   ·rename_i w r c st1 e1
    have hP := hP.eqs e
    exact ⟨hcs, S, R, .bad _ _ _, _, by unfold MM.bind; rw [e1], fun W' h' tk' m' e le r => hP W' h' tk' m' e le r⟩
   ·exact nsE e
  exact Call_ (hfe.stepE (k := fun _ => fa.bind raiseM) G' fun W1 st1 h1 tk1 v V le rv ev G1 => by
   cases ev
   apply rv.eCon
   exact op_callWith (hk _) ha .nil hpl (fun W1 st1 s1 vs Vs rvs G2 => op_raise hD rvs G2) G1) (hs _))
end
section
variable {F : FS}
abbrev OpR (F : FS) (t : Value → Value → Sem Value) (f : MV → MV → MM MV) : Prop := ∀ {g W st s Q E a b A B}, VR g.w.params W a A → VR g.w.params W b B → Go F VV g W st s (f a b) Q E → wpAny (model pw_nm0149_01 g.w) g.A (t A B) Q E s
theorem Ev.bin {l r : PySem.Expr} {op : Operator} {fl fr : MM MV} {f : MV → MV → MM MV} {pos : Pos} (hl : EvE F l fl) (hr : EvE F r fr) (ho : OpR F (binaryOp op) f) : EvE F (.BinOp l op r pos) (fl.bind fun a => fr.bind fun b => f a b) := fun g W st s Q E G =>
 wpAny_BinOp (hl.step G fun W1 st1 h1 tk1 a A le ra G1 => hr.step G1 fun W2 st2 h2 tk2 b B le2 rb G2 => ho (ra.mono le2) rb G2)
theorem Ev.cmp {l r : PySem.Expr} {op : CmpOp} {fl fr : MM MV} {f : MV → MV → MM MV} {pos : Pos} (hl : EvE F l fl) (hr : EvE F r fr) (ho : OpR F (compareOp op) f) (hb : behindInMarks op r = false := by kernel_rfl) : EvE F (.Compare l [op] [r] pos) (fl.bind fun a => fr.bind fun b => f a b) := fun g W st s Q E G =>
 wpAny_Compare1 (hl.step G fun W1 st1 h1 tk1 a A le ra G1 => hr.step G1 fun W2 st2 h2 tk2 b B le2 rb G2 => ho (ra.mono le2) rb G2) hb
def truthM (v : MV) : MM Bool := match v with
 | .bool b => MM.pure b
 | .none => MM.pure false
 | _ => MM.fail
theorem op_truth {g : FG} {W : Wd} {st : St} {s : Shared} {Q : Bool → Shared → Prop} {E : Value → Shared → Prop} {v : MV} {V : Value} (r : VR g.w.params W v V) (G : Go F BB g W st s (truthM v) Q E) : wpAny (model pw_nm0149_01 g.w) g.A (truthy V) Q E s := by
 unfold truthM at G
 split at G
 ·apply r.eBool; exact wpAny_truthy_bool (G.ret rfl)
 ·apply r.eNone; exact fun _ _ _ => G.ret rfl
 ·exact G.none.elim
theorem EvT.cmp {l r : PySem.Expr} {op : CmpOp} {fl fr : MM MV} {f : MV → MV → MM MV} {pos : Pos} (hl : EvE F l fl) (hr : EvE F r fr) (ho : OpR F (compareOp op) f) (hb : behindInMarks op r = false := by kernel_rfl) : EvT F (.Compare l [op] [r] pos) (fl.bind fun a => fr.bind fun b => (f a b).bind truthM) := fun g W st s Q E G =>
 wpAny_isTrue_Compare1 (hl.step G fun W1 st1 h1 tk1 a A le ra G1 => hr.step G1 fun W2 st2 h2 tk2 b B le2 rb G2 => G2.then (RR := VV) (ho (ra.mono le2) rb) fun W3 st3 h3 tk3 c C le3 rc G3 => op_truth rc G3) hb
theorem EvT.plain {e : PySem.Expr} {f : MM MV} (he : EvE F e f)
  (hs : ∀ (env : Env) (wh : Sem Value), PySem.isTrue e env wh = (do let v ← wh; standAt e.pos; holding [v] (truthy v)) := by intro _ _; rfl) : EvT F e (f.bind truthM) := fun g W st s Q E G =>
 isTrue_plain (he.step G fun W1 st1 h1 tk1 a A le ra G1 => op_truth ra G1) (hs _ _)
theorem Ev.one {op : BoolOp} {e : PySem.Expr} {f : MM MV} {pos : Pos} (he : EvE F e f) : EvE F (.BoolOp op [e] pos) f := fun g W st s Q E G => BoolOp_one (he g W st s Q E G)
theorem Ev.and {e₁ e₂ : PySem.Expr} {r : List PySem.Expr} {f k : MM MV} {pos : Pos} (he : EvE F e₁ f) (hr : EvE F (.BoolOp .And (e₂ :: r) pos) k) : EvE F (.BoolOp .And (e₁ :: e₂ :: r) pos) (f.bind fun v => (truthM v).bind fun b => match b with | true => k | false => MM.pure v) := fun g W st s Q E G =>
 BoolOp_and (he.step G fun W1 st1 h1 tk1 v V le rv G1 => G1.then (RR := BB) (op_truth rv) fun W2 st2 h2 tk2 b b' le2 hb G2 => by
  cases hb
  cases b with
  | true => exact hr _ _ _ _ _ _ G2
  | false => exact G2.ret (rv.mono le2))
theorem Ev.or {e₁ e₂ : PySem.Expr} {r : List PySem.Expr} {f k : MM MV} {pos : Pos} (he : EvE F e₁ f) (hr : EvE F (.BoolOp .Or (e₂ :: r) pos) k) : EvE F (.BoolOp .Or (e₁ :: e₂ :: r) pos) (f.bind fun v => (truthM v).bind fun b => match b with | true => MM.pure v | false => k) := fun g W st s Q E G =>
 BoolOp_or (he.step G fun W1 st1 h1 tk1 v V le rv G1 => G1.then (RR := BB) (op_truth rv) fun W2 st2 h2 tk2 b b' le2 hb G2 => by
  cases hb
  cases b with
  | true => exact G2.ret (rv.mono le2)
  | false => exact hr _ _ _ _ _ _ G2)
noncomputable def beqL : List Nat → List Nat → Bool
 | [], [] => true
 | a :: r, b :: t => match Nat.beq a b with
  | true => beqL r t
  | false => false
 | _, _ => false
theorem beqL_is : ∀ (a b : List Nat), beqL a b = decide (a = b)
 | [], [] => rfl
 | [], _ :: _ => rfl
 | _ :: _, [] => rfl
 | a :: r, b :: t => by
  unfold beqL
  cases h : Nat.beq a b with
  | true =>
   have := Nat.eq_of_beq_eq_true h
   subst this
   simp [beqL_is r t]
  | false =>
   have := Nat.ne_of_beq_eq_false h
   simp [this]
theorem beqS (a b : List Nat) : (S a == S b) = beqL a b := by
 rw [beqL_is]
 by_cases h : a = b
 ·subst h; simp
 ·have : S a ≠ S b := fun e => h (S_inj e)
  rw [decide_eq_false h]
  exact beq_eq_false_iff_ne.mpr this
noncomputable def optAll {α : Type} : List (Option α) → Option (List α)
 | [] => some []
 | some a :: r => match optAll r with
  | some l => some (a :: l)
  | none => none
 | none :: _ => none
def toD (μ : List MO) : Nat → MV → Option PyData
 | _, .none => some .none
 | _, .bool b => some (.bool b)
 | _, .int i => some (.int i)
 | _, .str x => some (.str (S x))
 | n + 1, .tup vs => match optAll (vs.map (toD μ n)) with
  | some ds => some (.tuple ds)
  | none => none
 | n + 1, .obj i => match μ[i]? with
  | some (.list vs) => match optAll (vs.map (toD μ n)) with
   | some ds => some (.list ds)
   | none => none
  | _ => none
 | _, _ => none
theorem Rel.list {g : FG} {ns : List Str} {W : Wd} {st : St} {h : Heap} {m : Str → Option Value} {cs : List (Addr × Obj)} {i : Nat} {vs : List MV} {a : Addr} (R : Rel g ns W st h m cs) (ha : W.ρ[i]? = some a) (hi : st.μ[i]? = some (.list vs)) :
  ∃ ws k pre post, cs = pre ++ (a, _root_.PySem.W.listOf (ws : List Value).toArray k) :: post ∧ VRs g.w.params W vs ws ∧ vs.length ≤ 1000000 ∧ ∀ vs' ws' k', VRs g.w.params W vs' ws' → vs'.length ≤ 1000000 → CellsR g.w W (st.μ.set i (.list vs')) W.ρ (pre ++ (a, _root_.PySem.W.listOf (ws' : List Value).toArray k') :: post) := by
 refine ee44 (R.cells.split hi) fun x es pre post h1 h2 h3 h4 => ?_
 rw [ha] at h1; obtain rfl := Option.some.inj h1
 refine ee23 h2.iList fun _ _ qe2 he hz => ?_; subst qe2
 exact ⟨_, _, pre, post, h3, he, hz, fun vs' ws' k' h' hz' => h4 _ _ (.list h' hz')⟩
def toDb : MV → Option PyData
 | .none => some .none
 | .bool b => some (.bool b)
 | .int i => some (.int i)
 | .str x => some (.str (S x))
 | _ => none
theorem toD_base {P : Params} {W : Wd} {h : Heap} {v : MV} {V : Value} {d : PyData} (r : VR P W v V) (e : toDb v = some d) : ∃ as, Reads h V d as := by
 cases v with
 | none => obtain rfl := Option.some.inj e; apply r.eNone; exact ⟨_, .none⟩
 | bool b => obtain rfl := Option.some.inj e; apply r.eBool; exact ⟨_, .bool _⟩
 | int i => obtain rfl := Option.some.inj e; apply r.eInt; intro t; exact ⟨_, .int _ _⟩
 | str x => obtain rfl := Option.some.inj e; apply r.eStr; intro t; exact ⟨_, .str _ _⟩
 | _ => exact nsE e
theorem toD_all {P : Params} {W : Wd} {h : Heap} {f : MV → Option PyData} (ih : ∀ {v V d}, VR P W v V → f v = some d → ∃ as, Reads h V d as) {vs : List MV} : ∀ {Vs : List Value} {ds : List PyData}, VRs P W vs Vs → optAll (vs.map f) = some ds → ∃ as, ReadsAll h Vs ds as := by
 induction vs with
 | nil => intro Vs ds r e; obtain rfl := Option.some.inj e; apply r.eNil; exact ⟨_, .nil⟩
 | cons v vs il =>
  intro Vs ds r e
  apply r.eCons; intro V Vs' a b
  rw [List.map_cons] at e
  cases hv : f v with
  | none => rw [hv] at e; exact nsE e
  | some d =>
   rw [hv] at e
   unfold optAll at e
   cases hl : optAll (vs.map f) with
   | none => rw [hl] at e; exact nsE e
   | some l =>
    rw [hl] at e
    obtain rfl := Option.some.inj e
    exact (ih a hv).elim fun _ ha => (il b hl).elim fun _ hb => ⟨_, .cons ha hb⟩
theorem toD_reads {g : FG} {ns : List Str} {W : Wd} {st : St} {h : Heap} {m : Str → Option Value} {cs : List (Addr × Obj)} (R : Rel g ns W st h m cs) (n : Nat) {v : MV} {V : Value} {d : PyData} (r : VR g.w.params W v V) (e : toD st.μ n v = some d) : ∃ as, Reads h V d as := by
 induction n generalizing v V d with
 | zero => exact toD_base r (by cases v <;> exact e)
 | succ n ih =>
  cases v with
  | tup vs =>
   unfold toD at e
   refine se9 e fun ds hd e => ?_
   obtain rfl := Option.some.inj e
   apply r.eTup; intro a ws ha hz hr
   exact (toD_all ih hr hd).elim fun as ha' => ⟨_, .tuple (R.N _ (List.mem_append_right _ (W.mem ha))).1 rfl rfl (by simpa using ha')⟩
  | obj i =>
   unfold toD at e
   refine se10 e fun vs hi e => ?_
   refine se9 e fun ds hd e => ?_
   obtain rfl := Option.some.inj e
   apply r.eObj; intro a ha
   refine ee44 (R.list ha hi) fun ws k pre post qe4 hr hz _ => ?_; subst qe4
   exact (toD_all ih hr hd).elim fun as ha' => ⟨_, .list (R.N _ (List.mem_append_left _ (List.mem_append_right _ (.head _)))).1 rfl rfl (by simpa using ha')⟩
  | _ => exact toD_base r e
end
section
variable {F : FS}
def eqD (n : Nat) (pos : Bool) (a b : MV) : MM MV := fun st => match toD st.μ 8 a with
 | some da => match toD st.μ 8 b with
  | some db => match da.canLay0 && db.canLay0 && Nat.ble da.depth 40 && Nat.ble 1 n with
   | true => some (.val (.bool (match pos with | true => PyData.eqv da db | false => !PyData.eqv da db)), st)
   | false => none
  | none => none
 | none => none
def eqM (n : Nat) (a b : MV) : MM MV := match a, b with
 | .int i, .int j => MM.pure (.bool (i == j))
 | .str x, .str y => MM.pure (.bool (beqL x y))
 | a, b => eqD n true a b
def neM (n : Nat) (a b : MV) : MM MV := match a, b with
 | .int i, .int j => MM.pure (.bool (i != j))
 | .str x, .str y => MM.pure (.bool (!beqL x y))
 | a, b => eqD n false a b
theorem op_eqD {g : FG} {W : Wd} {st : St} {s : Shared} {Q E : Value → Shared → Prop} {a b : MV} {A B : Value} {pos : Bool} (ra : VR g.w.params W a A) (rb : VR g.w.params W b B) (G : Go F VV g W st s (eqD F.D pos a b) Q E) : wpAny (model pw_nm0149_01 g.w) g.A (compareOp (match pos with | true => .Eq | false => .NotEq) A B) Q E s := by
 refine G.RE fun m cs R => ?_
 refine G.oE fun o st' e _ => ?_
 unfold eqD at e
 refine se17 e fun da ha e => ?_
 refine se17 e fun db hb e => ?_
 refine se3 e fun hc e => ?_
 clear e
 rw [Bool.and_eq_true, Bool.and_eq_true, Bool.and_eq_true] at hc
 obtain ⟨⟨⟨c1, c2⟩, c3⟩, c4⟩ := hc
 obtain ⟨as, r1⟩ := toD_reads R 8 ra ha
 obtain ⟨bs, r2⟩ := toD_reads R 8 rb hb
 have c3' := Nat.le_of_ble_eq_true c3
 have c4' := Nat.le_of_ble_eq_true c4
 have hu : g.A.units + min da.depth db.depth < cLine := by have := G.S.u; omega
 cases pos with
 | true => exact PySem.SeqAt.compareEq_reads r1 r2 c1 c2 hu (G.out (st2 := st) (b := .bool (PyData.eqv da db)) (by unfold eqD; simp only [ha, hb, c1, c2, c3, c4, Bool.and_self]) .rfl' R .bool)
 | false => exact PySem.SeqAt.compareNe_reads r1 r2 c1 c2 hu (G.out (st2 := st) (b := .bool (!PyData.eqv da db)) (by unfold eqD; simp only [ha, hb, c1, c2, c3, c4, Bool.and_self]) .rfl' R .bool)
theorem op_eq : OpR F (compareOp .Eq) (eqM F.D) := by
 intro g W st s Q E a b A B ra rb G
 unfold eqM at G
 split at G
 ·apply ra.eInt; intro _; apply rb.eInt; intro _; exact eq_int (G.ret .bool)
 ·apply ra.eStr; intro _; apply rb.eStr; intro _; exact eq_str (by rw [beqS]; exact G.ret .bool)
 ·exact op_eqD (pos := true) ra rb G
theorem op_ne : OpR F (compareOp .NotEq) (neM F.D) := by
 intro g W st s Q E a b A B ra rb G
 unfold neM at G
 split at G
 ·apply ra.eInt; intro _; apply rb.eInt; intro _; exact ne_int (G.ret .bool)
 ·apply ra.eStr; intro _; apply rb.eStr; intro _; exact PyProof.Rows.ne_str (by rw [show (S _ != S _) = !(S _ == S _) from rfl, beqS]; exact G.ret .bool)
 ·exact op_eqD (pos := false) ra rb G
noncomputable def isNo : MV → Option Bool
 | .none => some true
 | .con _ => none
 | .junk => none
 | _ => some false
def isM (pos : Bool) (a b : MV) : MM MV := match b with
 | .none => match isNo a with
  | some c => MM.pure (.bool (match pos with | true => c | false => !c))
  | none => MM.fail
 | _ => MM.fail
set_option tactic.hygienic true in
theorem isNo_val {P : Params} {W : Wd} {a : MV} {A : Value} {c : Bool} (r : VR P W a A) (h : isNo a = some c) : (A == Value.none) = c := by
 cases r <;> first | (cases h; rfl) | (cases h; done) | skip
 rename_i t ht
 obtain ⟨x, rfl⟩ := ht.isRef
 obtain rfl := Option.some.inj h; rfl
theorem op_is : OpR F (compareOp .Is) (isM true) := by
 intro g W st s Q E a b A B ra rb G
 unfold isM at G
 refine sg16 G fun qs0 G => ?_; subst qs0
 apply rb.eNone
 refine sg15 G fun c hc G => ?_
 exact is_none_gen (by rw [isNo_val ra hc]; exact G.ret .bool)
theorem op_isnot : OpR F (compareOp .IsNot) (isM false) := by
 intro g W st s Q E a b A B ra rb G
 unfold isM at G
 refine sg16 G fun qs0 G => ?_; subst qs0
 apply rb.eNone
 refine sg15 G fun c hc G => ?_
 exact isnot_none_gen (by rw [isNo_val ra hc]; exact G.ret .bool)
def ltM (a b : MV) : MM MV := match a, b with
 | .int i, .int j => MM.pure (.bool (decide (i < j)))
 | _, _ => MM.fail
def geM (a b : MV) : MM MV := match a, b with
 | .int i, .int j => MM.pure (.bool (decide (j ≤ i)))
 | _, _ => MM.fail
theorem op_lt : OpR F (compareOp .Lt) ltM := by
 intro g W st s Q E a b A B ra rb G
 unfold ltM at G
 refine sg14 G fun _ _ qs0 qs1 G => ?_; subst qs0 qs1
 apply ra.eInt; intro _; apply rb.eInt; intro _; exact PyProof.Rows.lt_int (G.ret .bool)
theorem op_gt : OpR F (compareOp .Gt) (fun a b => ltM b a) := by
 intro g W st s Q E a b A B ra rb G
 replace G : Go F VV g W st s (ltM b a) Q E := G
 unfold ltM at G
 refine sg14 G fun _ _ qs0 qs1 G => ?_; subst qs0 qs1
 apply ra.eInt; intro _; apply rb.eInt; intro _; exact PyProof.Rows.gt_int (G.ret .bool)
theorem op_ge : OpR F (compareOp .GtE) geM := by
 intro g W st s Q E a b A B ra rb G
 unfold geM at G
 refine sg14 G fun _ _ qs0 qs1 G => ?_; subst qs0 qs1
 apply ra.eInt; intro _; apply rb.eInt; intro _; exact PyProof.Rows.ge_int (G.ret .bool)
def kget : List (List Nat × MV) → List Nat → Option MV
 | [], _ => none
 | p :: r, k => match beqL p.1 k with
  | true => some p.2
  | false => kget r k
def kput : List (List Nat × MV) → List Nat → MV → List (List Nat × MV)
 | [], k, v => [(k, v)]
 | p :: r, k, v => match beqL p.1 k with
  | true => (p.1, v) :: r
  | false => p :: kput r k v
theorem beqL_true {a b : List Nat} : beqL a b = true ↔ a = b := by rw [beqL_is]; exact decide_eq_true_iff
theorem KsR.get {P : Params} {W : Wd} {k : List Nat} : ∀ {ks : List (List Nat × MV)} {kws : List (Str × Value)}, KsR P W ks kws → (∀ v, kget ks k = some v → ∃ V, valueAt kws (S k) = some V ∧ VR P W v V) ∧ (kget ks k = none → valueAt kws (S k) = none)
 | _, _, .nil => ⟨fun v h => (by exact nsE h), fun _ => rfl⟩
 | _, _, .cons (k := q) (v := u) (V := U) (kws := kws) hv r => by
  have ih := r.get (k := k)
  have e : valueAt ((S q, U) :: kws) (S k) = if beqL q k = true then some U else valueAt kws (S k) := by
   unfold valueAt
   rw [List.find?_cons]
   cases h : beqL q k with
   | true => rw [beqL_true.mp h]; simp
   | false =>
    have : S q ≠ S k := fun x => by
     have := beqL_true.mpr (S_inj x)
     rw [h] at this; exact ftE this
    rw [show decide (S q = S k) = false from decide_eq_false this]
    rfl
  rw [e]
  unfold kget
  dsimp only
  cases h : beqL q k with
  | true => exact ⟨fun v h' => (by obtain rfl := Option.some.inj h'; exact ⟨U, by simp, hv⟩), fun h' => (by exact nsE h'.symm)⟩
  | false => simpa using ih
theorem Rel.dict {g : FG} {ns : List Str} {W : Wd} {st : St} {h : Heap} {m : Str → Option Value} {cs : List (Addr × Obj)} {i : Nat} {ks : List (List Nat × MV)} {a : Addr} (R : Rel g ns W st h m cs) (ha : W.ρ[i]? = some a) (hi : st.μ[i]? = some (.dict ks)) :
  ∃ o kws pre post, (a == sysModules) = false ∧ cs = pre ++ (a, o) :: post ∧ KsR g.w.params W ks kws ∧ ks.length ≤ 1000 ∧ o.IsDictOf (strKind pw_nm0149_01 g.w) kws ∧ ∀ ks' kws' (o' : Obj), KsR g.w.params W ks' kws' → ks'.length ≤ 1000 → o'.IsDictOf (strKind pw_nm0149_01 g.w) kws' → CellsR g.w W (st.μ.set i (.dict ks')) W.ρ (pre ++ (a, o') :: post) := by
 refine ee44 (R.cells.split hi) fun x es pre post h1 h2 h3 h4 => ?_
 rw [ha] at h1; obtain rfl := Option.some.inj h1
 refine ee25 h2.iDict fun _ _ qe2 lo hk hz hd => ?_; subst qe2
 exact ⟨_, _, pre, post, lo, h3, hk, hz, hd, fun ks' kws' o' h' hz' hd' => h4 _ _ (.dict lo h' hz' hd')⟩
def inD (pos : Bool) (a b : MV) : MM MV := match a, b with
 | .str k, .obj i => fun st => match st.μ[i]? with
  | some (.dict ks) => some (.val (.bool (match pos with | true => (kget ks k).isSome | false => !(kget ks k).isSome)), st)
  | _ => none
 | _, _ => MM.fail
theorem isStrOf_S {w : World} {k : List Nat} {t : Tok} : (strKind pw_nm0149_01 w).is (S k) (.str (S k) t) = true := strKind_is _ _ _ _
theorem op_inD (pos : Bool) : OpR F (compareOp (match pos with | true => .In | false => .NotIn)) (inD pos) := by
 intro g W st s Q E a b A B ra rb G
 refine G.RE fun m cs R => ?_
 unfold inD at G
 refine sg13 G fun k i qs0 qs1 G => ?_; subst qs0 qs1
 apply ra.eStr; intro _
 apply rb.eObj; intro x hx
 refine G.oE fun o st' e _ => ?_
 refine se12 e fun ks hi e => ?_
 clear e
 refine ee46 (R.dict hx hi) fun od kws pre post lo qe5 hk hz hd _ => ?_; subst qe5
 have hm : (x, od) ∈ (pre ++ (x, od) :: post) ++ W.all := List.mem_append_left _ (List.mem_append_right _ (.head _))
 have hs : (valueAt kws (S k)).isSome = (kget ks k).isSome := by
  cases h : kget ks k with
  | none => rw [(hk.get (k := k)).2 h]; rfl
  | some v => refine ee12 ((hk.get (k := k)).1 v h) fun V hV _ => ?_; rw [hV]; rfl
 cases pos with
 | true => exact kda_in R.N hm hd lo isStrOf_S _ hs (G.out (st2 := st) (b := .bool (kget ks k).isSome) (by simp only [hi]) .rfl' R .bool)
 | false => exact kdg_notin R.N hm hd lo isStrOf_S _ hs (G.out (st2 := st) (b := .bool (!(kget ks k).isSome)) (by simp only [hi]) .rfl' R .bool)
noncomputable def memL : List Nat → Nat → Bool
 | [], _ => false
 | a :: r, b => match Nat.beq a b with
  | true => true
  | false => memL r b
theorem memL_is : ∀ (l : List Nat) (b : Nat), memL l b = decide (b ∈ l)
 | [], b => by simp [memL]
 | a :: r, b => by
  unfold memL
  cases h : Nat.beq a b with
  | true => rw [Nat.eq_of_beq_eq_true h]; simp
  | false =>
   have : b ≠ a := Ne.symm (Nat.ne_of_beq_eq_false h)
   rw [memL_is r b]
   simp [this]
def inS (a b : MV) : MM MV := match a, b with
 | .str [c], .str l => MM.pure (.bool (memL l c))
 | _, _ => MM.fail
theorem op_inS : OpR F (compareOp .In) inS := by
 intro g W st s Q E a b A B ra rb G
 unfold inS at G
 refine sg11 G fun c l qs0 qs1 G => ?_; subst qs0 qs1
 apply ra.eStr; intro _; apply rb.eStr; intro _
 refine PyProof.Rows.in_str ?_
 rw [show S [c] = ⟨#[c]⟩ from rfl, StrLaws.found_one]
 rw [show decide (c ∈ (S l).cps.toList) = memL l c from by rw [memL_is]]
 exact G.ret .bool
end
section
variable {F : FS}
theorem S_len (x : List Nat) : (S x).length = x.length := by simp [S, Str.length]
theorem S_app (x y : List Nat) : S x ++ S y = S (x ++ y) := by
 apply Str.ext'
 rw [Str.cps_append]
 simp [S]
noncomputable def shortL (l : List Nat) : Bool := Nat.ble l.length 60000
def addM (a b : MV) : MM MV := match a, b with
 | .int i, .int j => MM.pure (.int (i + j))
 | .str x, .str y => match shortL x && shortL y with
  | true => MM.pure (.str (x ++ y))
  | false => MM.fail
 | .obj i, .obj j => fun st => match st.μ[i]? with
  | some (.list vs) => match st.μ[j]? with
   | some (.list ws) => match Nat.ble (vs.length + ws.length) 100000 with
    | true => some (.val (.obj st.μ.length), ⟨st.m, st.μ ++ [.list (vs ++ ws)]⟩)
    | false => none
   | _ => none
  | _ => none
 | _, _ => MM.fail
theorem Rel.mem {g : FG} {ns : List Str} {W : Wd} {st : St} {h : Heap} {m : Str → Option Value} {pre post : List (Addr × Obj)} {p : Addr × Obj} (_ : Rel g ns W st h m (pre ++ p :: post)) : p ∈ (pre ++ p :: post) ++ W.all := List.mem_append_left _ (List.mem_append_right _ (.head _))
theorem Rel.newList {g : FG} {ns : List Str} {W : Wd} {st : St} {h h' : Heap} {m : Str → Option Value} {cs : List (Addr × Obj)} {l : Addr} {vs : List MV} {ws : List Value} {k : Nat} (R : Rel g ns W st h m cs) (F' : Fr g.h₀ g.L h' m) (N' : News g.h₀ g.L h' ((l, _root_.PySem.W.listOf ws.toArray k) :: (cs ++ W.all))) (hf : ∀ p ∈ cs ++ W.all, p.1 ≠ l) (hv : VRs g.w.params W vs ws) (hz : vs.length ≤ 1000000) :
  Rel g ns (W.snoc l) ⟨st.m, st.μ ++ [.list vs]⟩ h' m (cs ++ [(l, _root_.PySem.W.listOf ws.toArray k)]) :=
 R.snoc F' N' (by simp) (fun p hp q hq => by rw [List.mem_singleton.mp hq]; exact hf p hp) (.list (hv.mono Wd.le_snoc) hz)
theorem News.lt {h₀ h : Heap} {L : Addr} {news : List (Addr × Obj)} (N : News h₀ L h news) : ∀ p ∈ news, p.1 ≠ h.objs.size := fun p hp => Nat.ne_of_lt (Heap.lt_size (N p hp).1)
set_option tactic.hygienic true in
theorem op_add : OpR F (binaryOp .Add) addM := by
 intro g W st s Q E a b A B ra rb G
 refine G.RE fun m cs R => ?_
 unfold addM at G
 split at G
 ·apply ra.eInt; intro _; apply rb.eInt; intro _; exact add_int (G.tk .int)
 ·rename_i x y
  refine sg7 G fun h G => ?_
  obtain ⟨h1, h2⟩ := Bool.and_eq_true_iff.mp h
  have h1' := Nat.le_of_ble_eq_true h1
  have h2' := Nat.le_of_ble_eq_true h2
  apply ra.eStr; intro _; apply rb.eStr; intro _
  refine PyProof.Rows.add_str (fun t' tk => ?_) (by rw [S_len, S_len, sizeLine_eq]; omega)
  rw [S_app]
  exact G.tk .str
 ·rename_i i j
  apply ra.eObj; intro x hx
  apply rb.eObj; intro y hy
  refine G.oE fun o st' e _ => ?_
  refine se10 e fun vs hi e => ?_
  refine se10 e fun us hj e => ?_
  refine se3 e fun hz e => ?_
  clear e
  have hz' := Nat.le_of_ble_eq_true hz
  refine ee44 (R.list hx hi) fun ws k pre post hcs hr _ _ => ?_
  refine ee44 (R.list hy hj) fun ws2 k2 pre2 post2 hcs2 hr2 _ _ => ?_
  refine add_lists R.F R.N (R.N.isList (n := k) (by rw [hcs]; exact List.mem_append_left _ (List.mem_append_right _ (.head _)))) (R.N.isList (n := k2) (by rw [hcs2]; exact List.mem_append_left _ (List.mem_append_right _ (.head _)))) (fun h' F' N' => ?_) (by rw [← hr.length, ← hr2.length, sizeLine_eq]; omega)
  exact G.out (st2 := ⟨st.m, st.μ ++ [.list (vs ++ us)]⟩) (b := .obj st.μ.length) (by simp only [hi, hj, hz]) Wd.le_snoc (R.newList F' N' (News.lt R.N) (hr.append hr2) (by rw [List.length_append]; omega)) (.obj R.idx)
 ·exact G.none.elim
def subM (a b : MV) : MM MV := match a, b with
 | .int i, .int j => MM.pure (.int (i - j))
 | _, _ => MM.fail
theorem op_sub : OpR F (binaryOp .Sub) subM := by
 intro g W st s Q E a b A B ra rb G
 unfold subM at G
 refine sg14 G fun _ _ qs0 qs1 G => ?_; subst qs0 qs1
 apply ra.eInt; intro _; apply rb.eInt; intro _; exact PyProof.Rows.sub_int (G.tk .int)
def powM (a b : MV) : MM MV := match a, b with
 | .int i, .int j => match decide (0 ≤ j) && decide (j ≤ 1000) && decide (i.natAbs < 1000) with
  | true => MM.pure (.int (i ^ j.toNat))
  | false => MM.fail
 | _, _ => MM.fail
theorem op_pow : OpR F (binaryOp .Pow) powM := by
 intro g W st s Q E a b A B ra rb G
 unfold powM at G
 refine sg14 G fun _ _ qs0 qs1 G => ?_; subst qs0 qs1
 refine sg7 G fun h G => ?_
 rw [Bool.and_eq_true, Bool.and_eq_true] at h
 have h1 := of_decide_eq_true h.1.1
 have h2 := of_decide_eq_true h.1.2
 have h3 := of_decide_eq_true h.2
 apply ra.eInt; intro _; apply rb.eInt; intro _; exact pow_int_small h1 (by omega) (by omega) (G.tk .int)
def modM (a b : MV) : MM MV := match a, b with
 | .int i, .int j => match decide (j = 0) with
  | true => MM.fail
  | false => MM.pure (.int (i.fmod j))
 | _, _ => MM.fail
theorem op_mod : OpR F (binaryOp .Mod) modM := by
 intro g W st s Q E a b A B ra rb G
 unfold modM at G
 refine sg14 G fun _ _ qs0 qs1 G => ?_; subst qs0 qs1; dsimp only at G
 split at G
 ·exact G.none.elim
 ·rename_i h
  apply ra.eInt; intro _; apply rb.eInt; intro _; exact PyProof.Rows.mod_int (of_decide_eq_false h) (G.tk .int)
def lenM (a : MV) : MM MV := match a with
 | .str x => match shortL x with
  | true => MM.pure (.int x.length)
  | false => MM.fail
 | .tup vs => MM.pure (.int vs.length)
 | .trees ts => MM.pure (.int ts.length)
 | .scr ns => MM.pure (.int ns.length)
 | .obj i => fun st => match st.μ[i]? with
  | some (.list vs) => some (.val (.int vs.length), st)
  | _ => none
 | _ => MM.fail
theorem op_len {g : FG} {W : Wd} {st : St} {s : Shared} {Q E : Value → Shared → Prop} {a : MV} {A : Value} (ra : VR g.w.params W a A) (G : Go F VV g W st s (lenM a) Q E) : wpAny (model pw_nm0149_01 g.w) g.A (call (.builtin "len") [A]) Q E s := by
 refine G.RE fun m cs R => ?_
 unfold lenM at G
 split at G
 ·refine sg7 G fun h G => ?_
  ·
   have h' := Nat.le_of_ble_eq_true h
   apply ra.eStr; intro _
   exact len_str (by rw [S_len]; omega) (by rw [S_len]; exact G.tk .int)
 ·apply ra.eTup; intro _ _ ha hz hr
  ·
   have ht : IsTup s.heap _ _ := R.N.isTup (List.mem_append_right _ (W.mem ha))
   exact len_tuple ht (by rw [List.size_toArray]; omega) (by rw [List.size_toArray, ← hr.length]; exact G.tk .int)
 ·apply ra.eTrees; intro _ _ _ ha hz hr
  ·exact len_list (R.N.isList (List.mem_append_right _ (W.mem ha))) (by rw [List.size_toArray]; omega) (by rw [List.size_toArray, hr.length]; exact G.tk .int)
 ·apply ra.eScr; intro _ ha
  ·
   refine ee13 (R.sc _ _ ha) fun vs hl hi hz => ?_
   have := hi.length
   exact len_list (hl.at fun o e => R.F.keep _ o e) (by rw [List.size_toArray]; omega) (by rw [List.size_toArray, this]; exact G.tk .int)
 ·apply ra.eObj; intro x hx
  ·
   refine G.oE fun o st' e _ => ?_
   refine se10 e fun vs hi e => ?_
   clear e
   refine ee44 (R.list hx hi) fun ws k pre post hcs hr hz _ => ?_
   have := hr.length
   refine len_list (R.N.isList (n := k) (by rw [hcs]; exact List.mem_append_left _ (List.mem_append_right _ (.head _)))) (by rw [List.size_toArray]; omega) ?_
   rw [List.size_toArray, ← this]
   exact G.out (st2 := st) (b := .int vs.length) (by simp only [hi]) .rfl' R .int
 ·exact G.none.elim
end
section
variable {F : FS}
def itemM (o i : MV) : MM MV := match o, i with
 | .obj a, .int k => fun st => match st.μ[a]? with
  | some (.list vs) => match seqIndex? k vs.length with
   | some j => match vs[j]? with
    | some v => some (.val v, st)
    | none => none
   | none => none
  | _ => none
 | .tup vs, .int k => match seqIndex? k vs.length with
  | some j => match vs[j]? with
   | some v => MM.pure v
   | none => MM.fail
  | none => MM.fail
 | .trees ts, .int k => match seqIndex? k ts.length with
  | some j => match ts[j]? with
   | some t => MM.pure (.tree t)
   | none => MM.fail
  | none => MM.fail
 | .scr ns, .int k => match decide (0 ≤ k) with
  | true => match ns[k.toNat]? with
   | some n => MM.pure (.int n)
   | none => MM.fail
  | false => MM.fail
 | .str x, .int k => match decide (0 ≤ k) && shortL x with
  | true => match x[k.toNat]? with
   | some c => MM.pure (.str [c])
   | none => MM.fail
  | false => MM.fail
 | .obj a, .str k => fun st => match st.μ[a]? with
  | some (.dict ks) => match kget ks k with
   | some v => some (.val v, st)
   | none => none
  | _ => none
 | _, _ => MM.fail
theorem seqIndex_is {k : Int} {n j : Nat} (h : seqIndex? k n = some j) : j < n ∧ (k < 0 → k + n = j) ∧ (0 ≤ k → k = j) := by
 unfold seqIndex? at h
 split at h
 ·dsimp only at h
  split at h
  ·obtain rfl := Option.some.inj h
   rename_i h1 h2
   rw [Bool.and_eq_true] at h2
   have a := of_decide_eq_true h2.1
   have b := of_decide_eq_true h2.2
   omega
  ·exact nsE h
 ·dsimp only at h
  split at h
  ·obtain rfl := Option.some.inj h
   rename_i h1 h2
   rw [Bool.and_eq_true] at h2
   have a := of_decide_eq_true h2.1
   have b := of_decide_eq_true h2.2
   omega
  ·exact nsE h
theorem seqIndex_nat {k : Int} {n : Nat} (h0 : 0 ≤ k) (h : k.toNat < n) : seqIndex? k n = some k.toNat := by
 unfold seqIndex?
 simp only [show ¬ k < 0 by omega, if_false]
 exact if_pos (by simp; omega)
theorem item_at {w : World} {A : Around} {E : Value → Shared → Prop} {s : Shared} {n : Str} {p : Pos} {slice : PySem.Expr} {l : Addr} {vs : List Value} {k : Int} {u : Tok} {j : Nat} {x : Value} {Q : Value → Shared → Prop} (hl : s.heap.IsList l vs.toArray) (hz : vs.length ≤ 16777216) (hj : seqIndex? k vs.length = some j) (hx : vs[j]? = some x) (h : Q x s)
  (hs : ∀ o i, subscripted slice false o i = operate [o, i] (getItem o i)) : wpAny (model pw_nm0149_01 w) A (subscriptTail (.Name n p) slice (.ref l) (.int k u)) Q E s := by
 refine ee03 (seqIndex_is hj) fun h1 h2 h3 => ?_
 by_cases hk : k < 0
 ·have e := h2 hk
  exact subscriptTail_builtin hl.typeIs slot_list_getitem.lookup (wpAny_getItem_list_neg hl hk (by rw [List.size_toArray]; omega) (by omega) (by rw [List.size_toArray, e, Int.toNat_natCast]; simpa using hx) h) (hs _ _) fun _ => rfl
 ·have e := h3 (by omega)
  exact subscriptTail_builtin hl.typeIs slot_list_getitem.lookup (wpAny_getItem_list hl (by omega) (by omega) (by rw [e, Int.toNat_natCast]; simpa using hx) h) (hs _ _) fun _ => rfl
theorem TsAt.at {P : Params} {R : List (Addr × Obj)} : ∀ {vs : List Value} {ts : List Tr} {i : Nat} {t : Tr}, TsAt P R vs ts → ts[i]? = some t → ∃ v, vs[i]? = some v ∧ TAt P R v t
 | _, _, _, _, .nil, h => nomatch h
 | _, _, 0, _, .cons a _, h => by obtain rfl := Option.some.inj h; exact ⟨_, rfl, a⟩
 | _, _, i + 1, _, .cons _ b, h => b.at (i := i) h
theorem IntsAre.at {vs : List Value} {ns : List Int} (h : IntsAre vs ns) : ∀ {i : Nat} {n : Int}, ns[i]? = some n → ∃ t, vs[i]? = some (.int n t) := by
 induction h with
 | nil => intro i n h; exact nsE h
 | cons n t _ ih =>
  intro i m h
  cases i with
  | zero => obtain rfl := Option.some.inj h; exact ⟨_, rfl⟩
  | succ i => exact ih h
set_option tactic.hygienic true in
theorem op_item {n : Str} {p : Pos} {slice : PySem.Expr} (hs : ∀ o i, subscripted slice false o i = operate [o, i] (getItem o i)) : OpR F (subscriptTail (.Name n p) slice) itemM := by
 intro g W st s Q E a b A B ra rb G
 refine G.RE fun m cs R => ?_
 unfold itemM at G
 split at G
 ·rename_i i k
  apply rb.eInt; intro _
  apply ra.eObj; intro x hx
  refine G.oE fun o st' e _ => ?_
  refine se10 e fun vs hi e => ?_
  refine se22 e fun j hj e => ?_
  refine se8 e fun v hv e => ?_
  clear e
  refine ee44 (R.list hx hi) fun ws kk pre post hcs hr hz _ => ?_
  refine ee12 (hr.get hv) fun V hV rV => ?_
  refine item_at (R.N.isList (n := kk) (by rw [hcs]; exact List.mem_append_left _ (List.mem_append_right _ (.head _)))) (by rw [← hr.length]; omega) (by rw [← hr.length]; exact hj) hV ?_ hs
  exact G.out (st2 := st) (b := v) (by simp only [hi, hj, hv]) .rfl' R rV
 ·rename_i vs k
  apply rb.eInt; intro _
  apply ra.eTup; intro _ _ ha hz hr
  refine sg19 G fun j hj G => ?_
  refine sg6 G fun v hv G => ?_
  refine ee12 (hr.get hv) fun V hV rV => ?_
  refine ee03 (seqIndex_is hj) fun h1 h2 h3 => ?_
  have := hr.length
  exact item_tupleL (R.N.isTup (List.mem_append_right _ (W.mem ha))) (by omega) (by omega) (by rw [← hr.length]; exact hj) hV (G.ret rV) (hs _ _) (fun _ => rfl)
 ·rename_i ts k
  apply rb.eInt; intro _
  apply ra.eTrees; intro _ _ _ ha hz hr
  refine sg19 G fun j hj G => ?_
  refine sg21 G fun t ht G => ?_
  refine ee12 (hr.at ht) fun V hV rV => ?_
  exact item_at (R.N.isList (List.mem_append_right _ (W.mem ha))) hz (by rw [hr.length]; exact hj) hV (G.ret (.tree rV)) hs
 ·rename_i ns k
  apply rb.eInt; intro _
  apply ra.eScr; intro _ ha
  refine sg7 G fun hk G => ?_
  have hk' := of_decide_eq_true hk
  refine sg20 G fun n hn G => ?_
  refine ee13 (R.sc _ _ ha) fun vs hl hi hz => ?_
  obtain ⟨t, ht⟩ := IntsAre.at hi hn
  have hlt : k.toNat < vs.length := (List.getElem?_eq_some_iff.mp ht).1
  have hle := hi.length
  exact item_at (hl.at fun o e => R.F.keep _ o e) (by omega) (seqIndex_nat hk' hlt) ht (G.ret .int) hs
 ·rename_i x k
  apply rb.eInt; intro _
  apply ra.eStr; intro _
  refine sg7 G fun hk G => ?_
  obtain ⟨hk1, hk2⟩ := Bool.and_eq_true_iff.mp hk
  have hk1' := of_decide_eq_true hk1
  have hk2' := Nat.le_of_ble_eq_true hk2
  refine sg19 G fun c hc G => ?_
  have hlt : k.toNat < x.length := (List.getElem?_eq_some_iff.mp hc).1
  have e : Txt.item (S x) k = S [c] := by
   have e1 : seqIndex? k (S x).length = some k.toNat := seqIndex_nat hk1' (by rw [S_len]; exact hlt)
   unfold Txt.item Txt.charAt
   rw [e1]
   show (⟨#[((S x).cps[k.toNat]?).getD 0]⟩ : Str) = _
   simp [S, hc]
  refine item_str (fitsSsize_of (N := 9223372036854775808) (by omega) (by omega) (Int.le_refl _)) (by rw [S_len]; omega) (by rw [S_len]; omega) (fun _ => ?_) (hs _ _) (fun _ => rfl)
  rw [e]; exact G.tk .str
 ·rename_i i k
  apply rb.eStr; intro _
  apply ra.eObj; intro x hx
  refine G.oE fun o st' e _ => ?_
  refine se12 e fun ks hi e => ?_
  refine se8 e fun v hv e => ?_
  clear e
  refine ee46 (R.dict hx hi) fun od kws pre post lo qe5 hk hz hd _ => ?_; subst qe5
  refine ee12 ((hk.get (k := k)).1 v hv) fun V hV rV => ?_
  have hm : (x, od) ∈ (pre ++ (x, od) :: post) ++ W.all := List.mem_append_left _ (List.mem_append_right _ (.head _))
  exact kda_item R.N hm hd isStrOf_S hV (G.out (st2 := st) (b := v) (by simp only [hi, hv]) .rfl' R rV) (hs _ _) (fun _ => rfl)
 ·exact G.none.elim
theorem Ev.sub {value slice : PySem.Expr} {fv fi : MM MV} {f : MV → MV → MM MV} {pos : Pos} (hv : EvE F value fv) (hi : EvE F slice fi) (ho : ∀ {n : Str} {p : Pos}, OpR F (subscriptTail (.Name n p) slice) f) : EvE F (.Subscript value slice pos) (fv.bind fun a => fi.bind fun b => f a b) := fun g W st s Q E G =>
 Subscript_ (hv.step G fun W1 st1 h1 tk1 a A le ra G1 => hi.step G1 fun W2 st2 h2 tk2 b B le2 rb G2 => kba_turn (value' := .Name "" default) (fun _ => rfl) (ho (ra.mono le2) rb G2))
theorem Ev.item {value slice : PySem.Expr} {fv fi : MM MV} {pos : Pos} (hv : EvE F value fv) (hi : EvE F slice fi) (hs : ∀ o i, subscripted slice false o i = operate [o, i] (getItem o i) := by intro _ _; with_unfolding_all rfl) : EvE F (.Subscript value slice pos) (fv.bind fun a => fi.bind fun b => itemM a b) := Ev.sub hv hi (op_item hs)
def tupM (vs : List MV) : MM MV := match Nat.ble vs.length 1000 with
 | true => MM.pure (.tup vs)
 | false => MM.fail
theorem op_tup {g : FG} {W : Wd} {st : St} {s : Shared} {Q E : Value → Shared → Prop} {vs : List MV} {Vs : List Value} (rs : VRs g.w.params W vs Vs) (G : Go F VV g W st s (tupM vs) Q E) : wpAny (model pw_nm0149_01 g.w) g.A (newTuple Vs) Q E s := by
 refine G.RE fun m cs R => ?_
 unfold tupM at G
 refine sg7 G fun h G => ?_
 have h' := Nat.le_of_ble_eq_true h
 have hl := rs.length
 refine kup_newTuple R.F R.N (fun D h' F' N' l => ?_) (by rw [sizeLine_eq]; omega)
 exact G.out rfl Wd.le_froz (R.froz (p := (D, tupO Vs)) F' N' (fun q hq => Nat.ne_of_lt (l q hq))) (.tup (.head _) (by omega) (rs.mono Wd.le_froz))
theorem Ev.tup {elts : List PySem.Expr} {fa : MM (List MV)} {k : Nat} {pos : Pos} (ha : EvA F elts fa) : EvE F (.Tuple elts k pos) (fa.bind tupM) := fun g W st s Q E G =>
 Tuple_ ((ha pos).step G fun W1 st1 h1 tk1 vs Vs le rvs G1 => op_tup rvs G1)
def listM (vs : List MV) : MM MV := match Nat.ble vs.length 1000 with
 | true => fun st => some (.val (.obj st.μ.length), ⟨st.m, st.μ ++ [.list vs]⟩)
 | false => MM.fail
theorem op_list {g : FG} {W : Wd} {st : St} {s : Shared} {Q E : Value → Shared → Prop} {vs : List MV} {Vs : List Value} (rs : VRs g.w.params W vs Vs) (G : Go F VV g W st s (listM vs) Q E) : wpAny (model pw_nm0149_01 g.w) g.A (newList Vs) Q E s := by
 refine G.RE fun m cs R => ?_
 unfold listM at G
 refine sg7 G fun h G => ?_
 have h' := Nat.le_of_ble_eq_true h
 have hl := rs.length
 refine newList_K R.F R.N (fun l h' F' N' lt => ?_) (by rw [sizeLine_eq]; omega)
 exact G.out (st2 := ⟨st.m, st.μ ++ [.list vs]⟩) (b := .obj st.μ.length) rfl Wd.le_snoc (R.newList F' N' (fun q hq => Nat.ne_of_lt (lt q hq)) rs (by omega)) (.obj R.idx)
theorem Ev.list {elts : List PySem.Expr} {fa : MM (List MV)} {pos : Pos} (ha : EvA F elts fa) : EvE F (.List elts pos) (fa.bind listM) := fun g W st s Q E G =>
 List_ ((ha pos).step G fun W1 st1 h1 tk1 vs Vs le rvs G1 => op_list rvs G1)
abbrev OpB (F : FS) (fv : Value) (f : List MV → MM MV) : Prop := ∀ {g W st s Q E vs Vs}, VRs g.w.params W vs Vs → Go F VV g W st s (f vs) Q E → wpAny (model pw_nm0149_01 g.w) g.A (call fv Vs) Q E s
theorem Ev.callB {fe e : PySem.Expr} {r : List PySem.Expr} {id : String} {f : List MV → MM MV} {fa : MM (List MV)} {pos : Pos} (hfe : EvE F fe (MM.pure (.con (.builtin id)))) (ha : EvA F (e :: r) fa) (ho : OpB F (.builtin id) f)
  (h1 : ∀ env, starEach (e :: r) env = (false, eval e env) :: starEach r env := by intro _; rfl) (h2 : ∀ env, (backTo pos (starEach r env)).any (·.1) = false := by intro _; rfl)
  (hs : ∀ env, eval (.Call fe (e :: r) [] pos) env = (do callWith pos (← eval fe env) [] (backTo pos (starEach (e :: r) env)) (backToKw pos (keywordEach [] env))) := by intro _; rfl) : EvE F (.Call fe (e :: r) [] pos) (fa.bind f) := fun g W st s Q E G =>
 Call_ (hfe.stepE (k := fun _ => fa.bind f) G fun W1 st1 h1' tk1 v V le rv ev G1 => by
  cases ev
  apply rv.eCon
  exact callWith_builtin1 ((ha pos).step G1 fun W2 st2 h2 tk2 vs Vs le2 rvs G2 => ho rvs G2) (h1 _) (h2 _)) (hs _)
theorem Ev.callT {fe e : PySem.Expr} {r : List PySem.Expr} {T : String} {f : List MV → MM MV} {fa : MM (List MV)} {pos : Pos} (hfe : EvE F fe (MM.pure (.con (.type T)))) (ha : EvA F (e :: r) fa) (ho : OpB F (.type T) f)
  (h1 : ∀ env, starEach (e :: r) env = (false, eval e env) :: starEach r env := by intro _; rfl) (h2 : ∀ env, (backTo pos (starEach r env)).any (·.1) = false := by intro _; rfl)
  (hs : ∀ env, eval (.Call fe (e :: r) [] pos) env = (do callWith pos (← eval fe env) [] (backTo pos (starEach (e :: r) env)) (backToKw pos (keywordEach [] env))) := by intro _; rfl) : EvE F (.Call fe (e :: r) [] pos) (fa.bind f) := fun g W st s Q E G =>
 Call_ (hfe.stepE (k := fun _ => fa.bind f) G fun W1 st1 h1' tk1 v V le rv ev G1 => by
  cases ev
  apply rv.eCon
  exact PyProof.Rows.callWith_type1 ((ha pos).step G1 fun W2 st2 h2 tk2 vs Vs le2 rvs G2 => ho rvs G2) (h1 _) (h2 _)) (hs _)
def one (f : MV → MM MV) : List MV → MM MV
 | [v] => f v
 | _ => MM.fail
theorem op_len1 : OpB F (.builtin "len") (one lenM) := by
 intro g W st s Q E vs Vs rs G
 unfold one at G
 refine sg18 G fun _ qs0 G => ?_; subst qs0
 apply rs.eCons; intro _ _ a r
 apply r.eNil; exact op_len a G
def tupOfM (v : MV) : MM MV := match v with
 | .obj i => fun st => match st.μ[i]? with
  | some (.list vs) => some (.val (.tup vs), st)
  | _ => none
 | _ => MM.fail
theorem op_tupOf : OpB F (.type "tuple") (one tupOfM) := by
 intro g W st s Q E vs Vs rs G
 refine G.RE fun m cs R => ?_
 unfold one at G
 refine sg18 G fun _ qs0 G => ?_; subst qs0
 apply rs.eCons; intro _ _ a r
 apply r.eNil
 unfold tupOfM at G
 refine sg5 G fun _ qs0 G => ?_; subst qs0
 apply a.eObj; intro x hx
 refine G.oE fun o st' e _ => ?_
 refine se10 e fun us hi e => ?_
 clear e
 refine ee44 (R.list hx hi) fun ws kk pre post hcs hr hz _ => ?_
 have hl := hr.length
 refine call_tuple_list (R.N.isList (n := kk) (by rw [hcs]; exact List.mem_append_left _ (List.mem_append_right _ (.head _)))) (fun h' hk => ?_) (by rw [sizeLine_eq, List.size_toArray]; omega)
 have F' : Fr g.h₀ g.L h' m := R.F.keeps hk
 have N' : News g.h₀ g.L h' (cs ++ W.all) := fun p hp => ⟨hk _ _ (R.N p hp).1, (R.N p hp).2⟩
 refine G.out (st2 := st) (b := .tup us) (by simp only [hi]) Wd.le_froz (R.froz (p := (h'.objs.size, tupO ws)) (F'.push _) (N'.push F' _) (News.lt N')) (.tup (.head _) (by omega) (hr.mono Wd.le_froz))
end
section
variable {F : FS}
theorem ne_of_nodup {d : Addr} {o : Obj} : ∀ {pre post : List (Addr × Obj)}, ((pre ++ (d, o) :: post).map (·.1)).Nodup → (∀ p ∈ pre, p.1 ≠ d) ∧ ∀ p ∈ post, p.1 ≠ d
 | [], post, h => ⟨fun p hp => (nomatch hp), fun p hp e => (List.nodup_cons.mp h).1 (by rw [← e]; exact List.mem_map_of_mem (f := (·.1)) hp)⟩
 | q :: pre, post, h => by
  obtain ⟨h1, h2⟩ := List.nodup_cons.mp h
  obtain ⟨a, b⟩ := ne_of_nodup h2
  refine ⟨fun p hp => ?_, b⟩
  rcases List.mem_cons.mp hp with rfl | hp
  ·exact fun e => h1 (by
    show p.1 ∈ List.map (·.1) (pre ++ (d, o) :: post)
    rw [e, List.map_append, List.map_cons]
    exact List.mem_append_right _ (.head _))
  ·exact a p hp
theorem Rel.ap {g : FG} {ns : List Str} {W : Wd} {st : St} {h : Heap} {m : Str → Option Value} {pre post : List (Addr × Obj)} {d : Addr} {o : Obj} (R : Rel g ns W st h m (pre ++ (d, o) :: post)) : (∀ p ∈ pre, p.1 ≠ d) ∧ (∀ p ∈ post ++ W.all, p.1 ≠ d) ∧ News g.h₀ g.L h (pre ++ (d, o) :: (post ++ W.all)) := by
 have nd := R.nd
 have N := R.N
 rw [List.append_assoc, List.cons_append] at nd N
 exact ⟨(ne_of_nodup nd).1, (ne_of_nodup nd).2, N⟩
theorem Rel.put {g : FG} {ns : List Str} {W : Wd} {st : St} {h h' : Heap} {m : Str → Option Value} {pre post : List (Addr × Obj)} {d : Addr} {o o' : Obj} {μ' : List MO} (R : Rel g ns W st h m (pre ++ (d, o) :: post)) (F' : Fr g.h₀ g.L h' m) (N' : News g.h₀ g.L h' (pre ++ (d, o') :: (post ++ W.all))) (hc : CellsR g.w W μ' W.ρ (pre ++ (d, o') :: post)) :
  Rel g ns W ⟨st.m, μ'⟩ h' m (pre ++ (d, o') :: post) := by
 have nd := R.nd
 refine ⟨F', ?_, ?_, R.loc, hc, R.sc⟩
 ·rw [List.append_assoc, List.cons_append]; exact N'
 ·rw [List.append_assoc, List.cons_append, List.map_append, List.map_cons] at nd ⊢
  exact nd
def appendM (vs : List MV) : MM MV := match vs with
 | [.obj i, v] => fun st => match st.μ[i]? with
  | some (.list us) => match Nat.ble us.length 10000 with
   | true => some (.val .none, ⟨st.m, st.μ.set i (.list (us ++ [v]))⟩)
   | false => none
  | _ => none
 | _ => MM.fail
theorem op_append : OpB F (.builtin "list.append") appendM := by
 intro g W st s Q E vs Vs rs G
 refine G.RE fun m cs R => ?_
 unfold appendM at G
 refine sg25 G fun i v qs0 G => ?_; subst qs0
 apply rs.eCons; intro _ _ a r
 apply r.eCons; intro _ _ b r
 apply r.eNil
 apply a.eObj; intro x hx
 refine G.oE fun o st' e _ => ?_
 refine se10 e fun us hi e => ?_
 refine se3 e fun hz e => ?_
 clear e
 have hz' := Nat.le_of_ble_eq_true hz
 refine ee44 (R.list hx hi) fun ws k pre post qe4 hr _ hset => ?_; subst qe4
 have hl := hr.length
 refine ee03 R.ap fun n1 n2 N => ?_
 refine append_in R.F N n1 n2 (fun h' F' N' => ?_) (by rw [sizeLine_eq]; omega)
 exact G.out (st2 := ⟨st.m, st.μ.set i (.list (us ++ [v]))⟩) (b := .none) (by simp only [hi, hz]) .rfl' (R.put F' N' (hset _ _ _ (hr.append (.cons b .nil)) (by simp; omega))) .none
def extendM (vs : List MV) : MM MV := match vs with
 | [.obj i, .obj j] => fun st => match st.μ[i]? with
  | some (.list us) => match st.μ[j]? with
   | some (.list ts) => match Nat.ble (us.length + ts.length) 10000 with
    | true => some (.val .none, ⟨st.m, st.μ.set i (.list (us ++ ts))⟩)
    | false => none
   | _ => none
  | _ => none
 | _ => MM.fail
theorem op_extend : OpB F (.builtin "list.extend") extendM := by
 intro g W st s Q E vs Vs rs G
 refine G.RE fun m cs R => ?_
 unfold extendM at G
 refine sg24 G fun i j qs0 G => ?_; subst qs0
 apply rs.eCons; intro _ _ a r
 apply r.eCons; intro _ _ b r
 apply r.eNil
 apply a.eObj; intro x hx
 apply b.eObj; intro y hy
 refine G.oE fun o st' e _ => ?_
 refine se10 e fun us hi e => ?_
 refine se10 e fun ts hj e => ?_
 refine se3 e fun hz e => ?_
 clear e
 have hz' := Nat.le_of_ble_eq_true hz
 refine ee44 (R.list hy hj) fun ws2 k2 pre2 post2 hcs2 hr2 _ _ => ?_
 have hb := (R.N (y, _root_.PySem.W.listOf ws2.toArray k2) (by rw [hcs2]; exact List.mem_append_left _ (List.mem_append_right _ (.head _)))).1
 refine ee44 (R.list hx hi) fun ws k pre post qe4 hr _ hset => ?_; subst qe4
 have hl := hr.length
 have hl2 := hr2.length
 refine ee03 R.ap fun n1 n2 N => ?_
 refine extend_in R.F N n1 n2 hb (fun h' n' F' N' => ?_) (by rw [sizeLine_eq, List.size_toArray]; omega)
 exact G.out (st2 := ⟨st.m, st.μ.set i (.list (us ++ ts))⟩) (b := .none) (by simp only [hi, hj, hz]) .rfl' (R.put F' N' (hset _ _ _ (hr.append hr2) (by simp; omega))) .none
def isList (v : MV) : MM Unit := match v with
 | .obj i => fun st => match st.μ[i]? with
  | some (.list _) => some (.val (), st)
  | _ => none
 | _ => MM.fail
noncomputable abbrev QB (id : String) (O : Value) : Params → Wd → Unit → Value × List Value → Prop := fun _ _ _ x => x = (Value.builtin id, [O])
theorem op_listMeth {name : Str} {id : String} {g : FG} {W : Wd} {st : St} {s : Shared} {Q : Value × List Value → Shared → Prop} {E : Value → Shared → Prop} {pl : Sem Bool} {o : MV} {O : Value} (sl : Slot "list" name id) (ty : typeOf (.builtin id) = pure (.type "method_descriptor")) (ro : VR g.w.params W o O)
  (G : Go F (QB id O) g W st s (isList o) Q E) : wpAny (model pw_nm0149_01 g.w) g.A (getMethod O name pl) Q E s := by
 refine G.RE fun m cs R => ?_
 unfold isList at G
 refine sg5 G fun _ qs0 G => ?_; subst qs0
 refine ee12 ro.iObj fun x qe1 hx => ?_; subst qe1
 refine G.oE fun ou st' e _ => ?_
 refine se10 e fun vs hi e => ?_
 clear e
 refine ee44 (R.list hx hi) fun ws k pre post hcs hr _ _ => ?_
 exact kl_method R.N (by rw [hcs]; exact List.mem_append_left _ (List.mem_append_right _ (.head _))) sl ty (G.out (st2 := st) (b := ()) (by simp only [hi]) .rfl' R rfl)
theorem Ev.listMeth {o e : PySem.Expr} {r : List PySem.Expr} {name : Str} {id : String} {f : List MV → MM MV} {fo : MM MV} {fa : MM (List MV)} {apos pos : Pos} (ho : EvE F o fo) (ha : EvA F (e :: r) fa) (sl : Slot "list" name id) (ty : typeOf (.builtin id) = pure (.type "method_descriptor")) (hop : OpB F (.builtin id) f) (pl : Env → Sem Bool)
  (h1 : ∀ env, starEach (e :: r) env = (false, eval e env) :: starEach r env := by intro _; rfl) (h2 : ∀ env, (backTo pos (starEach r env)).any (·.1) = false := by intro _; rfl)
  (hs : ∀ env, eval (.Call (.Attribute o name apos) (e :: r) [] pos) env = (do
   let ov ← eval o env
   standAt apos.atName
   let (f, first) ← holding [ov] (getMethod ov name (pl env))
   callWith pos f first (backTo pos (starEach (e :: r) env)) []) := by intro _; rfl) : EvE F (.Call (.Attribute o name apos) (e :: r) [] pos) (fo.bind fun o => (isList o).bind fun _ => fa.bind fun vs => f (o :: vs)) := fun g W st s Q E G =>
 MethodCall_ (pl := pl g.env) (ho.step G fun W1 st1 h1' tk1 o O le ro G1 => G1.then (RR := QB id O) (op_listMeth sl ty ro) fun W2 st2 h2' tk2 _ x le2 hx G2 => by
  cases hx
  exact callWith_method1 ((ha pos).step G2 fun W3 st3 h3 tk3 vs Vs le3 rvs G3 => hop (.cons ((ro.mono le2).mono le3) rvs) G3) (h1 _) (h2 _)) (hs _)
theorem stored_is {P : Params} {W : Wd} {k : List Nat} {v : MV} {V : Value} (hv : VR P W v V) : ∀ {ks : List (List Nat × MV)} {kws : List (Str × Value)}, KsR P W ks kws → (kws.map (·.1)).Nodup → KsR P W (kput ks k v) (stored kws (S k) V)
 | _, _, .nil, _ => .cons hv .nil
 | _, _, .cons (k := q) (v := u) (V := U) (ks := ks) (kws := kws) hu r, nd => by
  have ih := stored_is hv r (List.nodup_cons.mp nd).2 (k := k)
  have nm : S q ∉ kws.map (·.1) := (List.nodup_cons.mp nd).1
  unfold kput
  dsimp only
  cases h : beqL q k with
  | true =>
   have e := beqL_true.mp h
   subst e
   have : stored ((S q, U) :: kws) (S q) V = (S q, V) :: kws := by
    unfold stored
    rw [List.any_cons, decide_eq_true rfl, Bool.true_or, if_pos rfl, List.map_cons, if_pos rfl]
    congr 1
    exact (List.map_congr_left (g := id) fun p hp => if_neg fun (e : p.1 = S q) => nm (e ▸ List.mem_map_of_mem hp)).trans (List.map_id _)
   rw [this]
   exact .cons hv r
  | false =>
   have ne : S q ≠ S k := fun x => by
    have := beqL_true.mpr (S_inj x)
    rw [h] at this; exact ftE this
   have : stored ((S q, U) :: kws) (S k) V = (S q, U) :: stored kws (S k) V := by
    unfold stored
    rw [List.any_cons, decide_eq_false ne, Bool.false_or, List.map_cons, if_neg ne]
    split <;> rfl
   rw [this]
   exact .cons hu ih
def setItemM (v o k : MV) : MM Unit := match o, k with
 | .obj i, .str x => fun st => match st.μ[i]? with
  | some (.dict ks) => match Nat.ble ks.length 900 with
   | true => some (.val (), ⟨st.m, st.μ.set i (.dict (kput ks x v))⟩)
   | false => none
  | _ => none
 | _, _ => MM.fail
theorem kput_len : ∀ (ks : List (List Nat × MV)) (k : List Nat) (v : MV), (kput ks k v).length ≤ ks.length + 1
 | [], _, _ => Nat.le_refl _
 | p :: r, k, v => by
  unfold kput
  split
  ·exact Nat.le_succ _
  ·exact Nat.succ_le_succ (kput_len r k v)
theorem KsR.length {P : Params} {W : Wd} : ∀ {ks : List (List Nat × MV)} {kws : List (Str × Value)}, KsR P W ks kws → ks.length = kws.length
 | _, _, .nil => rfl
 | _, _, .cons _ r => congrArg (· + 1) r.length
theorem op_setItem {g : FG} {W : Wd} {st : St} {s : Shared} {Q : Unit → Shared → Prop} {E : Value → Shared → Prop} {v o k : MV} {V O K : Value} (rv : VR g.w.params W v V) (ro : VR g.w.params W o O) (rk : VR g.w.params W k K) (G : Go F UU g W st s (setItemM v o k) Q E) : wpAny (model pw_nm0149_01 g.w) g.A (setItem O K V) Q E s := by
 refine G.RE fun m cs R => ?_
 unfold setItemM at G
 refine sg23 G fun i x qs0 qs1 G => ?_; subst qs0 qs1
 apply rk.eStr; intro _
 apply ro.eObj; intro d hd
 refine G.oE fun ou st' e _ => ?_
 refine se12 e fun ks hi e => ?_
 refine se3 e fun hz e => ?_
 clear e
 have hz' := Nat.le_of_ble_eq_true hz
 refine ee46 (R.dict hd hi) fun od kws pre post lo qe5 hk _ hdd hset => ?_; subst qe5
 refine ee03 R.ap fun n1 n2 N => ?_
 have hm := N (d, od) (List.mem_append_right _ (.head _))
 have hl := hk.length
 refine wpAny_setItem_pairs isStrOf_S (Heap.dictOf_iff.mpr ⟨od, hm.1, hdd⟩) (fun h' hmm hs => ?_) (by rw [sizeLine_eq]; omega)
 refine ee12 (Heap.dictOf_iff.mp hmm) fun o' ho' hd' => ?_
 refine ee25 (id hdd) fun _ _ _ _ _ _ nd => ?_
 have := kput_len ks x v
 exact G.out (st2 := ⟨st.m, st.μ.set i (.dict (kput ks x v))⟩) (b := ()) (by simp only [hi, hz]) .rfl' (R.put (R.F.change hs hm.2.1 hm.2.2) (N.setIn n1 n2 hs ho') (hset _ _ _ (stored_is rv hk nd) (by omega) hd')) trivial
theorem EvS.assignItem {e o i : PySem.Expr} {fv fo fi : MM MV} {pos' pos : Pos} (hv : EvE F e fv) (ho : EvE F o fo) (hi : EvE F i fi)
  (hs : ∀ env, swapsWith e (some (.Subscript o i pos')) pos.line env = pure false := by intro _; rfl) : EvS F (.Assign [.Subscript o i pos'] e pos) (fv.bind fun v => fo.bind fun o => fi.bind fun k => (setItemM v o k).bind fun _ => MM.pure .next) := fun g W st s Q E G =>
 wpAny_Assign_Subscript (hv.step G fun W1 st1 h1 tk1 v V le rv G1 => ho.step G1 fun W2 st2 h2 tk2 o O le2 ro G2 => hi.step G2 fun W3 st3 h3 tk3 k K le3 rk G3 =>
  G3.then (RR := UU) (op_setItem ((rv.mono le2).mono le3) (ro.mono le3) rk) fun W4 st4 h4 tk4 _ _ le4 _ G4 => G4.ret .next) (hs _)
def dict0M : MM MV := fun st => some (.val (.obj st.μ.length), ⟨st.m, st.μ ++ [.dict []]⟩)
theorem Ev.dict0 {pos : Pos} : EvE F (.Dict [] [] pos) dict0M := fun g W st s Q E G => by
 refine G.RE fun m cs R => ?_
 refine newDict_K (prog := pw_nm0149_01) (w := g.w) R.F R.N G.S.T.nolimit fun d h' o F' N' l lo hd _ _ _ => ?_
 exact G.out (st2 := ⟨st.m, st.μ ++ [.dict []]⟩) (b := .obj st.μ.length) rfl Wd.le_snoc (R.snoc F' N' (by simp) (fun p hp q hq => by rw [List.mem_singleton.mp hq]; exact Nat.ne_of_lt (l p hp)) (.dict lo .nil (Nat.zero_le _) hd)) (.obj R.idx)
end
section
variable {F : FS}
def whileM (ft : MM Bool) (fb : MM MF) : Nat → MM MF
 | 0 => MM.fail
 | n + 1 => ft.bind fun b => match b with
  | true => fb.bind fun f => match f with
   | .ret v => MM.pure (.ret v)
   | .brk => MM.pure .next
   | _ => whileM ft fb n
  | false => MM.pure .next
theorem EvS.while {t : PySem.Expr} {b : List Stmt} {ft : MM Bool} {fb : MM MF} {pos : Pos} (ht : EvT F t ft) (hb : EvB F b fb) (hlp : F.lp = true) (n : Nat) : EvS F (.While t b [] pos) (whileM ft fb n) := by
 intro g W st s Q E G
 have hE := G.cs.pe hlp
 refine wpAny_While (codeAny_whileLoop (fun k s' => ∃ W1 st1, Go F FlR g W1 st1 s' (whileM ft fb k) Q E) ?_ n ⟨W, st, G⟩)
 rintro k s' ⟨W1, st1, G1⟩
 cases k with
 | zero => exact G1.none.elim
 | succ k =>
  refine wpAny_mono (ht.step (Q := fun c s2 => if c = true then wpAny (model pw_nm0149_01 g.w) g.A (execs b g.env) (fun f s3 => match f with
   | .ret v => Q (.ret v) s3
   | .brk => Q .next s3
   | _ => ∃ W1 st1, Go F FlR g W1 st1 s3 (whileM ft fb k) Q E) E s2 else Q .next s2) G1 fun W2 st2 h2 tk2 c c' le hc G2 => ?_) (fun c s2 h2 => ?_) hE
  ·cases hc
   cases c with
   | true =>
    rw [if_pos rfl]
    exact hb.step G2 fun W3 st3 h3 tk3 f f' le3 hf G3 => by
     cases hf with
     | next => exact ⟨W3, st3, G3⟩
     | cont => exact ⟨W3, st3, G3⟩
     | ret hv => exact G3.ret (.ret hv)
     | brk => exact G3.ret .next
   | false => rw [if_neg Bool.false_ne_true]; exact G2.ret .next
  ·cases c with
   | false =>
    simp only [Bool.false_eq_true, if_false] at h2 ⊢
    exact wpAny_execs_nil h2
   | true =>
    simp only [if_true] at h2 ⊢
    refine wpAny_mono h2 (fun f s3 h3 => ?_) hE
    cases f with
    | next => exact ⟨k, Nat.lt_succ_self _, h3⟩
    | cont => exact ⟨k, Nat.lt_succ_self _, h3⟩
    | brk => exact h3
    | ret v => exact h3
end
section
variable {F : FS}
inductive Src (g : FG) (W : Wd) (news : List (Addr × Obj)) (h : Heap) (items : List MV) (I : Addr) : Prop
 | mk (fp : List Addr) (P : Nat → Value → Prop) (Sx : Nat → Heap → Prop) : Walks pw_nm0149_01 g.w g.A I fp [I] items.length P Sx → g.L ∉ fp → g.h₀.get? I = none → (∀ p ∈ news, p.1 ≠ I) → Sx 0 h → (∀ b ∈ fp, b ≠ I → g.h₀.get? b ≠ none ∨ ∃ o, (b, o) ∈ W.all) → (∀ i h, Sx i h → ∃ o, h.get? I = some o) → (∀ i v, i < items.length → P i v → ∃ mv, items[i]? = some mv ∧ VR g.w.params W mv v) → Src g W news h items I
def forM (i : Nat) (fb : MM MF) : List MV → MM MF
 | [] => MM.pure .next
 | v :: r => fun st => match fb ⟨st.m.set i (some v), st.μ⟩ with
  | some (.val (.ret v), st2) => some (.val (.ret v), st2)
  | some (.val .brk, st2) => some (.val .next, st2)
  | some (.val _, st2) => forM i fb r st2
  | some (.bad w a b, st2) => some (.bad w a b, st2)
  | none => none
theorem LocR.set {P : Params} {W : Wd} {cl : List (Str × Addr)} {ns : List Str} {i : Nat} {x : Str} {v : MV} {V : Value} {vs : List (Option MV)} {m : Str → Option Value} (hn : nsOk ns i x = true) (hcl : cl.lookup x = none) (hv : VR P W v V) (h : LocR P W cl ns vs m) : LocR P W cl ns (vs.set i (some v)) (fun y => if y = x then some V else m y) := by
 obtain ⟨n1, n2⟩ := nsOk_of hn
 intro j y u hj hu
 by_cases hy : y = x
 ·subst hy
  cases n2 j hj
  rw [List.getElem?_set_self'] at hu
  cases h : vs[i]? with
  | none => rw [h] at hu; exact nsE hu
  | some o =>
   rw [h] at hu
   obtain rfl := Option.some.inj (Option.some.inj hu)
   exact ⟨V, .inl ⟨hcl, if_pos rfl⟩, hv⟩
 ·have hij : i ≠ j := fun e => hy (by rw [← e, n1] at hj; obtain rfl := Option.some.inj hj; rfl)
  rw [List.getElem?_set_ne hij] at hu
  refine ee12 (h j y u hj hu) fun U a b => ?_
  exact ⟨U, a.imp (fun z => ⟨z.1, (if_neg hy).trans z.2⟩) id, b⟩
noncomputable def Wd.pins (W : Wd) (l : List (Addr × Obj)) : Wd := ⟨W.ρ, W.R, W.sc, l ++ W.pin⟩
noncomputable def Wd.setPin (W : Wd) (l : List (Addr × Obj)) : Wd := ⟨W.ρ, W.R, W.sc, l⟩
theorem Wd.wk_pins {W : Wd} {l : List (Addr × Obj)} : W.Wk (W.pins l) := ⟨fun _ _ h => h, fun _ h => h, rfl⟩
theorem Wd.wk_setPin {W : Wd} {l : List (Addr × Obj)} : W.Wk (W.setPin l) := ⟨fun _ _ h => h, fun _ h => h, rfl⟩
theorem ScOk.wk {h₀ : Heap} {W W' : Wd} (le : W.Wk W') (h : ScOk h₀ W) : ScOk h₀ W' := fun a xs q => h a xs (le.sc ▸ q)
theorem Rel.pins {g : FG} {ns : List Str} {W : Wd} {st : St} {h : Heap} {m : Str → Option Value} {cs l : List (Addr × Obj)} (R : Rel g ns W st h m cs) (hl : News g.h₀ g.L h l) (nd : (l.map (·.1)).Nodup) (hf : ∀ p ∈ cs ++ W.all, ∀ q ∈ l, p.1 ≠ q.1) : Rel g ns (W.pins l) st h m cs := by
 have pm : ((l ++ (cs ++ W.all)).map (·.1)).Perm ((cs ++ (W.pins l).all).map (·.1)) := by
  refine List.Perm.map _ ?_
  show (l ++ (cs ++ (W.R ++ W.pin))).Perm (cs ++ (W.R ++ (l ++ W.pin)))
  rw [← List.append_assoc cs, ← List.append_assoc cs, ← List.append_assoc, ← List.append_assoc (cs ++ W.R)]
  exact List.perm_append_comm.append_right _
 refine ⟨R.F, fun p hp => ?_, pm.nodup_iff.mp ?_, R.loc.weak Wd.wk_pins, R.cells.weak Wd.wk_pins, R.sc.wk Wd.wk_pins⟩
 ·rcases List.mem_append.mp hp with hp | hp
  ·exact R.N p (List.mem_append_left _ hp)
  ·rcases List.mem_append.mp hp with hp | hp
   ·exact R.N p (List.mem_append_right _ (List.mem_append_left _ hp))
   ·rcases List.mem_append.mp hp with hp | hp
    ·exact hl p hp
    ·exact R.N p (List.mem_append_right _ (List.mem_append_right _ hp))
 ·rw [List.map_append]
  refine List.nodup_append.mpr ⟨nd, R.nd, fun a ha b hb e => ?_⟩
  refine ee12 (List.mem_map.mp ha) fun q hq qe2 => ?_; subst qe2
  refine ee12 (List.mem_map.mp hb) fun p hp qe2 => ?_; subst qe2
  exact hf p hp q hq e.symm
theorem RB.subR {base G h : Heap} {l : List Env} {C e de t : Addr} {vs : List Value} {news news' : List (Addr × Obj)} (R : RB base G l C e de t vs news h) (hs : ∀ p ∈ news', p ∈ news) : RB base G l C e de t vs news' h := by
 obtain ⟨⟨⟨B, hB, hBG, hl, hf, hn⟩, ht⟩, r⟩ := R
 exact ⟨⟨⟨B, hB, hBG, fun q hq => hl q (hs q hq), hf, hn⟩, ht⟩, r⟩
theorem HB.subR {base G h : Heap} {l : List Env} {L C e de t : Addr} {vs : List Value} {news news' : List (Addr × Obj)} (R : HB base G l L C e de t vs news h) (hs : ∀ p ∈ news', p ∈ news) : HB base G l L C e de t vs news' h := by
 obtain ⟨⟨B, hB, hBG, hl, hf, hn⟩, r⟩ := R
 exact ⟨⟨B, hB, hBG, fun q hq => hl q (hs q hq), hf, hn⟩, r⟩
theorem Rel.unpin {g : FG} {ns : List Str} {W : Wd} {st : St} {h : Heap} {m : Str → Option Value} {cs l pn : List (Addr × Obj)} (R : Rel g ns W st h m cs) (e : W.pin = l ++ pn) : Rel g ns (W.setPin pn) st h m cs ∧ ∀ p ∈ cs ++ (W.setPin pn).all, ∀ q ∈ l, p.1 ≠ q.1 := by
 have nd := R.nd
 have eall : cs ++ W.all = cs ++ (W.R ++ (l ++ pn)) := by rw [← e]
 have pm : ((cs ++ (W.R ++ (l ++ pn))).map (·.1)).Perm ((l ++ (cs ++ (W.R ++ pn))).map (·.1)) := by
  refine List.Perm.map _ ?_
  rw [← List.append_assoc cs, ← List.append_assoc cs, ← List.append_assoc, ← List.append_assoc l]
  exact List.perm_append_comm.append_right _
 rw [eall] at nd
 have nd' := pm.nodup_iff.mp nd
 rw [List.map_append] at nd'
 refine ee03 (List.nodup_append.mp nd') fun d1 d2 d3 => ?_
 refine ⟨⟨R.F, fun p hp => R.N p ?_, d2, R.loc.weak Wd.wk_setPin, R.cells.weak Wd.wk_setPin, R.sc.wk Wd.wk_setPin⟩, fun p hp q hq e' => d3 q.1 (List.mem_map_of_mem hq) p.1 (List.mem_map_of_mem hp) e'.symm⟩
 rw [eall]
 rcases List.mem_append.mp hp with hp | hp
 ·exact List.mem_append_left _ hp
 ·rcases List.mem_append.mp hp with hp | hp
  ·exact List.mem_append_right _ (List.mem_append_left _ hp)
  ·exact List.mem_append_right _ (List.mem_append_right _ (List.mem_append_right _ hp))
theorem unpin_sub {W : Wd} {cs l pn : List (Addr × Obj)} (e : W.pin = l ++ pn) : ∀ p ∈ cs ++ (W.setPin pn).all, p ∈ cs ++ W.all := fun p hp => by
 rcases List.mem_append.mp hp with hp | hp
 ·exact List.mem_append_left _ hp
 ·rcases List.mem_append.mp hp with hp | hp
  ·exact List.mem_append_right _ (List.mem_append_left _ hp)
  ·exact List.mem_append_right _ (List.mem_append_right _ (by rw [e]; exact List.mem_append_right _ hp))
theorem nodup_unpin {W : Wd} {cs l pn : List (Addr × Obj)} (e : W.pin = l ++ pn) (h : ((cs ++ W.all).map (·.1)).Nodup) : ((cs ++ (W.setPin pn).all).map (·.1)).Nodup := by
 refine List.Nodup.sublist (List.Sublist.map _ (List.Sublist.append_left ?_ _)) h
 show (W.R ++ pn).Sublist (W.R ++ W.pin)
 rw [e]
 exact List.Sublist.append_left (List.sublist_append_right _ _) _
theorem ERel.unpin {g : FG} {ns : List Str} {W : Wd} {st : St} {h : Heap} {e : Addr} {why : List Nat} {r c : Int} {l pn : List (Addr × Obj)} {m : Str → Option Value} (R : ERel g ns W st e why r c m h) (he : W.pin = l ++ pn) : ERel g ns (W.setPin pn) st e why r c m h := by
 have cons3 : ∀ {p x : Addr × Obj} {a b : List (Addr × Obj)}, (∀ q ∈ a, q ∈ b) → p ∈ x :: a → p ∈ x :: b := fun hs hp => by
  apply mcE hp
  ·exact .head _
  ·intro hp; exact .tail _ (hs _ hp)
 cases R with
 | new R N hn => exact .new (R.unpin he).1 (fun p hp => N p (cons3 (fun q hq => cons3 (fun q hq => cons3 (fun q hq => unpin_sub he q hq) hq) hq) hp)) fun p hp => hn p (cons3 (fun q hq => unpin_sub he q hq) hp)
 | fly Y R => exact .fly ⟨Y.F, Y.loc.weak Wd.wk_setPin, nodup_unpin he Y.nd, Y.cells.weak Wd.wk_setPin, Y.sc.wk Wd.wk_setPin, Y.U⟩ (R.subR fun p hp => cons3 (fun q hq => unpin_sub he q hq) hp)
 | held Y R => exact .held ⟨Y.F, Y.loc.weak Wd.wk_setPin, nodup_unpin he Y.nd, Y.cells.weak Wd.wk_setPin, Y.sc.wk Wd.wk_setPin, Y.U⟩ (R.subR fun p hp => cons3 (fun q hq => unpin_sub he q hq) hp)
inductive FPJ (ns : List Str) (g : FG) (W1 : Wd) (items : List MV) (f : List MV → MM MF) (r : Option (Out MF × St)) (k : Nat) (m₁ : Str → Option Value) (news₁ : List (Addr × Obj)) : Prop
 | mk (W2 : Wd) (st2 : St) (cs2 : List (Addr × Obj)) : W1.Le W2 → news₁ = cs2 ++ W2.all → ((cs2 ++ W2.all).map (·.1)).Nodup → LocR g.w.params W2 g.cl ns st2.m m₁ → CellsR g.w W2 st2.μ W2.ρ cs2 → f (items.drop k) st2 = r → FPJ ns g W1 items f r k m₁ news₁
theorem EvS.forP {P : FG → Prop} {x : Str} {px pos : Pos} {iter : PySem.Expr} {body : List Stmt} {i : Nat} {fsrc : (List MV → MM MF) → MM MF} {fb : MM MF} (hn : nsOk F.ns i x = true) (hk : F.sc.names.lookup x = some .local) (hlp : F.lp = true)
  (hsrc : ∀ g W st s Q E (k : List MV → MM MF) (Qi : Value → Shared → Prop), Go F FlR g W st s (fsrc k) Q E → (∀ W1 st1 h1 tk1 m cs items I, Rel g F.ns W1 st1 h1 m cs → Src g W1 (cs ++ W1.all) h1 items I → Go F FlR g W1 st1 (Sh s h1 tk1) (k items) Q E → Qi (.ref I) (Sh s h1 tk1)) →
   wpAny (model pw_nm0149_01 g.w) g.A (eval iter g.env) (fun xv s1 => wpAny (model pw_nm0149_01 g.w) g.A (pyIter xv) Qi E s1) E s)
  (hb : ∀ g W st s Q E, P g → Go F FlR g W st s fb Q E → wpAny (model pw_nm0149_01 g.w) g.A (execs body g.env) Q E s) (hs : ∀ env x, foldedSetIterable iter env x = pure x := by intro _ _; rfl) : ∀ g W st s Q E, P g → Go F FlR g W st s (fsrc (forM i fb)) Q E → wpAny (model pw_nm0149_01 g.w) g.A (exec (.For (.Name x px) iter body [] pos) g.env) Q E s := by
 intro g W st s Q E hPg G
 refine For_invV (prog := pw_nm0149_01) (w := g.w) g.h₀ (by show g.cs.names.lookup x = _; rw [G.cs.eq]; exact hk) (by show (g.cs.kind == .class || _) = false; rw [G.S.K]; rfl) ?_ (hs _) (G.cs.pe hlp)
 refine hsrc g W st s Q E _ _ G fun W1 st1 h1 tk1 m cs items I R1 hS G1 => ?_
 obtain ⟨fp, P, Sx, hW, hL, hI, hnw, hst, hfp, hob, hP⟩ := hS
 refine G1.oF fun hcs S _ o st' e hPost => ?_
 refine ⟨I, fp, [I], items.length, P, Sx, m, cs ++ W1.all, FPJ F.ns g W1 items (forM i fb) (some (o, st')), rfl, hW, hL, ?_, ?_, hst, R1.F, R1.N, ?_, ?_, ?_⟩
 ·intro b hb'
  rw [List.mem_singleton.mp hb']; exact hI
 ·intro p hp hI'
  exact hnw p hp (List.mem_singleton.mp hI')
 ·exact ⟨W1, st1, cs, .rfl', rfl, R1.nd, R1.loc, R1.cells, e⟩
 ·rintro k v m₁ news₁ s₁ own ⟨h, tk, rfl⟩ hk' hPv ⟨W2, st2, cs2, le2, rfl, nd2, loc2, cells2, e2⟩ hnw2 hown hat hall hst2 F2 N2
  refine ee12 (hP k v hk' hPv) fun mv hmv hrv => ?_
  have hdrop : items.drop k = mv :: items.drop (k + 1) := by
   obtain ⟨hlt, he⟩ := List.getElem?_eq_some_iff.mp hmv
   rw [← he]; exact List.drop_eq_getElem_cons hlt
  rw [hdrop] at e2
  obtain ⟨oI, hoI⟩ := hob _ _ hst2
  have hmem : (I, oI) ∈ own := hall I (hW.sub I (.head _)) hI oI hoI
  have hne : ∀ p ∈ cs2 ++ W2.all, p.1 ≠ I := fun p hp q => hnw2 p hp (by rw [q]; exact .head _)
  have R2 : Rel g F.ns (W2.pins [(I, oI)]) ⟨st2.m.set i (some mv), st2.μ⟩ h (fun y => if y = x then some v else m₁ y) cs2 := by
   refine Rel.pins ⟨F2, fun p hp => N2 p (List.mem_append_right _ hp), nd2, LocR.set hn (hcs.lc _ hk) (hrv.mono le2) loc2, cells2, R1.sc.le le2⟩ (fun p hp => N2 p (List.mem_append_left _ (by rw [List.mem_singleton.mp hp]; exact hmem))) (by simp) (fun p hp q hq => by rw [List.mem_singleton.mp hq]; exact hne p hp)
  have sh : Sh (Sh s h1 tk1) h tk = Sh s h tk := rfl
  have hown' : ∀ p ∈ own, p = (I, oI) ∨ ∃ o, p = (p.1, o) ∧ (p.1, o) ∈ W1.all := fun p hp => by
   by_cases hk1 : p.1 = I
   ·refine .inl ?_
    have := hat p hp
    rw [hk1] at this
    have h3 : some p.2 = some oI := this.symm.trans hoI
    exact Prod.ext hk1 (Option.some.inj h3)
   ·refine .inr ?_
    rcases hfp p.1 (hown p hp) hk1 with q | ⟨o', q⟩
    ·exact absurd (N2 p (List.mem_append_left _ hp)).2.2 q
    ·have q' : (p.1, o') ∈ cs2 ++ W2.all := List.mem_append_right _ ((List.mem_append.mp q).elim (fun q => List.mem_append_left _ (le2.R _ q)) fun q => List.mem_append_right _ (by rw [le2.pin]; exact q))
     have h3 : some o' = some p.2 := (N2 _ (List.mem_append_right _ q')).1.symm.trans (hat p hp)
     exact ⟨o', by rw [Option.some.inj h3], q⟩
  unfold forM at e2
  have post : ∀ (ob : Out MF) (st3 : St), fb ⟨st2.m.set i (some mv), st2.μ⟩ = some (ob, st3) → wpAny (model pw_nm0149_01 g.w) g.A (execs body g.env) (LoopStepV g.h₀ g.env.locals [I] own (FPJ F.ns g W1 items (forM i fb) (some (o, st')) (k + 1)) (Sh s h tk) (fun v s' => Q (.ret v) s') fun s' => Q .next s') E (Sh s h tk) := by
   intro ob st3 eb
   rw [eb] at e2
   refine hb g (W2.pins [(I, oI)]) _ _ _ _ hPg ⟨hcs, S, ⟨_, _, R2⟩, ob, st3, eb, ?_⟩
   have leBack : ∀ {W' : Wd}, (W2.pins [(I, oI)]).Le W' → W1.Le (W'.setPin W2.pin) := fun le3 => ⟨fun j a q => le3.ρ j a (le2.ρ j a q), fun p hp => le3.R p (le2.R p hp), le3.sc.trans le2.sc, le2.pin⟩
   have goOn : ∀ W' h' tk' m' cs', (W2.pins [(I, oI)]).Le W' → Rel g F.ns W' st3 h' m' cs' → forM i fb (items.drop (k + 1)) st3 = some (o, st') →
     LoopStepU g.h₀ g.env.locals [I] own (FPJ F.ns g W1 items (forM i fb) (some (o, st')) (k + 1)) (Sh s h tk) .next (Sh s h' tk') := by
    intro W' h' tk' m' cs' le3 R3 e3
    have hpin : W'.pin = [(I, oI)] ++ W2.pin := le3.pin
    obtain ⟨R4, hf4⟩ := R3.unpin hpin
    have hI3 : (I, oI) ∈ W'.pin := by rw [hpin]; exact .head _
    refine ⟨rfl, h', tk', m', cs' ++ (W'.setPin W2.pin).all, rfl, R3.F, ?_, ?_, W'.setPin W2.pin, st3, cs', ?_, rfl, R4.nd, R4.loc, R4.cells, e3⟩
    ·intro p hp
     rcases List.mem_append.mp hp with hp | hp
     ·rcases hown' p hp with q | ⟨o', q, q2⟩
      ·rw [q]; exact R3.N _ (List.mem_append_right _ (List.mem_append_right _ hI3))
      ·rw [q]; exact R3.N _ (List.mem_append_right _ ((List.mem_append.mp q2).elim (fun q2 => List.mem_append_left _ (le3.R _ (le2.R _ q2))) fun q2 => List.mem_append_right _ (by rw [hpin, le2.pin]; exact List.mem_append_right _ q2)))
     ·exact R4.N p hp
    ·intro p hp hpI
     exact hf4 p hp (I, oI) (.head _) (List.mem_singleton.mp hpI)
    ·exact ⟨fun j a q => le3.ρ j a (le2.ρ j a q), fun p hp => le3.R p (le2.R p hp), le3.sc.trans le2.sc, le2.pin⟩
   cases ob with
   | val f =>
    intro W' h' tk' m' cs' a le3 R3 ha
    cases ha with
    | next => exact LoopStepV.next (goOn W' h' tk' m' cs' le3 R3 e2)
    | cont => exact LoopStepV.cont (goOn W' h' tk' m' cs' le3 R3 e2)
    | ret hv => obtain ⟨rfl, rfl⟩ := spE e2; exact LoopStepV.ret (hPost _ h' tk' m' cs' _ (leBack le3) (R3.unpin le3.pin).1 (.ret (hv.weak Wd.wk_setPin)))
    | brk => obtain ⟨rfl, rfl⟩ := spE e2; exact LoopStepV.brk (hPost _ h' tk' m' cs' _ (leBack le3) (R3.unpin le3.pin).1 .next)
   | bad w' a b => obtain ⟨rfl, rfl⟩ := spE e2; exact fun W' h' tk' m' e' le3 R3 => hPost _ h' tk' m' e' (leBack le3) (R3.unpin le3.pin)
  cases eb : fb ⟨st2.m.set i (some mv), st2.μ⟩ with
  | none => rw [eb] at e2; exact nsE e2
  | some p => exact post p.1 p.2 eb
 ·rintro h' tk' m' news' F' N' hnw' ⟨W2, st2, cs2, le2, rfl, nd2, loc2, cells2, e2⟩
  rw [List.drop_length] at e2
  obtain ⟨rfl, rfl⟩ := spE e2
  exact hPost W2 h' tk' m' cs2 _ le2 ⟨F', N', nd2, loc2, cells2, R1.sc.le le2⟩ .next
theorem EvS.for {x : Str} {px pos : Pos} {iter : PySem.Expr} {body : List Stmt} {i : Nat} {fsrc : (List MV → MM MF) → MM MF} {fb : MM MF} (hn : nsOk F.ns i x = true) (hk : F.sc.names.lookup x = some .local) (hlp : F.lp = true)
  (hsrc : ∀ g W st s Q E (k : List MV → MM MF) (Qi : Value → Shared → Prop), Go F FlR g W st s (fsrc k) Q E → (∀ W1 st1 h1 tk1 m cs items I, Rel g F.ns W1 st1 h1 m cs → Src g W1 (cs ++ W1.all) h1 items I → Go F FlR g W1 st1 (Sh s h1 tk1) (k items) Q E → Qi (.ref I) (Sh s h1 tk1)) →
   wpAny (model pw_nm0149_01 g.w) g.A (eval iter g.env) (fun xv s1 => wpAny (model pw_nm0149_01 g.w) g.A (pyIter xv) Qi E s1) E s)
  (hb : EvB F body fb) (hs : ∀ env x, foldedSetIterable iter env x = pure x := by intro _ _; rfl) : EvS F (.For (.Name x px) iter body [] pos) (fsrc (forM i fb)) := fun g W st s Q E G => EvS.forP (P := fun _ => True) hn hk hlp hsrc (fun g W st s Q E _ G => hb g W st s Q E G) hs g W st s Q E trivial G
end
section
variable {F : FS}
inductive Src2 (g : FG) (W : Wd) (news : List (Addr × Obj)) (h : Heap) (items : List (MV × MV)) (I : Addr) : Prop
 | mk (fp wr : List Addr) (Pt : Nat → Array Value → Prop) (Sx : Nat → Heap → Prop) (Mid : Nat → Addr → Heap → Prop) : WalksT pw_nm0149_01 g.w g.A I fp wr items.length Pt Sx Mid → g.L ∉ fp → (∀ b ∈ wr, g.h₀.get? b = none) → wr.Nodup → (∀ p ∈ news, p.1 ∉ wr) → Sx 0 h → (∀ b ∈ fp, b ∉ wr → g.h₀.get? b ≠ none ∨ ∃ o, (b, o) ∈ W.pin) → (∀ i h, Sx i h → ∀ b ∈ wr, ∃ o, h.get? b = some o) → (∀ i vals, i < items.length → Pt i vals → ∃ v0 v1 m0 m1, vals = #[v0, v1] ∧ items[i]? = some (m0, m1) ∧ VR g.w.params W m0 v0 ∧ VR g.w.params W m1 v1) → Src2 g W news h items I
def forM2 (i j : Nat) (fb : MM MF) : List (MV × MV) → MM MF
 | [] => MM.pure .next
 | p :: r => fun st => match fb ⟨(st.m.set i (some p.1)).set j (some p.2), st.μ⟩ with
  | some (.val (.ret v), st2) => some (.val (.ret v), st2)
  | some (.val .brk, st2) => some (.val .next, st2)
  | some (.val _, st2) => forM2 i j fb r st2
  | some (.bad w a b, st2) => some (.bad w a b, st2)
  | none => none
noncomputable def ownAt (wr : List Addr) (h : Heap) : List (Addr × Obj) := wr.filterMap fun b => (h.get? b).map fun o => (b, o)
theorem ownAt_mem {wr : List Addr} {h : Heap} {p : Addr × Obj} : p ∈ ownAt wr h ↔ p.1 ∈ wr ∧ h.get? p.1 = some p.2 := by
 unfold ownAt
 rw [List.mem_filterMap]
 constructor
 ·rintro ⟨b, hb, e⟩
  refine ee12 (Option.map_eq_some_iff.mp e) fun o ho qe2 => ?_; subst qe2
  exact ⟨hb, ho⟩
 ·exact fun ⟨h1, h2⟩ => ⟨p.1, h1, by rw [h2]; rfl⟩
theorem ownAt_nodup {h : Heap} : ∀ {wr : List Addr}, wr.Nodup → ((ownAt wr h).map (·.1)).Nodup
 | [], _ => List.nodup_nil
 | b :: r, nd => by
  obtain ⟨n1, n2⟩ := List.nodup_cons.mp nd
  unfold ownAt
  rw [List.filterMap_cons]
  cases h.get? b with
  | none => exact ownAt_nodup n2
  | some o =>
   refine List.nodup_cons.mpr ⟨fun q => ?_, ownAt_nodup n2⟩
   refine ee12 (List.mem_map.mp q) fun p hp e => ?_
   exact n1 (by have := (ownAt_mem.mp hp).1; rw [e] at this; exact this)
inductive F2J (ns : List Str) (g : FG) (W1 : Wd) (s : Shared) (items : List (MV × MV)) (Sx : Nat → Heap → Prop) (wr : List Addr) (f : List (MV × MV) → MM MF) (r : Option (Out MF × St)) (k : Nat) (s' : Shared) : Prop
 | mk (h2 : Heap) (tk2 : Nat) (W2 : Wd) (st2 : St) (m2 : Str → Option Value) (cs2 : List (Addr × Obj)) (n : Nat) : s' = Sh s h2 tk2 → W1.Le W2 → Rel g ns W2 st2 h2 m2 cs2 → (∀ p ∈ cs2 ++ W2.all, p.1 ∉ wr) → Sx n h2 → f (items.drop n) st2 = r → n ≤ items.length → k = items.length + 1 - n → F2J ns g W1 s items Sx wr f r k s'
theorem EvS.for2 {xi xc : Str} {pk pv pt pos : Pos} {x1 : Nat} {iter : PySem.Expr} {body : List Stmt} {i j : Nat} {fsrc : (List (MV × MV) → MM MF) → MM MF} {fb : MM MF} (hni : nsOk F.ns i xi = true) (hnj : nsOk F.ns j xc = true) (hki : F.sc.names.lookup xi = some .local) (hkj : F.sc.names.lookup xc = some .local) (hlp : F.lp = true)
  (hsrc : ∀ g W st s Q E (k : List (MV × MV) → MM MF) (Qi : Value → Shared → Prop), Go F FlR g W st s (fsrc k) Q E → (∀ W1 st1 h1 tk1 m cs items I, Rel g F.ns W1 st1 h1 m cs → Src2 g W1 (cs ++ W1.all) h1 items I → Go F FlR g W1 st1 (Sh s h1 tk1) (k items) Q E → Qi (.ref I) (Sh s h1 tk1)) →
   wpAny (model pw_nm0149_01 g.w) g.A (eval iter g.env) (fun xv s1 => wpAny (model pw_nm0149_01 g.w) g.A (pyIter xv) Qi E s1) E s)
  (hb : EvB F body fb) (hs : ∀ env x, foldedSetIterable iter env x = pure x := by intro _ _; rfl) : EvS F (.For (.Tuple [.Name xi pk, .Name xc pv] x1 pt) iter body [] pos) (fsrc (forM2 i j fb)) := by
 intro g W st s Q E G
 have hE := G.cs.pe hlp
 have hki' : g.env.kindOf xi = some .local := by show g.cs.names.lookup xi = _; rw [G.cs.eq]; exact hki
 have hkj' : g.env.kindOf xc = some .local := by show g.cs.names.lookup xc = _; rw [G.cs.eq]; exact hkj
 have hp : (g.env.scope.kind == .class || (g.env.scope.kind == .module && g.env.locals != g.env.globals)) = false := by show (g.cs.kind == .class || _) = false; rw [G.S.K]; rfl
 refine wpAny_For (hsrc g W st s Q E _ _ G fun W1 st1 h1 tk1 m cs items I R1 hS G1 => ?_) (hs _)
 obtain ⟨fp, wr, Pt, Sx, Mid, hW, hL, hwr, hnd, hnw, hst, hfp, hob, hP⟩ := hS
 refine G1.oF fun hcs S _ o st' e hPost => ?_
 have hLw : g.L ∉ wr := fun h => hL (hW.sub _ h)
 refine codeAny_forLoop_any (F2J F.ns g W1 s items Sx wr (forM2 i j fb) (some (o, st'))) ?_ (items.length + 1) ⟨h1, tk1, W1, st1, m, cs, 0, rfl, .rfl', R1, hnw, hst, e, Nat.zero_le _, rfl⟩
 rintro k s' ⟨h2, tk2, W2, st2, m2, cs2, n, rfl, le2, R2, hnw2, hst2, e2, hn, rfl⟩
 have next : ∀ h3 : Heap, (∀ b o, b ∉ wr → h2.get? b = some o → h3.get? b = some o) → Fr g.h₀ g.L h3 m2 ∧ News g.h₀ g.L h3 (cs2 ++ W2.all) := fun h3 hk3 =>
  ⟨⟨R2.F.ns.at' fun o e => hk3 _ o hLw e, fun b o e => hk3 b o (fun hb' => by rw [hwr b hb'] at e; exact nsE e) (R2.F.keep b o e), R2.F.above⟩, fun p hp => ⟨hk3 _ _ (hnw2 p hp) (R2.N p hp).1, (R2.N p hp).2⟩⟩
 by_cases hlt : n < items.length
 ·refine hW.item n _ _ _ hlt hst2 fun T vals h3 tk3 hPt _ hT hMid hk3 => ?_
  refine ee44 (hP n vals hlt hPt) fun v0 v1 m0 m1 qe4 hitem r0 r1 => ?_; subst qe4
  refine hW.go _ x1 pt n T _ _ _ hMid fun h4 hst4 hk4 => ?_
  have ht4 : h4.IsTuple T #[v0, v1] := hT.at fun o e => hk4 T o (hW.apart n T h3 hMid) e
  refine wpAny_assign_Tuple G.S.hd ht4 rfl rfl fun h5 hx5 => ?_
  replace hx5 : Heap.ExtBut h4.objs.size h4 h5 := hx5
  have up5 : ∀ b o, h4.get? b = some o → h5.get? b = some o := fun b o x => hx5 b o (Nat.ne_of_lt (Heap.lt_size x)) x
  obtain ⟨F5, N5⟩ := next h5 fun b o hb' x => up5 b o (hk4 b o hb' (hk3 b o hb' x))
  show wpAny _ g.A (do holding [v1] (PySem.assign (.Name xi pk) g.env v0); do holding [] (PySem.assign (.Name xc pv) g.env v1); pure ()) _ _ _
  refine wpAny_bind (wpAny_holding (wpAny_assign_Name (wpAny_storeName_local hki' F5.ns (fun h6 hn6 hs6 => ?_) hp)))
  replace hs6 : Heap.SameBut g.L h5 h6 := hs6
  have F6 := F5.set hn6 hs6
  refine wpAny_bind (wpAny_holding (wpAny_assign_Name (wpAny_storeName_local hkj' F6.ns (fun h7 hn7 hs7 => wpAny_pure ?_) hp)))
  replace hs7 : Heap.SameBut g.L h6 h7 := hs7
  have F7 := F6.set hn7 hs7
  have N7 : News g.h₀ g.L h7 (cs2 ++ W2.all) := (N5.set hs6).set hs7
  have hst7 : Sx (n + 1) h7 := hW.frame _ _ _ hst4 fun b hb' o e => hs7.extBut b o (fun q => hL (q ▸ hb')) (hs6.extBut b o (fun q => hL (q ▸ hb')) (up5 b o e))
  have R7 : Rel g F.ns W2 ⟨(st2.m.set i (some m0)).set j (some m1), st2.μ⟩ h7 (fun y => if y = xc then some v1 else if y = xi then some v0 else m2 y) cs2 :=
   ⟨F7, N7, R2.nd, LocR.set hnj (hcs.lc _ hkj) (r1.mono le2) (LocR.set hni (hcs.lc _ hki) (r0.mono le2) R2.loc), R2.cells, R2.sc⟩
  have R8 := R7.pins (l := ownAt wr h7) (fun p hp => ⟨(ownAt_mem.mp hp).2, fun q => hLw (q ▸ (ownAt_mem.mp hp).1), hwr _ (ownAt_mem.mp hp).1⟩) (ownAt_nodup hnd) fun p hp q hq e => hnw2 p hp (e ▸ (ownAt_mem.mp hq).1)
  have hdrop : items.drop n = (m0, m1) :: items.drop (n + 1) := by
   obtain ⟨hl, he⟩ := List.getElem?_eq_some_iff.mp hitem
   rw [← he]; exact List.drop_eq_getElem_cons hl
  rw [hdrop] at e2
  unfold forM2 at e2
  dsimp only at e2
  have leBack : ∀ {W' : Wd}, (W2.pins (ownAt wr h7)).Le W' → W1.Le (W'.setPin W2.pin) := fun le3 => ⟨fun a b q => le3.ρ a b (le2.ρ a b q), fun p hp => le3.R p (le2.R p hp), le3.sc.trans le2.sc, le2.pin⟩
  cases eb : fb ⟨(st2.m.set i (some m0)).set j (some m1), st2.μ⟩ with
  | none => rw [eb] at e2; exact nsE e2
  | some p =>
   obtain ⟨ob, st3⟩ := p
   rw [eb] at e2
   refine wpAny_passesOwn hE (hb g (W2.pins (ownAt wr h7)) _ _ _ _ ⟨hcs, S, ⟨_, _, R8⟩, ob, st3, eb, ?_⟩)
   have goOn : ∀ W' h' tk' m' cs', (W2.pins (ownAt wr h7)).Le W' → Rel g F.ns W' st3 h' m' cs' → forM2 i j fb (items.drop (n + 1)) st3 = some (o, st') →
     ∃ k', k' < items.length + 1 - n ∧ F2J F.ns g W1 s items Sx wr (forM2 i j fb) (some (o, st')) k' (Sh s h' tk') := by
    intro W' h' tk' m' cs' le3 R3 e3
    have hpin : W'.pin = ownAt wr h7 ++ W2.pin := le3.pin
    obtain ⟨R4, hf4⟩ := R3.unpin hpin
    refine ⟨items.length + 1 - (n + 1), by omega, h', tk', W'.setPin W2.pin, st3, m', cs', n + 1, rfl, leBack le3, R4, fun p hp hpw => ?_, ?_, e3, hlt, rfl⟩
    ·obtain ⟨o', ho'⟩ := hob _ _ hst7 p.1 hpw
     exact hf4 p hp (p.1, o') (ownAt_mem.mpr ⟨hpw, ho'⟩) rfl
    ·refine hW.frame _ _ _ hst7 fun b hb' o' ho' => ?_
     by_cases hbw : b ∈ wr
     ·exact (R3.N (b, o') (List.mem_append_right _ (List.mem_append_right _ (by rw [hpin]; exact List.mem_append_left _ (ownAt_mem.mpr ⟨hbw, ho'⟩))))).1
     ·rcases hfp b hb' hbw with q | ⟨o2, q⟩
      ·cases hb0 : g.h₀.get? b with
       | none => exact absurd hb0 q
       | some o3 =>
        have a1 := F7.keep b o3 hb0
        rw [ho'] at a1
        obtain rfl := Option.some.inj a1
        exact R3.F.keep b _ hb0
      ·have q2 : (b, o2) ∈ W2.pin := by rw [le2.pin]; exact q
       have a1 := (R7.N (b, o2) (List.mem_append_right _ (List.mem_append_right _ q2))).1
       rw [ho'] at a1
       obtain rfl := Option.some.inj a1
       exact (R3.N _ (List.mem_append_right _ (List.mem_append_right _ (by rw [hpin]; exact List.mem_append_right _ q2)))).1
   cases ob with
   | val f =>
    intro W' h' tk' m' cs' a le3 R3 ha
    cases ha with
    | next => exact goOn W' h' tk' m' cs' le3 R3 e2
    | cont => exact goOn W' h' tk' m' cs' le3 R3 e2
    | ret hv => obtain ⟨rfl, rfl⟩ := spE e2; exact hPost _ h' tk' m' cs' _ (leBack le3) (R3.unpin le3.pin).1 (.ret (hv.weak Wd.wk_setPin))
    | brk => obtain ⟨rfl, rfl⟩ := spE e2; exact hPost _ h' tk' m' cs' _ (leBack le3) (R3.unpin le3.pin).1 .next
   | bad w' a b => obtain ⟨rfl, rfl⟩ := spE e2; exact fun W' h' tk' m' e' le3 R3 => hPost _ h' tk' m' e' (leBack le3) (R3.unpin le3.pin)
 ·have hin : n = items.length := by omega
  subst hin
  rw [List.drop_length] at e2
  obtain ⟨rfl, rfl⟩ := spE e2
  refine hW.done _ _ _ hst2 fun h3 tk3 hk3 => wpAny_execs_nil ?_
  obtain ⟨F3, N3⟩ := next h3 hk3
  exact hPost W2 h3 tk3 m2 cs2 _ le2 ⟨F3, N3, R2.nd, R2.loc, R2.cells, R2.sc⟩ .next
end
section
variable {F : FS}
def withLock {β : Type} (i : Nat) (k : List MV → MM β) : MM β := fun st => match st.μ[i]? with
 | some (.list vs) => match k vs ⟨st.m, st.μ.set i .lock⟩ with
  | some (o, st2) => match st2.μ[i]? with
   | some .lock => some (o, ⟨st2.m, st2.μ.set i (.list vs)⟩)
   | _ => none
  | none => none
 | _ => none
theorem mem_tail1 {a : Addr × Obj} {l l' : List (Addr × Obj)} (hs : ∀ p ∈ l', p ∈ l) : ∀ p ∈ a :: l', p ∈ a :: l := fun p hp => by
 apply mcE hp
 ·exact .head _
 ·intro hp; exact .tail _ (hs p hp)
theorem News.tail3 {h₀ h : Heap} {L : Addr} {a b c : Addr × Obj} {l l' : List (Addr × Obj)} (N : News h₀ L h (a :: b :: c :: l)) (hs : ∀ p ∈ l', p ∈ l) : News h₀ L h (a :: b :: c :: l') := fun p hp => N p (mem_tail1 (mem_tail1 (mem_tail1 hs)) p hp)
theorem all_tail1 {P : Addr × Obj → Prop} {a : Addr × Obj} {l l' : List (Addr × Obj)} (N : ∀ p ∈ a :: l, P p) (hs : ∀ p ∈ l', p ∈ l) : ∀ p ∈ a :: l', P p := fun p hp => N p (mem_tail1 hs p hp)
theorem perm_lock {pre post R pin : List (Addr × Obj)} {p : Addr × Obj} : ((pre ++ post) ++ (R ++ ([p] ++ pin))).Perm ((pre ++ p :: post) ++ (R ++ pin)) := by
 have e1 : (pre ++ post) ++ (R ++ ([p] ++ pin)) = ((pre ++ post) ++ R) ++ p :: pin := by simp
 have e2 : (pre ++ p :: post) ++ (R ++ pin) = pre ++ p :: (post ++ (R ++ pin)) := by simp
 rw [e1, e2]
 refine List.perm_middle.trans (List.Perm.trans ?_ List.perm_middle.symm)
 rw [List.append_assoc, List.append_assoc]
theorem Rel.lockIn {g : FG} {ns : List Str} {W : Wd} {st : St} {h : Heap} {m : Str → Option Value} {pre post : List (Addr × Obj)} {p : Addr × Obj} {μ' : List MO} (R : Rel g ns W st h m (pre ++ p :: post)) (hc : CellsR g.w (W.pins [p]) μ' W.ρ (pre ++ post)) : Rel g ns (W.pins [p]) ⟨st.m, μ'⟩ h m (pre ++ post) :=
 have pm := perm_lock (pre := pre) (post := post) (R := W.R) (pin := W.pin) (p := p)
 ⟨R.F, fun q hq => R.N q (pm.mem_iff.mp hq), ((pm.map (·.1)).nodup_iff).mpr R.nd, R.loc.weak Wd.wk_pins, hc, R.sc.wk Wd.wk_pins⟩
theorem Rel.lockOut {g : FG} {ns : List Str} {W : Wd} {st : St} {h : Heap} {m : Str → Option Value} {pre post pn : List (Addr × Obj)} {p : Addr × Obj} {μ' : List MO} (R : Rel g ns W st h m (pre ++ post)) (e : W.pin = [p] ++ pn) (hc : CellsR g.w (W.setPin pn) μ' W.ρ (pre ++ p :: post)) : Rel g ns (W.setPin pn) ⟨st.m, μ'⟩ h m (pre ++ p :: post) :=
 have pm := perm_lock (pre := pre) (post := post) (R := W.R) (pin := pn) (p := p)
 have ea : (pre ++ post) ++ W.all = (pre ++ post) ++ (W.R ++ ([p] ++ pn)) := by rw [← e]
 ⟨R.F, fun q hq => R.N q (by rw [ea]; exact pm.mem_iff.mpr hq), ((pm.map (·.1)).nodup_iff).mp (ea ▸ R.nd), R.loc.weak Wd.wk_setPin, hc, R.sc.wk Wd.wk_setPin⟩
theorem CellsR.unlock {w : World} {W : Wd} {pn : List (Addr × Obj)} {μ : List MO} {cs : List (Addr × Obj)} {i : Nat} {x : Addr} {vs : List MV} {ws : List Value} {k : Nat} (C : CellsR w W μ W.ρ cs) (hi : μ[i]? = some .lock) (hx : W.ρ[i]? = some x) (hv : VRs w.params W vs ws) (hz : vs.length ≤ 1000000) :
  ∃ pre post, cs = pre ++ post ∧ CellsR w (W.setPin pn) (μ.set i (.list vs)) W.ρ (pre ++ (x, _root_.PySem.W.listOf ws.toArray k) :: post) := by
 refine ee44 (C.split hi) fun x' es pre post h1 h2 h3 h4 => ?_
 rw [hx] at h1; obtain rfl := Option.some.inj h1
 obtain rfl := h2.iLock
 exact ⟨pre, post, h3, (h4 _ [(x, _root_.PySem.W.listOf ws.toArray k)] (.list hv hz)).weak Wd.wk_setPin⟩
set_option tactic.hygienic true in
theorem Go.lock {β α : Type} {RR : Params → Wd → β → α → Prop} {g : FG} {W : Wd} {st : St} {s : Shared} {i : Nat} {k : List MV → MM β} {Q : α → Shared → Prop} {E : Value → Shared → Prop} (hRR : ∀ {P W pn b a}, RR P W b a → RR P (W.setPin pn) b a) (G : Go F RR g W st s (withLock i k) Q E) :
  ∃ x vs ws kk, W.ρ[i]? = some x ∧ VRs g.w.params W vs ws ∧ vs.length ≤ 1000000 ∧ s.heap.get? x = some (_root_.PySem.W.listOf ws.toArray kk) ∧ g.h₀.get? x = Option.none ∧ x ≠ g.L ∧ Go F RR g (W.pins [(x, _root_.PySem.W.listOf ws.toArray kk)]) ⟨st.m, st.μ.set i .lock⟩ s (k vs) Q E := by
 refine G.oG fun hcs S m cs R o st' e hP => ?_
 unfold withLock at e
 refine se10 e fun vs hi e => ?_
 split at e
 ·rename_i o2 st2 e2
  split at e
  ·rename_i hl
   cases e
   refine ee44 (R.cells.split hi) fun x es pre post h1 h2 h3 h4 => ?_
   refine ee23 h2.iList fun kk ws qe2 hv hz => ?_; subst qe2
   subst h3
   have hN := R.N (x, _root_.PySem.W.listOf ws.toArray kk) (List.mem_append_left _ (List.mem_append_right _ (.head _)))
   refine ⟨x, vs, ws, kk, h1, hv, hz, hN.1, hN.2.2, hN.2.1, hcs, S, ⟨m, pre ++ post, Rel.lockIn R ((h4 .lock [] .lock).weak Wd.wk_pins)⟩, _, st2, e2, ?_⟩
   have hle : ∀ {W' : Wd}, (W.pins [(x, _root_.PySem.W.listOf ws.toArray kk)]).Le W' → W.Le (W'.setPin W.pin) := fun le => ⟨le.ρ, le.R, le.sc, rfl⟩
   have hvs : ∀ {W' : Wd}, (W.pins [(x, _root_.PySem.W.listOf ws.toArray kk)]).Le W' → VRs g.w.params W' vs ws := fun {W'} le => hv.weak (show W.Wk W' from ⟨le.ρ, le.R, le.sc⟩)
   cases o with
   | val b =>
    intro W' h' tk' m' cs' a le R' ha
    refine ee22 (R'.cells.unlock (pn := W.pin) (k := kk) hl (le.ρ _ _ h1) (hvs le) hz) fun pre' post' qe2 hc => ?_; subst qe2
    exact hP (W'.setPin W.pin) h' tk' m' _ a (hle le) (R'.lockOut le.pin hc) (hRR ha)
   | bad w r c =>
    intro W' h' tk' m' e' le R'
    refine hP (W'.setPin W.pin) h' tk' m' e' (hle le) ?_
    cases R' with
    | new R2 N2 hn =>
     refine ee22 (R2.cells.unlock (pn := W.pin) (k := kk) hl (le.ρ _ _ h1) (hvs le) hz) fun pre' post' qe2 hc => ?_; subst qe2
     have pm := perm_lock (pre := pre') (post := post') (R := W'.R) (pin := W.pin) (p := (x, _root_.PySem.W.listOf ws.toArray kk))
     have ea : (pre' ++ post') ++ W'.all = (pre' ++ post') ++ (W'.R ++ ([(x, _root_.PySem.W.listOf ws.toArray kk)] ++ W.pin)) := by show _ ++ (W'.R ++ W'.pin) = _; rw [le.pin]; rfl
     rw [ea] at N2 hn
     exact .new (R2.lockOut le.pin hc) (News.tail3 N2 fun p hp => pm.mem_iff.mpr hp) (all_tail1 hn fun p hp => pm.mem_iff.mpr hp)
    | fly Y RB2 =>
     obtain ⟨F2, loc2, nd2, cells2, sc2, U2⟩ := Y
     refine ee22 (cells2.unlock (pn := W.pin) (k := kk) hl (le.ρ _ _ h1) (hvs le) hz) fun pre' post' qe2 hc => ?_; subst qe2
     have pm := perm_lock (pre := pre') (post := post') (R := W'.R) (pin := W.pin) (p := (x, _root_.PySem.W.listOf ws.toArray kk))
     have ea : (pre' ++ post') ++ W'.all = (pre' ++ post') ++ (W'.R ++ ([(x, _root_.PySem.W.listOf ws.toArray kk)] ++ W.pin)) := by show _ ++ (W'.R ++ W'.pin) = _; rw [le.pin]; rfl
     rw [ea] at nd2 RB2
     exact .fly ⟨F2, loc2.weak Wd.wk_setPin, ((pm.map (·.1)).nodup_iff).mp nd2, hc, sc2.wk Wd.wk_setPin, U2⟩ (RB2.subR (mem_tail1 fun p hp => pm.mem_iff.mpr hp))
    | held Y RB2 =>
     obtain ⟨F2, loc2, nd2, cells2, sc2, U2⟩ := Y
     refine ee22 (cells2.unlock (pn := W.pin) (k := kk) hl (le.ρ _ _ h1) (hvs le) hz) fun pre' post' qe2 hc => ?_; subst qe2
     have pm := perm_lock (pre := pre') (post := post') (R := W'.R) (pin := W.pin) (p := (x, _root_.PySem.W.listOf ws.toArray kk))
     have ea : (pre' ++ post') ++ W'.all = (pre' ++ post') ++ (W'.R ++ ([(x, _root_.PySem.W.listOf ws.toArray kk)] ++ W.pin)) := by show _ ++ (W'.R ++ W'.pin) = _; rw [le.pin]; rfl
     rw [ea] at nd2 RB2
     exact .held ⟨F2, loc2.weak Wd.wk_setPin, ((pm.map (·.1)).nodup_iff).mp nd2, hc, sc2.wk Wd.wk_setPin, U2⟩ (RB2.subR (mem_tail1 fun p hp => pm.mem_iff.mpr hp))
  ·exact nsE e
 ·exact nsE e
theorem FlR.setPin {P : Params} {W : Wd} {pn : List (Addr × Obj)} {f : MF} {f' : Flow} (h : FlR P W f f') : FlR P (W.setPin pn) f f' := by
 cases h with
 | next => exact .next
 | ret h => exact .ret (h.weak Wd.wk_setPin)
 | brk => exact .brk
 | cont => exact .cont
theorem Rel.push {g : FG} {ns : List Str} {W : Wd} {st : St} {h : Heap} {m : Str → Option Value} {cs : List (Addr × Obj)} {o : Obj} (R : Rel g ns W st h m cs) (hf : o.isFreed = false := by rfl) : Rel g ns W st (h.push o) m cs :=
 ⟨R.F.push o, fun p hp => R.N.push R.F o hf p (.tail _ hp), R.nd, R.loc, R.cells, R.sc⟩
theorem Rel.newAddr {g : FG} {ns : List Str} {W : Wd} {st : St} {h : Heap} {m : Str → Option Value} {cs : List (Addr × Obj)} (R : Rel g ns W st h m cs) : g.h₀.get? h.objs.size = none := by
 cases hq : g.h₀.get? h.objs.size with
 | none => rfl
 | some o => exact absurd (Nat.lt_of_lt_of_le (Nat.lt_of_lt_of_le (Heap.lt_size hq) R.F.above) (Nat.le_of_lt R.F.ns.lt)) (Nat.lt_irrefl _)
theorem Go.move {β α : Type} {RR : Params → Wd → β → α → Prop} {g : FG} {W : Wd} {st : St} {s : Shared} {h' : Heap} {tk' : Nat} {m : Str → Option Value} {cs : List (Addr × Obj)} {f : MM β} {Q : α → Shared → Prop} {E : Value → Shared → Prop} (G : Go F RR g W st s f Q E) (R : Rel g F.ns W st h' m cs) : Go F RR g W st (Sh s h' tk') f Q E := by
 refine G.oF fun hcs S _ o st' e hP => ?_
 exact ⟨hcs, S, ⟨_, _, R⟩, o, st', e, hP.on .rfl'⟩
noncomputable def iotaM : Nat → Nat → List MV
 | _, 0 => []
 | a, n + 1 => .int a :: iotaM (a + 1) n
theorem iotaM_get : ∀ (a n i : Nat), i < n → (iotaM a n)[i]? = some (.int ((a + i : Nat) : Int))
 | a, 0, i, h => absurd h (Nat.not_lt_zero _)
 | a, n + 1, 0, _ => rfl
 | a, n + 1, i + 1, h => by
  show (iotaM (a + 1) n)[i]? = _
  rw [iotaM_get (a + 1) n i (Nat.lt_of_succ_lt_succ h), Nat.add_assoc, Nat.add_comm 1 i]
theorem iotaM_len : ∀ (a n : Nat), (iotaM a n).length = n
 | _, 0 => rfl
 | a, n + 1 => congrArg (· + 1) (iotaM_len (a + 1) n)
def rangeK (f : MM MV) (k : List MV → MM MF) : MM MF := f.bind fun v => match v with
 | .int n => match decide (0 ≤ n) && decide (n ≤ 1000) with
  | true => k (iotaM 0 n.toNat)
  | false => MM.fail
 | _ => MM.fail
theorem src_range {fe e : PySem.Expr} {f : MM MV} {cpos : Pos} (hfe : EvE F fe (MM.pure (.con (.type "range")))) (he : EvE F e f)
  (h1 : ∀ env, starEach [e] env = (false, eval e env) :: starEach [] env := by intro _; rfl) (h2 : ∀ env, (backTo cpos (starEach [] env)).any (·.1) = false := by intro _; rfl)
  (hs : ∀ env, eval (.Call fe [e] [] cpos) env = (do callWith cpos (← eval fe env) [] (backTo cpos (starEach [e] env)) (backToKw cpos (keywordEach [] env))) := by intro _; rfl) :
  ∀ g W st s Q E (k : List MV → MM MF) (Qi : Value → Shared → Prop), Go F FlR g W st s (rangeK f k) Q E → (∀ W1 st1 h1 tk1 m cs items I, Rel g F.ns W1 st1 h1 m cs → Src g W1 (cs ++ W1.all) h1 items I → Go F FlR g W1 st1 (Sh s h1 tk1) (k items) Q E → Qi (.ref I) (Sh s h1 tk1)) →
   wpAny (model pw_nm0149_01 g.w) g.A (eval (.Call fe [e] [] cpos) g.env) (fun xv s1 => wpAny (model pw_nm0149_01 g.w) g.A (pyIter xv) Qi E s1) E s := by
 intro g W st s Q E k Qi G hq
 refine Call_ (hfe.stepE (k := fun _ => rangeK f k) G fun W1 st1 h1' tk1 v V le rv ev G1 => ?_) (hs _)
 cases ev
 apply rv.eCon
 refine PyProof.Rows.callWith_type1 (args_cons (he.step G1 fun W2 st2 h2' tk2 v V le2 rv2 G2 => args_nil ?_) (h1 _)) (h1 _) (h2 _)
 refine sg26 G2 fun n qs0 G2 => ?_; subst qs0
 refine sg7 G2 fun hn G2 => ?_
 obtain ⟨n1, n2⟩ := Bool.and_eq_true_iff.mp hn
 have n1' := of_decide_eq_true n1
 have n2' := of_decide_eq_true n2
 apply rv2.eInt; intro _
 refine G2.RE fun m cs R => ?_
 refine call_range_1 (wpAny_pyIter_range (a := 0) (b := n) (c := 1) (Heap.get?_push_size _ rfl) (small_one (by omega) (by omega) (by omega) (by omega)) ?_)
 have R2 := (R.push (o := { cls := .type "range", data := .fields #[.int 0 tk2, .int n ‹_›, .int 1 (tk2 + 1)] })).push (o := { cls := .type "range_iterator", data := .fields #[rawInt 0, rawInt (Builtin.Range.rangeSize 0 n 1), rawInt 1] })
 refine hq _ _ _ _ m cs (iotaM 0 n.toNat) _ R2 ?_ (G2.move R2)
 have hlen := iotaM_len 0 n.toNat
 have hsz : Builtin.Range.rangeSize 0 n 1 = ((n.toNat : Nat) : Int) := by
  rw [rangeSize_one]
  split <;> omega
 have R1 := R.push (o := { cls := .type "range", data := .fields #[.int 0 tk2, .int n ‹_›, .int 1 (tk2 + 1)] })
 refine ⟨_, _, _, by rw [hlen]; exact Walks.range G.S.hd _ 0 1 n.toNat, ?_, ?_, ?_, ?_, ?_, ?_, ?_⟩
 ·intro hm
  exact absurd R1.F.ns.lt (by rw [List.mem_singleton.mp hm]; exact Nat.lt_irrefl _)
 ·exact R1.newAddr
 ·exact News.lt R1.N
 ·show IsRangeIter _ _ _ _ _
  rw [show (0 : Int) + ((0 : Nat) : Int) * 1 = 0 by omega, show ((n.toNat : Nat) : Int) - ((0 : Nat) : Int) = Builtin.Range.rangeSize 0 n 1 by rw [hsz]; omega]
  exact Heap.get?_push_size _ rfl
 ·intro b hb hne
  exact absurd (List.mem_singleton.mp hb) hne
 ·intro i h hi
  exact ⟨_, hi⟩
 ·rintro i v hi ⟨t, rfl⟩
  refine ⟨_, iotaM_get 0 n.toNat i (by rw [hlen] at hi; exact hi), ?_⟩
  rw [show (0 : Int) + (i : Int) * 1 = ((0 + i : Nat) : Int) by omega]
  exact .int
theorem src_ktup {A : Nat} {e : PySem.Expr} {items : List MV} (he : EvE F e (MM.pure (.con (.ref A)))) (hA : ∀ P, ∃ (vs : List Value) (n : Nat) (dd : Option Addr) (sl : Array (Option Value)), (KO P).lookup A = some ⟨.type "tuple", dd, .seq vs.toArray n, sl⟩ ∧ ∀ W, VRs P W items vs) :
  ∀ g W st s Q E (k : List MV → MM MF) (Qi : Value → Shared → Prop), Go F FlR g W st s (k items) Q E → (∀ W1 st1 h1 tk1 m cs items I, Rel g F.ns W1 st1 h1 m cs → Src g W1 (cs ++ W1.all) h1 items I → Go F FlR g W1 st1 (Sh s h1 tk1) (k items) Q E → Qi (.ref I) (Sh s h1 tk1)) →
   wpAny (model pw_nm0149_01 g.w) g.A (eval e g.env) (fun xv s1 => wpAny (model pw_nm0149_01 g.w) g.A (pyIter xv) Qi E s1) E s := by
 intro g W st s Q E k Qi G hq
 refine he.stepE (k := fun _ => k items) G fun W1 st1 h1 tk1 v V le rv ev G1 => ?_
 cases ev
 apply rv.eCon
 refine ee42 (hA g.w.params) fun vs n dd sl hk hvs => ?_
 refine G1.RE fun m cs R => ?_
 have h0 : g.h₀.get? A = some ⟨.type "tuple", dd, .seq vs.toArray n, sl⟩ := G.S.X A _ hk
 have ht : h1.IsTuple A vs.toArray := ⟨_, R.F.keep A _ h0, rfl, _, rfl⟩
 refine wpAny_pyIter_tuple ht ?_
 have R2 := R.push (o := { cls := .type "tuple_iterator", data := .fields #[.ref A, .int 0 0] })
 refine hq _ _ _ _ m cs items _ R2 ?_ (G1.move R2)
 have hlen := (hvs W).length
 have hlt : A < h1.objs.size := Heap.lt_size (R.F.keep A _ h0)
 refine ⟨[h1.objs.size, A], (fun i v => vs.toArray[i]? = some v), (fun i h => h.IsTupleIter h1.objs.size A i ∧ h.IsTuple A vs.toArray), by rw [hlen, ← List.size_toArray]; exact Walks.tuple G.S.hd _ A (Nat.ne_of_lt hlt) vs.toArray, ?_, R.newAddr, News.lt R.N, ⟨⟨_, Heap.get?_push_size _ rfl, rfl, rfl⟩, ⟨_, Heap.get?_push_of_some _ (R.F.keep A _ h0), rfl, _, rfl⟩⟩, ?_, ?_, ?_⟩
 ·intro hm
  rcases List.mem_cons.mp hm with q | hm
  ·exact absurd R.F.ns.lt (by rw [q]; exact Nat.lt_irrefl _)
  ·have q := List.mem_singleton.mp hm
   exact absurd (Nat.lt_of_lt_of_le (Heap.lt_size h0) R.F.above) (by rw [q]; exact Nat.lt_irrefl _)
 ·intro b hb hne
  rcases List.mem_cons.mp hb with q | hb
  ·exact absurd q hne
  ·rw [List.mem_singleton.mp hb, h0]
   exact .inl (by intro q; exact nsE q.symm)
 ·rintro i h ⟨⟨o, ho, _⟩, _⟩
  exact ⟨o, ho⟩
 ·intro i v hi hv
  have hv' : vs[i]? = some v := by simpa using hv
  obtain ⟨mv, hmv⟩ : ∃ mv, items[i]? = some mv := ⟨_, List.getElem?_eq_getElem hi⟩
  refine ee12 ((hvs W1).get hmv) fun V hV rV => ?_
  rw [hv'] at hV
  obtain rfl := Option.some.inj hV
  exact ⟨mv, hmv, rV⟩
end
section
variable {F : FS}
theorem Go.pins {β α : Type} {RR : Params → Wd → β → α → Prop} {g : FG} {W : Wd} {st : St} {s : Shared} {m : Str → Option Value} {cs l : List (Addr × Obj)} {f : MM β} {Q : α → Shared → Prop} {E : Value → Shared → Prop} (hRR : ∀ {P W pn b a}, RR P W b a → RR P (W.setPin pn) b a) (G : Go F RR g W st s f Q E) (R : Rel g F.ns (W.pins l) st s.heap m cs) : Go F RR g (W.pins l) st s f Q E := by
 refine G.oF fun hcs S _ o st' e hP => ?_
 refine ⟨hcs, S, ⟨m, cs, R⟩, o, st', e, ?_⟩
 have hle : ∀ {W' : Wd}, (W.pins l).Le W' → W.Le (W'.setPin W.pin) := fun le => ⟨le.ρ, le.R, le.sc, rfl⟩
 cases o with
 | val b => exact fun W' h' tk' m' cs' a le R' ha => hP (W'.setPin W.pin) h' tk' m' cs' a (hle le) (R'.unpin le.pin).1 (hRR ha)
 | bad w r c => exact fun W' h' tk' m' e' le R' => hP (W'.setPin W.pin) h' tk' m' e' (hle le) (R'.unpin le.pin)
theorem Rel.keeps {g : FG} {ns : List Str} {W : Wd} {st : St} {h h' : Heap} {m : Str → Option Value} {cs : List (Addr × Obj)} (R : Rel g ns W st h m cs) (hk : ∀ b o, h.get? b = some o → h'.get? b = some o) : Rel g ns W st h' m cs :=
 ⟨R.F.keeps hk, fun p hp => ⟨hk _ _ (R.N p hp).1, (R.N p hp).2⟩, R.nd, R.loc, R.cells, R.sc⟩
theorem Rel.above {g : FG} {ns : List Str} {W : Wd} {st : St} {h : Heap} {m : Str → Option Value} {cs : List (Addr × Obj)} (R : Rel g ns W st h m cs) {b : Addr} (hb : h.objs.size ≤ b) : g.h₀.get? b = none ∧ b ≠ g.L ∧ ∀ p ∈ cs ++ W.all, p.1 ≠ b := by
 refine ⟨?_, fun q => absurd R.F.ns.lt (Nat.not_lt_of_le (q ▸ hb)), fun p hp q => absurd (Heap.lt_size (R.N p hp).1) (Nat.not_lt_of_le (by rw [q]; exact hb))⟩
 cases hq : g.h₀.get? b with
 | none => rfl
 | some o => exact absurd (Nat.lt_of_lt_of_le (Nat.lt_of_lt_of_le (Nat.lt_of_lt_of_le (Heap.lt_size hq) R.F.above) (Nat.le_of_lt R.F.ns.lt)) hb) (Nat.lt_irrefl _)
noncomputable def enumM : Nat → List MV → List (MV × MV)
 | _, [] => []
 | a, v :: r => (.int a, v) :: enumM (a + 1) r
theorem enumM_len : ∀ (a : Nat) (l : List MV), (enumM a l).length = l.length
 | _, [] => rfl
 | a, _ :: r => congrArg (· + 1) (enumM_len (a + 1) r)
theorem enumM_get : ∀ (a : Nat) (l : List MV) (i : Nat) (v : MV), l[i]? = some v → (enumM a l)[i]? = some (.int ((a + i : Nat) : Int), v)
 | a, [], i, v, h => by exact nsE h
 | a, w :: r, 0, v, h => by obtain rfl := Option.some.inj h; rfl
 | a, w :: r, i + 1, v, h => by
  show (enumM (a + 1) r)[i]? = _
  rw [enumM_get (a + 1) r i v h, Nat.add_assoc, Nat.add_comm 1 i]
def enumK (f : MM MV) (k : List (MV × MV) → MM MF) : MM MF := f.bind fun v => match v with
 | .obj i => withLock i fun vs => k (enumM 0 vs)
 | _ => MM.fail
abbrev SrcQ2 (F : FS) (iter : PySem.Expr) (fsrc : (List (MV × MV) → MM MF) → MM MF) : Prop :=
 ∀ g W st s Q E (k : List (MV × MV) → MM MF) (Qi : Value → Shared → Prop), Go F FlR g W st s (fsrc k) Q E → (∀ W1 st1 h1 tk1 m cs items I, Rel g F.ns W1 st1 h1 m cs → Src2 g W1 (cs ++ W1.all) h1 items I → Go F FlR g W1 st1 (Sh s h1 tk1) (k items) Q E → Qi (.ref I) (Sh s h1 tk1)) →
   wpAny (model pw_nm0149_01 g.w) g.A (eval iter g.env) (fun xv s1 => wpAny (model pw_nm0149_01 g.w) g.A (pyIter xv) Qi E s1) E s
theorem src_enum {fe e : PySem.Expr} {f : MM MV} {cpos : Pos} (hfe : EvE F fe (MM.pure (.con (.type "enumerate")))) (he : EvE F e f)
  (h1 : ∀ env, starEach [e] env = (false, eval e env) :: starEach [] env := by intro _; rfl) (h2 : ∀ env, (backTo cpos (starEach [] env)).any (·.1) = false := by intro _; rfl)
  (hs : ∀ env, eval (.Call fe [e] [] cpos) env = (do callWith cpos (← eval fe env) [] (backTo cpos (starEach [e] env)) (backToKw cpos (keywordEach [] env))) := by intro _; rfl) :
  SrcQ2 F (.Call fe [e] [] cpos) (enumK f) := by
 intro g W st s Q E k Qi G hq
 refine Call_ (hfe.stepE (k := fun _ => enumK f k) G fun W1 st1 h1' tk1 v V le rv ev G1 => ?_) (hs _)
 cases ev
 apply rv.eCon
 refine PyProof.Rows.callWith_type1 (args_cons (he.step G1 fun W2 st2 h2' tk2 v V le2 rv2 G2 => args_nil ?_) (h1 _)) (h1 _) (h2 _)
 refine sg5 G2 fun i qs0 G2 => ?_; subst qs0
 apply rv2.eObj; intro l hl
 refine ee47 (G2.lock FlR.setPin) fun x vs ws kk e1 e2 e3 e4 e5 e6 G3 => ?_
 rw [hl] at e1; obtain rfl := Option.some.inj e1
 refine G3.RE fun m cs R => ?_
 have hL : h2'.IsList l ws.toArray := ⟨_, e4, rfl, _, rfl⟩
 refine call_enumerate_list hL fun h' he' hit hsz hk => wpAny_pyIter_enum he' ?_
 have R2 := R.keeps hk
 have hlt : l < h2'.objs.size := Heap.lt_size e4
 have a1 := R.above (Nat.le_refl h2'.objs.size)
 have a2 := R.above (Nat.le_succ h2'.objs.size)
 have hlen := e2.length
 have hW := WalksT.enumerate (prog := pw_nm0149_01) (w := g.w) G.S.hd (h2'.objs.size + 1) h2'.objs.size l (Nat.succ_ne_self _) (Nat.ne_of_lt (Nat.lt_succ_of_lt hlt)) (Nat.ne_of_lt hlt) ws.toArray
 rw [show ws.toArray.size = (enumM 0 vs).length by rw [List.size_toArray, ← hlen, enumM_len]] at hW
 refine hq _ _ _ _ m cs (enumM 0 vs) _ R2 ⟨_, _, _, _, _, hW, ?_, ?_, ?_, ?_, ⟨⟨_, he'⟩, hit, hL.at fun o q => hk _ o q⟩, ?_, ?_, ?_⟩ (G3.move R2)
 ·intro hm
  rcases List.mem_cons.mp hm with q | hm
  ·exact a2.2.1 q.symm
  ·rcases List.mem_cons.mp hm with q | hm
   ·exact a1.2.1 q.symm
   ·exact e6 (List.mem_singleton.mp hm).symm
 ·intro b hb
  rcases List.mem_cons.mp hb with q | hb
  ·rw [q]; exact a2.1
  ·rw [List.mem_singleton.mp hb]; exact a1.1
 ·simp
 ·intro p hp hm
  rcases List.mem_cons.mp hm with q | hm
  ·exact a2.2.2 p hp q
  ·exact a1.2.2 p hp (List.mem_singleton.mp hm)
 ·intro b hb hn
  rcases List.mem_cons.mp hb with q | hb
  ·exact absurd (q ▸ .head _) hn
  ·rcases List.mem_cons.mp hb with q | hb
   ·exact absurd (q ▸ .tail _ (.head _)) hn
   ·exact .inr ⟨_, by rw [List.mem_singleton.mp hb]; exact List.Mem.head _⟩
 ·rintro i h ⟨⟨old, ho⟩, ⟨o2, ho2, _⟩, _⟩ b hb
  rcases List.mem_cons.mp hb with q | hb
  ·rw [q]; exact ⟨_, ho⟩
  ·rw [List.mem_singleton.mp hb]; exact ⟨_, ho2⟩
 ·rintro i vals hi ⟨t, y, hy, rfl⟩
  have hy' : ws[i]? = some y := by simpa using hy
  obtain ⟨mv, hmv⟩ : ∃ mv, vs[i]? = some mv := ⟨_, List.getElem?_eq_getElem (by rw [enumM_len] at hi; exact hi)⟩
  refine ee12 (e2.get hmv) fun V hV rV => ?_
  rw [hy'] at hV
  obtain rfl := Option.some.inj hV
  refine ⟨_, _, _, _, rfl, enumM_get 0 vs i mv hmv, ?_, rV.weak Wd.wk_pins⟩
  rw [Nat.zero_add]
  exact .int
theorem zipApart_of {n l l2 : Nat} (h1 : l < n) (h2 : l2 < n) : ZipApart (n + 4) (n + 2) (n + 3) n (n + 1) l l2 := by
 refine ⟨?_, ?_, ?_, ?_, ?_, ?_, ?_, ?_, ?_, ?_, ?_, ?_, ?_, ?_, ?_, ?_, ?_, ?_⟩
 all_goals exact fun q => absurd (show @Eq Nat _ _ from q) (by omega)
noncomputable def zipM : List MV → List MV → List (MV × MV)
 | a :: r, b :: t => (a, b) :: zipM r t
 | _, _ => []
theorem zipM_len : ∀ (a b : List MV), (zipM a b).length = min a.length b.length
 | [], b => by simp [zipM]
 | _ :: _, [] => by simp [zipM]
 | _ :: r, _ :: t => by
  show (zipM r t).length + 1 = min (r.length + 1) (t.length + 1)
  rw [zipM_len r t]; omega
theorem zipM_get : ∀ (a b : List MV) (i : Nat) (x y : MV), a[i]? = some x → b[i]? = some y → (zipM a b)[i]? = some (x, y)
 | [], _, i, x, y, h, _ => by exact nsE h
 | _ :: _, [], i, x, y, _, h => by exact nsE h
 | _ :: r, _ :: t, 0, x, y, h, h' => by obtain rfl := Option.some.inj h; obtain rfl := Option.some.inj h'; rfl
 | _ :: r, _ :: t, i + 1, x, y, h, h' => zipM_get r t i x y h h'
def zipK (f1 f2 : MM MV) (k : List (MV × MV) → MM MF) : MM MF := f1.bind fun v => f2.bind fun w => match v, w with
 | .obj i, .obj j => withLock i fun vs => withLock j fun us => k (zipM vs us)
 | _, _ => MM.fail
theorem src_zip {fe a b : PySem.Expr} {f1 f2 : MM MV} {cpos : Pos} (hfe : EvE F fe (MM.pure (.con (.type "zip")))) (ha : EvE F a f1) (hb : EvE F b f2)
  (h1 : ∀ env, starEach [a, b] env = (false, eval a env) :: starEach [b] env := by intro _; rfl) (h1' : ∀ env, starEach [b] env = (false, eval b env) :: starEach [] env := by intro _; rfl) (h2 : ∀ env, (backTo cpos (starEach [b] env)).any (·.1) = false := by intro _; rfl)
  (hs : ∀ env, eval (.Call fe [a, b] [] cpos) env = (do callWith cpos (← eval fe env) [] (backTo cpos (starEach [a, b] env)) (backToKw cpos (keywordEach [] env))) := by intro _; rfl) :
  SrcQ2 F (.Call fe [a, b] [] cpos) (zipK f1 f2) := by
 intro g W st s Q E k Qi G hq
 refine Call_ (hfe.stepE (k := fun _ => zipK f1 f2 k) G fun W1 st1 h1x tk1 v V le rv ev G1 => ?_) (hs _)
 cases ev
 apply rv.eCon
 refine PyProof.Rows.callWith_type1 (args_cons (ha.step G1 fun W2 st2 h2x tk2 v V le2 rv2 G2 => args_cons (hb.step G2 fun W3 st3 h3x tk3 u U le3 ru3 G3 => args_nil ?_) (h1' _)) (h1 _)) (h1 _) (h2 _)
 refine sg27 G3 fun i j qs0 qs1 G3 => ?_; subst qs0 qs1
 have rv3 := rv2.mono le3
 apply rv3.eObj; intro l hl
 apply ru3.eObj; intro l2 hl2
 refine ee47 (G3.lock FlR.setPin) fun x vs ws kk e1 e2 e3 e4 e5 e6 G4 => ?_
 rw [hl] at e1; obtain rfl := Option.some.inj e1
 refine ee47 (G4.lock FlR.setPin) fun x2 vs2 ws2 kk2 d1 d2 d3 d4 d5 d6 G5 => ?_
 have d1' : W3.ρ[j]? = some x2 := d1
 rw [hl2] at d1'; obtain rfl := Option.some.inj d1'
 refine G5.RE fun m cs R => ?_
 have hL : h3x.IsList l ws.toArray := ⟨_, e4, rfl, _, rfl⟩
 have hL2 : h3x.IsList l2 ws2.toArray := ⟨_, d4, rfl, _, rfl⟩
 refine call_zip_2 hL hL2 fun h' hz hTI hTO hi1 hi2 hsz hk => wpAny_pyIter_zip hz ?_
 have R2 := R.keeps hk
 have lt1 : l < h3x.objs.size := Heap.lt_size e4
 have lt2 : l2 < h3x.objs.size := Heap.lt_size d4
 have b0 := R.above (Nat.le_refl h3x.objs.size)
 have b1 := R.above (Nat.le_add_right h3x.objs.size 1)
 have b2 := R.above (Nat.le_add_right h3x.objs.size 2)
 have b3 := R.above (Nat.le_add_right h3x.objs.size 3)
 have b4 := R.above (Nat.le_add_right h3x.objs.size 4)
 have R3 := R2.pins (l := [(h3x.objs.size + 2, { cls := .type "tuple", data := .seq #[.ref h3x.objs.size, .ref (h3x.objs.size + 1)] })]) (fun p hp => by rw [List.mem_singleton.mp hp]; exact ⟨hTI, b2.2.1, b2.1⟩) (by simp) (fun p hp q hq => by rw [List.mem_singleton.mp hq]; exact b2.2.2 p hp)
 have G6 := Go.pins FlR.setPin (Go.move (tk' := tk3) G5 R2) R3
 have hlen := e2.length
 have hlen2 := d2.length
 have ap := zipApart_of lt1 lt2
 have hW := WalksT.zip2 (prog := pw_nm0149_01) (w := g.w) G.S.hd _ _ _ _ _ _ _ ap ws.toArray ws2.toArray
 rw [show min ws.toArray.size ws2.toArray.size = (zipM vs vs2).length by rw [List.size_toArray, List.size_toArray, ← hlen, ← hlen2, zipM_len]] at hW
 refine hq _ _ _ _ m cs (zipM vs vs2) _ R3 ⟨_, _, _, _, _, hW, ?_, ?_, ?_, ?_, ⟨hz, hTI, ⟨_, _, hTO⟩, hi1, hi2, hL.at fun o q => hk _ o q, hL2.at fun o q => hk _ o q⟩, ?_, ?_, ?_⟩ G6
 ·simp only [List.mem_cons, List.not_mem_nil, or_false, not_or]
  exact ⟨b4.2.1.symm, b2.2.1.symm, b3.2.1.symm, b0.2.1.symm, b1.2.1.symm, e6.symm, d6.symm⟩
 ·intro b hb
  simp only [List.mem_cons, List.not_mem_nil, or_false] at hb
  rcases hb with q | q | q | q <;> rw [q]
  ·exact b4.1
  ·exact b3.1
  ·exact b0.1
  ·exact b1.1
 ·simp only [List.nodup_cons, List.mem_cons, List.not_mem_nil, or_false, not_or, not_false_eq_true, List.nodup_nil, and_true]
  refine ⟨⟨ap.TOz.symm, ap.i1z.symm, ap.i2z.symm⟩, ⟨ap.TOi1, ap.TOi2⟩, ap.i12⟩
 ·intro p hp hm
  have hp' : p ∈ [(h3x.objs.size + 2, ({ cls := .type "tuple", data := .seq #[.ref h3x.objs.size, .ref (h3x.objs.size + 1)] } : Obj))] ∨ p ∈ cs ++ ((W3.pins [(l, _root_.PySem.W.listOf ws.toArray kk)]).pins [(l2, _root_.PySem.W.listOf ws2.toArray kk2)]).all := by
   rcases List.mem_append.mp hp with hp | hp
   ·exact .inr (List.mem_append_left _ hp)
   ·rcases List.mem_append.mp hp with hp | hp
    ·exact .inr (List.mem_append_right _ (List.mem_append_left _ hp))
    ·rcases List.mem_append.mp hp with hp | hp
     ·exact .inl hp
     ·exact .inr (List.mem_append_right _ (List.mem_append_right _ hp))
  simp only [List.mem_cons, List.not_mem_nil, or_false] at hm
  rcases hp' with hp' | hp'
  ·have q0 := List.mem_singleton.mp hp'
   rw [q0] at hm
   rcases hm with q | q | q | q
   ·exact ap.TIz q
   ·exact ap.TITO q
   ·exact ap.TIi1 q
   ·exact ap.TIi2 q
  ·rcases hm with q | q | q | q
   ·exact b4.2.2 p hp' q
   ·exact b3.2.2 p hp' q
   ·exact b0.2.2 p hp' q
   ·exact b1.2.2 p hp' q
 ·intro b hb hn
  simp only [List.mem_cons, List.not_mem_nil, or_false, not_or] at hb hn
  refine ee04 hn fun n1 n2 n3 n4 => ?_
  rcases hb with q | q | q | q | q | q | q
  ·exact absurd q n1
  ·exact .inr ⟨_, by rw [q]; exact List.Mem.head _⟩
  ·exact absurd q n2
  ·exact absurd q n3
  ·exact absurd q n4
  ·exact .inr ⟨_, by rw [q]; exact List.Mem.tail _ (List.Mem.tail _ (List.Mem.head _))⟩
  ·exact .inr ⟨_, by rw [q]; exact List.Mem.tail _ (List.Mem.head _)⟩
 ·rintro i h ⟨z1, _, ⟨_, _, z2⟩, ⟨o3, z3, _⟩, ⟨o4, z4, _⟩, _⟩ b hb
  simp only [List.mem_cons, List.not_mem_nil, or_false] at hb
  rcases hb with q | q | q | q <;> rw [q]
  ·exact ⟨_, z1⟩
  ·exact ⟨_, z2⟩
  ·exact ⟨_, z3⟩
  ·exact ⟨_, z4⟩
 ·rintro i vals hi ⟨y1, y2, hy1, hy2, rfl⟩
  rw [zipM_len] at hi
  have hy1' : ws[i]? = some y1 := by simpa using hy1
  have hy2' : ws2[i]? = some y2 := by simpa using hy2
  obtain ⟨mv, hmv⟩ : ∃ mv, vs[i]? = some mv := ⟨_, List.getElem?_eq_getElem (by omega)⟩
  obtain ⟨mv2, hmv2⟩ : ∃ mv, vs2[i]? = some mv := ⟨_, List.getElem?_eq_getElem (by omega)⟩
  refine ee12 (e2.get hmv) fun V hV rV => ?_
  rw [hy1'] at hV
  obtain rfl := Option.some.inj hV
  refine ee12 (d2.get hmv2) fun V2 hV2 rV2 => ?_
  rw [hy2'] at hV2
  obtain rfl := Option.some.inj hV2
  exact ⟨_, _, _, _, rfl, zipM_get vs vs2 i mv mv2 hmv hmv2, ((rV.weak Wd.wk_pins).weak Wd.wk_pins).weak Wd.wk_pins, (rV2.weak Wd.wk_pins).weak Wd.wk_pins⟩
end
section
variable {F : FS}
def isinM (vs : List MV) : MM MV := match vs with
 | [v, .con (.ref C)] => match Nat.beq C 116 || Nat.beq C 144 with
  | true => match v with
   | .none => MM.pure (.bool false)
   | .tree t => MM.pure (.bool (Nat.beq (trCls t) C))
   | _ => MM.fail
  | false => MM.fail
 | _ => MM.fail
structure IsinOk (P : Params) : Prop where
 o1 : isIn (KO P) (.ref 116) 116 = true
 o2 : isIn (KO P) (.ref 144) 144 = true
 o3 : isNotIn (KO P) "NoneType" 116 = true
 o4 : isNotIn (KO P) "NoneType" 144 = true
 o5 : kin_not (KO P) 116 144 = true
 o6 : kin_not (KO P) 144 116 = true
 o7 : plainGet (KO P) 116 "__class__" = true
 o8 : plainGet (KO P) 144 "__class__" = true
 o9 : hasDictIn (KO P) 116 = true
 p1 : hasDictIn (KO P) 144 = true
 p2 : findIn (KO P) (.ref 116) "__class__" = some (some (.builtin "object.__class__"))
 p3 : findIn (KO P) (.ref 144) "__class__" = some (some (.builtin "object.__class__"))
 p4 : specialIn (KO P) (.builtin "object.__class__") "__get__" = some (some (.builtin "getset_descriptor.__get__"))
 p5 : takesIn (KO P) (.builtin "object.__class__") = some true
 p6 : mroIn (KO P) 116 (.type "object") = some true
 p7 : mroIn (KO P) 144 (.type "object") = some true
theorem isinOk_is (P : Params) : IsinOk P := ⟨by kernel_rfl, by kernel_rfl, by kernel_rfl, by kernel_rfl, by kernel_rfl, by kernel_rfl, by kernel_rfl, by kernel_rfl, by kernel_rfl, by kernel_rfl, by kernel_rfl, by kernel_rfl, by kernel_rfl, by kernel_rfl, by kernel_rfl, by kernel_rfl⟩
theorem TAt.inst {w : World} {W : Wd} {h₀ h : Heap} {L : Addr} {cs : List (Addr × Obj)} (N : News h₀ L h (cs ++ W.all)) {t : Tr} {V : Value} (ht : TAt w.params W.R V t) : ∃ x ox od, V = .ref x ∧ InstAt h x ox (trCls t) (some od) := by
 have N' : ∀ p ∈ W.R, p ∈ cs ++ W.all := fun p hp => List.mem_append_right _ (W.mem hp)
 cases ht with
 | tok a b d => exact ⟨_, _, _, rfl, InstAt.of_news N (N' _ a) (N' _ b)⟩
 | br a b d z e => exact ⟨_, _, _, rfl, InstAt.of_news N (N' _ a) (N' _ b)⟩
set_option tactic.hygienic true in
theorem op_isin : OpB F (.builtin "isinstance") isinM := by
 intro g W st s Q E vs Vs rs G
 refine G.RE fun m cs R => ?_
 have X := G.S.X' R.F
 obtain ⟨o1, o2, o3, o4, o5, o6, o7, o8, o9, p1, p2, p3, p4, p5, p6, p7⟩ := isinOk_is g.w.params
 unfold isinM at G
 split at G
 ·rename_i v C
  apply rs.eCons; intro _ _ a r
  apply r.eCons; intro _ _ b r
  apply r.eNil
  apply b.eCon
  split at G
  ·rename_i hC
   have hC' : C = 116 ∨ C = 144 := by
    rcases Bool.or_eq_true_iff.mp hC with q | q
    ·exact .inl (Nat.eq_of_beq_eq_true q)
    ·exact .inr (Nat.eq_of_beq_eq_true q)
   split at G
   ·apply a.eNone
    rcases hC' with rfl | rfl
    ·exact isn_call (P := fun _ => True) X (fun M => Looks.of_pure rfl) o3 (by intro e; cases e) trivial none_cls (G.tk .bool)
    ·exact isn_call (P := fun _ => True) X (fun M => Looks.of_pure rfl) o4 (by intro e; cases e) trivial none_cls (G.tk .bool)
   ·rename_i t
    have ht := a.iTree
    refine ee32 (ht.inst R.N) fun x ox od qe3 I => ?_; subst qe3
    have hty : ∀ M, Looks M s.heap (typeOf (.ref x)) (.ref (trCls t)) := fun M => I.type (M := M)
    cases t with
    | tok a1 a2 a3 a4 a5 =>
     rcases hC' with rfl | rfl
     ·exact isi_call X hty o1 (by intro e; cases e) (G.ret .bool)
     ·exact kin_callC X I o5 o7 o9 p2 p4 p5 p6 (G.tk .bool)
    | br a1 a2 a3 =>
     rcases hC' with rfl | rfl
     ·exact kin_callC X I o6 o8 p1 p3 p4 p5 p7 (G.tk .bool)
     ·exact isi_call X hty o2 (by intro e; cases e) (G.ret .bool)
   ·exact G.none.elim
  ·exact G.none.elim
 ·exact G.none.elim
theorem TsAt.drop {P : Params} {R : List (Addr × Obj)} : ∀ {vs : List Value} {ts : List Tr} (n : Nat), TsAt P R vs ts → TsAt P R (vs.drop n) (ts.drop n)
 | _, _, 0, h => h
 | _, _, n + 1, .nil => .nil
 | _, _, n + 1, .cons _ b => b.drop n
theorem VRs.take {P : Params} {W : Wd} : ∀ {vs : List MV} {ts : List Value} (n : Nat), VRs P W vs ts → VRs P W (vs.take n) (ts.take n)
 | _, _, 0, _ => .nil
 | _, _, n + 1, .nil => .nil
 | _, _, n + 1, .cons a b => .cons a (b.take n)
def fromM (v k : MV) : MM MV := match v, k with
 | .trees ts, .int n => match decide (0 ≤ n) with
  | true => MM.pure (.trees (ts.drop n.toNat))
  | false => MM.fail
 | _, _ => MM.fail
theorem clipE (i n : Nat) : (if (1 : Int) > 0 then max 0 (min (if (i : Int) < 0 then (i : Int) + n else i) (n : Int)) else max (-1) (min (if (i : Int) < 0 then (i : Int) + n else i) ((n : Int) - 1))) = ((min i n : Nat) : Int) := by
 rw [if_pos (by decide), if_neg (Int.not_lt.mpr (Int.natCast_nonneg i))]
 omega
theorem pick_drop {vs : List Value} {k : Int} (h : 0 ≤ k) : (slicePick vs.toArray (some k) none none).toList = vs.drop k.toNat := by
 obtain ⟨a, rfl⟩ := Int.eq_ofNat_of_zero_le h
 have e : sliceBounds (some (a : Int)) none none vs.toArray.size = (((min a vs.toArray.size : Nat) : Int), ((vs.toArray.size : Nat) : Int), 1) := congrArg (fun x => (x, _, _)) (clipE a _)
 rw [kmk_pick_nat _ e]
 show (vs.drop (min a vs.toArray.size)).take (vs.toArray.size - min a vs.toArray.size) = vs.drop a
 rw [List.size_toArray, kmk_drop_min, List.take_of_length_le (by rw [List.length_drop]; exact Nat.sub_le_sub_left (Nat.min_le_left ..) _)]
set_option tactic.hygienic true in
theorem Ev.sliceFrom {value lo : PySem.Expr} {fv fl : MM MV} {sp pos : Pos} (hv : EvE F value fv) (hl : EvE F lo fl) : EvE F (.Subscript value (.Slice (some lo) none none sp) pos) (fv.bind fun v => fl.bind fun k => fromM v k) := fun g W st s Q E G =>
 Subscript_ (hv.step G fun W1 st1 h1 tk1 v V le rv G1 => wpAny_Slice (evalPart_some_step (hl.step G1 fun W2 st2 h2 tk2 k K le2 rk G2 => evalPart_none_step (evalPart_none_step (by
  have rv2 := rv.mono le2
  refine G2.RE fun m cs R => ?_
  unfold fromM at G2
  split at G2
  ·rename_i ts n
   refine sg7 G2 fun hn G2 => ?_
   have hn' := of_decide_eq_true hn
   apply rk.eInt; intro _
   apply rv2.eTrees; intro l kk vs ha hz hr
   refine kba_turn (value' := .Name "" default) (fun _ => rfl) (kmk_slice_lit (s := Sh (Sh s h1 tk1) h2 tk2) R.F R.N (R.N.isList (List.mem_append_right _ (W2.mem ha))) (lo := some n) (hi := none) (by kmk_part) (by kmk_part) (pick_drop hn') (fun D h' F' N' lt => ?_) (by with_unfolding_all rfl) (fun _ => rfl) (by rw [List.size_toArray, sizeLine_eq]; omega))
   exact G2.out rfl Wd.le_froz (R.froz (p := (D, _root_.PySem.W.listOf (vs.drop n.toNat).toArray 0)) F' N' (fun q hq => Nat.ne_of_lt (lt q hq))) (.trees (.head _) (by rw [List.length_drop]; omega) ((hr.drop n.toNat).mono fun p hp => .tail _ hp))
  ·exact G2.none.elim)))))
def putsM : List (Nat × MV) → MM MF
 | [] => MM.pure .next
 | p :: r => (putM p.1 p.2).bind fun _ => putsM r
def unpackM (is : List Nat) (v : MV) : MM MF := match v with
 | .tup vs => match Nat.beq vs.length is.length with
  | true => putsM (is.reverse.zip vs.reverse)
  | false => MM.fail
 | _ => MM.fail
theorem op_puts {g : FG} {E : Value → Shared → Prop} {Q : Flow → Shared → Prop} (names : List Str) : ∀ (is : List Nat) (vs : List MV) (Vs : List Value) (W : Wd) (st : St) (s : Shared), VRs g.w.params W vs Vs → names.length = is.length → vs.length = is.length → (∀ p ∈ names.zip is, nsOk F.ns p.2 p.1 = true ∧ F.sc.names.lookup p.1 = some .local) →
  Go F FlR g W st s (putsM (is.zip vs)) Q E → wpAny (model pw_nm0149_01 g.w) g.A (assignInOrder (names.map fun n => bindName g.env n) Vs) (fun _ => Q .next) E s := by
 induction names with
 | nil =>
  intro is vs Vs W st s rs h1 h2 h3 G
  cases is with
  | cons => cases h1
  | nil =>
   cases rs with
   | cons => cases h2
   | nil => exact wpAny_pure (a := ()) (G.ret .next)
 | cons n ns ih =>
  intro is vs Vs W st s rs h1 h2 h3 G
  cases is with
  | nil => cases h1
  | cons i is =>
   cases rs with
   | nil => cases h2
   | @cons v V vs Vs a r =>
    obtain ⟨o1, o2⟩ := h3 (n, i) (.head _)
    refine assignInOrder_cons (bindName_ ?_)
    have G' : Go F FlR g W st s ((putM i v).bind fun _ => putsM (is.zip vs)) Q E := G
    exact G'.then (RR := UU) (op_store o1 o2 a) fun W1 st1 h1' tk1 _ _ le _ G1 => ih is vs Vs _ _ _ (r.mono le) (Nat.succ.inj h1) (Nat.succ.inj h2) (fun p hp => h3 p (.tail _ hp)) G1
theorem VRs.reverse {P : Params} {W : Wd} {vs : List MV} {Vs : List Value} (r : VRs P W vs Vs) : VRs P W vs.reverse Vs.reverse := by
 induction vs generalizing Vs with
 | nil => rw [r.iNil]; exact .nil
 | cons v vs ih =>
  refine ee23 r.iCons fun V w e a b => ?_
  rw [e, List.reverse_cons, List.reverse_cons]
  exact (ih b).append (.cons a .nil)
set_option tactic.hygienic true in
theorem EvS.unpack {elts : List PySem.Expr} {e : PySem.Expr} {f : MM MV} {k : Nat} {tpos pos : Pos} {names : List Str} {is : List Nat} (he : EvE F e f) (hl : names.length = is.length) (hok : ∀ p ∈ names.reverse.zip is.reverse, nsOk F.ns p.2 p.1 = true ∧ F.sc.names.lookup p.1 = some .local)
  (h1 : ∀ env, swapsWithSole [.Tuple elts k tpos] e pos.line env = pure false) (h2 : ∀ g : FG, g.cs = F.sc → swappedStores [.Tuple elts k tpos] e g.env = pure (some names)) : EvS F (.Assign [.Tuple elts k tpos] e pos) (f.bind (unpackM is)) := fun g W st s Q E G =>
 Assign_Tuple_swapped (names := names) (he.step G fun W1 st1 h1' tk1 v V le rv G1 => by
  refine G1.RE fun m cs R => ?_
  unfold unpackM at G1
  split at G1
  ·rename_i vs
   refine sg7 G1 fun hn G1 => ?_
   have hn' := Nat.eq_of_beq_eq_true hn
   apply rv.eTup; intro a ws ha hz hr
   have hw := hr.length
   refine unpackItemsN_ R.F R.N (R.N.isTup (List.mem_append_right _ (W1.mem ha))) G1.S.hd (by rw [List.size_toArray]; omega) fun h' F' N' => ?_
   have G2 := Go.move (h' := h') (tk' := tk1) G1 ⟨F', N', R.nd, R.loc, R.cells, R.sc⟩
   exact op_puts names.reverse _ _ _ _ _ _ hr.reverse (by simp [hl]) (by simp [hn']) hok G2
  ·exact G1.none.elim) (h1 _) (h2 g G.cs.eq)
def unpack2M (i j : Nat) (v : MV) : MM MF := match v with
 | .tup [a, b] => (putM i a).bind fun _ => (putM j b).bind fun _ => MM.pure .next
 | _ => MM.fail
set_option tactic.hygienic true in
theorem EvS.unpack2 {xa xb : Str} {pa pb : Pos} {e : PySem.Expr} {f : MM MV} {k i j : Nat} {tpos pos : Pos} (he : EvE F e f) (a1 : nsOk F.ns i xa = true) (a2 : F.sc.names.lookup xa = some .local) (b1 : nsOk F.ns j xb = true) (b2 : F.sc.names.lookup xb = some .local)
  (h1 : ∀ env, swapsWithSole [.Tuple [.Name xa pa, .Name xb pb] k tpos] e pos.line env = pure false) (h2 : ∀ env, swappedStores [.Tuple [.Name xa pa, .Name xb pb] k tpos] e env = pure Option.none) : EvS F (.Assign [.Tuple [.Name xa pa, .Name xb pb] k tpos] e pos) (f.bind (unpack2M i j)) := fun g W st s Q E G =>
 PyProof.Rows.Assign_Tuple (he.step G fun W1 st1 h1' tk1 v V le rv G1 => by
  refine G1.RE fun m cs R => ?_
  unfold unpack2M at G1
  split at G1
  ·rename_i va vb
   apply rv.eTup; intro a ws ha hz hr
   have ht := R.N.isTup (List.mem_append_right _ (W1.mem ha))
   obtain ⟨VA, _, rfl, ra, hr⟩ := hr.iCons
   obtain ⟨VB, _, rfl, rb, hr⟩ := hr.iCons
   obtain rfl := hr.iNil
   refine PyProof.Rows.assign_Tuple_tuple (items := #[VA, VB]) G1.S.hd ht rfl rfl fun h' hx => ?_
   have F' := R.F.extBut hx (Nat.le_refl _)
   have R' : Rel g F.ns W1 st1 h' m cs := ⟨F', R.N.extBut hx (Nat.le_refl _), R.nd, R.loc, R.cells, R.sc⟩
   have G2 := Go.move (h' := h') (tk' := tk1) G1 R'
   refine assignInOrder_cons (PyProof.Rows.assign_Name (G2.then (RR := UU) (op_store a1 a2 ra) fun W2 st2 h2 tk2 _ _ le2 _ G3 => ?_))
   refine assignInOrder_cons (PyProof.Rows.assign_Name (G3.then (RR := UU) (op_store b1 b2 (rb.mono le2)) fun W3 st3 h3 tk3 _ _ le3 _ G4 => ?_))
   exact wpAny_pure (a := ()) (G4.ret .next)
  ·exact G1.none.elim) (h1 _) (h2 _)
noncomputable def decL (n : Int) : List Nat := if n = 4 then [52] else if n = 99 then [57, 57] else (Str.ofString (toString n)).cps.toList
theorem decL_is (n : Int) : Str.ofString (toString n) = S (decL n) := by
 unfold decL
 split
 ·rename_i h; subst h; decide +kernel
 ·split
  ·rename_i h; subst h; decide +kernel
  ·rw [S_of]
def strOfM (v : MV) : MM MV := match v with
 | .int n => match decide (0 ≤ n) && decide (n < 4294967296) with
  | true => MM.pure (.str (decL n))
  | false => MM.fail
 | _ => MM.fail
theorem op_strOf : OpB F (.type "str") (one strOfM) := by
 intro g W st s Q E vs Vs rs G
 unfold one at G
 refine sg18 G fun _ qs0 G => ?_; subst qs0
 apply rs.eCons; intro _ _ a r
 apply r.eNil
 unfold strOfM at G
 refine sg26 G fun n qs0 G => ?_; subst qs0
 refine sg7 G fun hn G => ?_
 obtain ⟨n1, n2⟩ := Bool.and_eq_true_iff.mp hn
 have n1' := of_decide_eq_true n1
 have n2' := of_decide_eq_true n2
 apply a.eInt; intro _
 refine PySem.P.str_of_int ?_ ?_
 ·by_cases h0 : n.natAbs = 0
  ·rw [h0]; decide
  ·exact Nat.lt_trans ((Nat.log2_lt h0 (k := 33)).mpr (by omega)) (by decide)
 ·rw [decL_is]; exact G.tk .str
end
theorem lookup_rev : ∀ {l : List (Str × Value)} {x : Str} {V : Value}, (l.map (·.1)).Nodup → (x, V) ∈ l → l.reverse.lookup x = some V := by
 intro l
 induction l with
 | nil => intro x V _ h; cases h
 | cons p r ih =>
  intro x V nd h
  obtain ⟨n1, n2⟩ := List.nodup_cons.mp nd
  rw [List.reverse_cons, List.lookup_append]
  rcases List.mem_cons.mp h with rfl | h
  ·have : r.reverse.lookup x = none := by
    rw [List.lookup_eq_none_iff]
    intro q hq
    refine bne_iff_ne.mpr fun e => n1 ?_
    have := List.mem_map_of_mem (f := (·.1)) (List.mem_reverse.mp hq)
    rw [← e] at this
    exact this
   rw [this]
   simp
  ·rw [ih n2 h]; rfl
theorem mem_zip_of : ∀ {ps : List Str} {Vs : List Value} {i : Nat} {x : Str} {V : Value}, ps[i]? = some x → Vs[i]? = some V → (x, V) ∈ ps.zip Vs
 | [], _, i, _, _, h, _ => by exact nsE h
 | _ :: _, [], i, _, _, _, h => by exact nsE h
 | p :: ps, v :: Vs, 0, _, _, h, h' => by obtain rfl := Option.some.inj h; obtain rfl := Option.some.inj h'; exact .head _
 | p :: ps, v :: Vs, i + 1, _, _, h, h' => .tail _ (mem_zip_of (ps := ps) (Vs := Vs) (i := i) h h')
theorem map_fst_zip : ∀ {ps : List Str} {Vs : List Value}, ps.length = Vs.length → (ps.zip Vs).map (·.1) = ps
 | [], [], _ => rfl
 | p :: ps, v :: Vs, h => congrArg (p :: ·) (map_fst_zip (Nat.succ.inj h))
 | [], _ :: _, h => nomatch h
 | _ :: _, [], h => nomatch h
noncomputable def initM (ds : List MV) (k : Nat) (vs : List MV) : List (Option MV) := (vs ++ ds).map some ++ List.replicate k none
theorem lenS {n : Nat} {Vs : List Value} (h : Vs.length = n + 1) : ∃ a r, Vs = a :: r ∧ r.length = n := by
 cases Vs with
 | nil => exact nomatch h
 | cons a r => exact ⟨a, r, rfl, Nat.succ.inj h⟩
theorem len0 {Vs : List Value} (h : Vs.length = 0) : Vs = [] := List.eq_nil_of_length_eq_zero h
theorem len1 {Vs : List Value} (h : Vs.length = 1) : ∃ a0, Vs = [a0] := by
 refine ee22 (lenS h) fun a0 r qe2 h2 => ?_; subst qe2
 obtain rfl := len0 h2
 exact ⟨a0, rfl⟩
theorem len2 {Vs : List Value} (h : Vs.length = 2) : ∃ a0 a1, Vs = [a0, a1] := by
 refine ee22 (lenS h) fun a0 r qe2 h2 => ?_; subst qe2
 obtain ⟨a1, rfl⟩ := len1 h2
 exact ⟨a0, a1, rfl⟩
theorem len3 {Vs : List Value} (h : Vs.length = 3) : ∃ a0 a1 a2, Vs = [a0, a1, a2] := by
 refine ee22 (lenS h) fun a0 r qe2 h2 => ?_; subst qe2
 refine ee21 (len2 h2) fun a1 a2 qe2 => ?_; subst qe2
 exact ⟨a0, a1, a2, rfl⟩
theorem len4 {Vs : List Value} (h : Vs.length = 4) : ∃ a0 a1 a2 a3, Vs = [a0, a1, a2, a3] := by
 refine ee22 (lenS h) fun a0 r qe2 h2 => ?_; subst qe2
 refine ee31 (len3 h2) fun a1 a2 a3 qe3 => ?_; subst qe3
 exact ⟨a0, a1, a2, a3, rfl⟩
theorem len5 {Vs : List Value} (h : Vs.length = 5) : ∃ a0 a1 a2 a3 a4, Vs = [a0, a1, a2, a3, a4] := by
 refine ee22 (lenS h) fun a0 r qe2 h2 => ?_; subst qe2
 refine ee41 (len4 h2) fun a1 a2 a3 a4 qe4 => ?_; subst qe4
 exact ⟨a0, a1, a2, a3, a4, rfl⟩
theorem len6 {Vs : List Value} (h : Vs.length = 6) : ∃ a0 a1 a2 a3 a4 a5, Vs = [a0, a1, a2, a3, a4, a5] := by
 refine ee22 (lenS h) fun a0 r qe2 h2 => ?_; subst qe2
 refine ee51 (len5 h2) fun a1 a2 a3 a4 a5 qe5 => ?_; subst qe5
 exact ⟨a0, a1, a2, a3, a4, a5, rfl⟩
theorem BindOk.mk {fd : FuncData} {n : Nat} (ps rest : List Str) (ds : List MV) (dV : List Value) (k : Nat) (hb : ∀ (w : World) (s : Shared) (Vs : List Value), (KO w.params).In s.heap → Vs.length = n → BindsTo s fd ⟨Vs, []⟩ (ps.zip (Vs ++ dV)) := by intro w s Vs X h; (first | (obtain rfl := len0 h) | (obtain ⟨a0, rfl⟩ := len1 h) | (refine ee21 (len2 h) fun a0 a1 e => ?_; subst e) | (refine ee31 (len3 h) fun a0 a1 a2 e => ?_; subst e) | (refine ee41 (len4 h) fun a0 a1 a2 a3 e => ?_; subst e) | (refine ee51 (len5 h) fun a0 a1 a2 a3 a4 e => ?_; subst e) | (refine ee61 (len6 h) fun a0 a1 a2 a3 a4 a5 e => ?_; subst e)); exact BindsTo.of_eq rfl) (hd : ∀ P W, VRs P W ds dV := by exact fun _ _ => .nil) (nd : ps.Nodup := by decide) (hlen : ps.length = n + ds.length := by rfl) (hl : ∀ x ∈ ps, fd.scope.names.lookup x = some .local := by decide) : BindOk fd n (ps ++ rest) (initM ds k) := by
 intro w s W vs Vs X rs hn
 have h1 := rs.length
 have h2 := (hd w.params W).length
 have rsd := rs.append (hd w.params W)
 refine ⟨ps.zip (Vs ++ dV), hb w s Vs X (by omega), fun y hy => ?_, fun i x v hi hv => ?_⟩
 ·exact hl y.1 ((List.of_mem_zip (show (y.1, y.2) ∈ _ from hy)).1)
 ·unfold initM at hv
  have hlt : i < (vs ++ ds).length := by
   rcases Nat.lt_or_ge i ((vs ++ ds).map some).length with h | h
   ·simpa using h
   ·rw [List.getElem?_append_right h, List.getElem?_replicate] at hv
    split at hv <;> cases hv
  rw [List.getElem?_append_left (by simpa using hlt), List.getElem?_map] at hv
  refine ee12 (Option.map_eq_some_iff.mp hv) fun u hu e => ?_
  obtain rfl := Option.some.inj e
  refine ee12 (rsd.get hu) fun V hV rV => ?_
  rw [List.length_append] at hlt
  rw [List.getElem?_append_left (by omega)] at hi
  exact ⟨V, .inl ⟨rfl, lookup_rev (by rw [map_fst_zip (by rw [List.length_append]; omega)]; exact nd) (mem_zip_of hi hV)⟩, rV⟩
section
variable {F : FS}
theorem Ev.callO {fe : PySem.Expr} {es : List PySem.Expr} {addr : Nat} {f : List MV → MM MV} {fa : MM (List MV)} {pos : Pos} (hfe : EvE F fe (MM.pure (.con (.ref addr)))) (ha : EvA F es fa) (hop : OpB F (.ref addr) f) (hk : ∀ P, keepIn (KO P) (.ref addr) = true)
  (hpl : ∀ env, (backTo pos (starEach es env)).any (·.1) = false := by intro _; rfl)
  (hs : ∀ env, eval (.Call fe es [] pos) env = (do callWith pos (← eval fe env) [] (backTo pos (starEach es env)) (backToKw pos (keywordEach [] env))) := by intro _; rfl) : EvE F (.Call fe es [] pos) (fa.bind f) := fun g W st s Q E G =>
 Call_ (hfe.stepE (k := fun _ => fa.bind f) G fun W1 st1 h1 tk1 v V le rv ev G1 => by
  cases ev
  apply rv.eCon
  exact op_callWith (hk _) ha .nil hpl (fun W1 st1 s1 vs Vs rvs G2 => hop rvs G2) G1) (hs _)
def kindOfM (v : MV) : MM MV := match v with
 | .str x => MM.pure (match kindNum (S x) with | some k => .int k | none => .none)
 | _ => MM.fail
theorem op_kindOf (hD : 2 ≤ F.D) : OpB F (.ref 430) (one kindOfM) := by
 intro g W st s Q E vs Vs rs G
 refine G.RE fun m cs R => ?_
 unfold one at G
 refine sg18 G fun _ qs0 G => ?_; subst qs0
 apply rs.eCons; intro _ _ a r
 apply r.eNil
 unfold kindOfM at G
 refine sg29 G fun x qs0 G => ?_; subst qs0
 apply a.eStr; intro _
 have S4 := G.S.le hD
 rw [A_ktr S4]
 refine c_kind_of (Cx.mk S4.B R.F S4.X R.N S4.T S4.K (by have := S4.d; omega) (by have := S4.u; omega)) rfl fun t h' tk' F' N' => ?_
 refine G.out (st2 := st) (b := match kindNum (S x) with | some k => .int k | none => .none) rfl .rfl' ⟨F', N', R.nd, R.loc, R.cells, R.sc⟩ ?_
 cases kindNum (S x) with
 | none => exact .none
 | some k => exact .int
def isLeftM (v : MV) : MM MV := match v with
 | .str x => MM.pure (.bool (leftName (S x)))
 | _ => MM.fail
theorem op_isLeft (hD : 2 ≤ F.D) : OpB F (.ref 437) (one isLeftM) := by
 intro g W st s Q E vs Vs rs G
 refine G.RE fun m cs R => ?_
 unfold one at G
 refine sg18 G fun _ qs0 G => ?_; subst qs0
 apply rs.eCons; intro _ _ a r
 apply r.eNil
 unfold isLeftM at G
 refine sg29 G fun x qs0 G => ?_; subst qs0
 apply a.eStr; intro _
 have S4 := G.S.le hD
 rw [A_ktr S4]
 refine c_is_left (Cx.mk S4.B R.F S4.X R.N S4.T S4.K (by have := S4.d; omega) (by have := S4.u; omega)) rfl fun h' tk' F' N' => ?_
 exact G.out (st2 := st) (b := .bool (leftName (S x))) rfl .rfl' ⟨F', N', R.nd, R.loc, R.cells, R.sc⟩ .bool
end
noncomputable def sn7 (a b c d e f g : Tok) : List (Str × Value) := [(Str.ofString "type", .str (Str.ofString "type") a), (Str.ofString "func", .str (Str.ofString "function") b), (Str.ofString "table", .str (Str.ofString "table") c), (Str.ofString "memory", .str (Str.ofString "memory") d), (Str.ofString "global", .str (Str.ofString "global") e), (Str.ofString "elem", .str (Str.ofString "elem segment") f), (Str.ofString "data", .str (Str.ofString "data segment") g)]
noncomputable def spName (s : Str) : Option Str := (((([(Str.ofString "type", Str.ofString "type"), (Str.ofString "func", Str.ofString "function"), (Str.ofString "table", Str.ofString "table"), (Str.ofString "memory", Str.ofString "memory"), (Str.ofString "global", Str.ofString "global"), (Str.ofString "elem", Str.ofString "elem segment"), (Str.ofString "data", Str.ofString "data segment")] : List (Str × Str)).find? fun p => decide (p.1 = s)).map (·.2)))
theorem spName_at {s nm : Str} (h : spName s = some nm) (a b c d e f g : Tok) : ∃ t, valueAt (sn7 a b c d e f g) s = some (.str nm t) := by
 unfold spName at h
 unfold valueAt sn7
 simp only [List.find?] at h ⊢
 repeat' split at h
 all_goals first
  | (cases h; done)
  | (simp only [Option.map_some, Option.some.injEq] at h; subst h; simp only [*]; exact ⟨_, rfl⟩)
theorem spnames_at {w : World} {h : Heap} (X : (KO w.params).In h) : ∃ a b c d e f g, h.DictOf (strKind pw_nm0149_01 w) 453 (sn7 a b c d e f g) := by
 refine ⟨_, _, _, _, _, _, _, _, _, _, X 453 _ rfl, ⟨rfl, rfl, rfl⟩, rfl, ?_, .cons (strKind_is _ _ _ _) rfl (.cons (strKind_is _ _ _ _) rfl (.cons (strKind_is _ _ _ _) rfl (.cons (strKind_is _ _ _ _) rfl (.cons (strKind_is _ _ _ _) rfl (.cons (strKind_is _ _ _ _) rfl (.cons (strKind_is _ _ _ _) rfl .nil)))))), ?_⟩
 ·intro e he
  simp only [List.mem_toArray, List.mem_cons, List.not_mem_nil, or_false] at he
  rcases he with rfl | rfl | rfl | rfl | rfl | rfl | rfl <;> exact ⟨_, strKind_is _ _ _ _, rfl⟩
 ·show [Str.ofString "type", Str.ofString "func", Str.ofString "table", Str.ofString "memory", Str.ofString "global", Str.ofString "elem", Str.ofString "data"].Nodup
  decide
theorem spname_item {w : World} {A : Around} {E : Value → Shared → Prop} {s : Shared} {h₀ : Heap} {L : Addr} {m : Str → Option Value} {sp nm : Str} {t : Tok} {value slice : PySem.Expr} {Q : Value → Shared → Prop} (F : Fr h₀ L s.heap m) (X₀ : (KO w.params).In h₀) (hn : spName sp = some nm)
  (h : ∀ t', Q (.str nm t') { s with toks := s.toks + 1 })
  (hs : subscripted slice false (.ref 453) (.str sp t) = operate [.ref 453, .str sp t] (getItem (.ref 453) (.str sp t)) := by with_unfolding_all rfl) :
  wpAny (model pw_nm0149_01 w) A (subscriptTail value slice (.ref 453) (.str sp t)) Q E s := by
 refine ee71 (spnames_at X₀) fun a b c d e f g hd => ?_
 obtain ⟨t', ht⟩ := spName_at hn a b c d e f g
 have hm := hd.keep F.keep
 exact tail_any hm.typeIs slot_dict_getitem.lookup (wpAny_getItem_of (strKind_is _ _ _ _) hm.mapOf ht (h t')) hs
section
variable {F : FS}
theorem EvS.no {t : Stmt} : EvS F t MM.fail := fun _ _ _ _ _ _ G => G.none.elim
theorem VR.strE {P : Params} {W : Wd} {x : Str} {xs : List Nat} {t : Tok} (h : x = S xs) : VR P W (.str xs) (.str x t) := by subst h; exact .str
def negM (v : MV) : MM MV := match v with
 | .int i => MM.pure (.int (-i))
 | _ => MM.fail
theorem Ev.neg {e : PySem.Expr} {f : MM MV} {pos : Pos} (he : EvE F e f) : EvE F (.UnaryOp .USub e pos) (f.bind negM) := fun g W st s Q E G =>
 UnaryOp_ (he.step G fun W1 st1 h1 tk1 v V le rv G1 => by
  unfold negM at G1
  refine sg26 G1 fun _ qs0 G1 => ?_; subst qs0
  apply rv.eInt; intro _; exact PyProof.Rows.neg_int (G1.tk .int))
def spnameM (o k : MV) : MM MV := match o, k with
 | .con (.ref a), .str x => match Nat.beq a 453 with
  | true => match spName (S x) with
   | some nm => MM.pure (.str nm.cps.toList)
   | none => MM.fail
  | false => MM.fail
 | _, _ => MM.fail
theorem Ev.spname {value slice : PySem.Expr} {fv fi : MM MV} {pos : Pos} (hv : EvE F value fv) (hi : EvE F slice fi) (hs : ∀ o i, subscripted slice false o i = operate [o, i] (getItem o i) := by intro _ _; with_unfolding_all rfl) : EvE F (.Subscript value slice pos) (fv.bind fun a => fi.bind fun b => spnameM a b) := Ev.sub hv hi (by
 intro n p g W st s Q E a b A B ra rb G
 refine G.RE fun m cs R => ?_
 unfold spnameM at G
 refine sg31 G fun a x qs0 qs1 G => ?_; subst qs0 qs1
 apply ra.eCon
 apply rb.eStr; intro _
 refine sg7 G fun ha G => ?_
 have ha' := Nat.eq_of_beq_eq_true ha
 subst ha'
 refine sg30 G fun nm hn G => ?_
 exact spname_item R.F G.S.X hn (fun t' => by
  have : VR g.w.params W (.str nm.cps.toList) (.str nm t') := VR.str_of
  exact G.tk this) (hs _ _))
noncomputable def SPN : List MV := [.str [116, 121, 112, 101], .str [102, 117, 110, 99], .str [116, 97, 98, 108, 101], .str [109, 101, 109, 111, 114, 121], .str [103, 108, 111, 98, 97, 108], .str [101, 108, 101, 109], .str [100, 97, 116, 97]]
theorem src_spaces {e : PySem.Expr} (he : EvE F e (MM.pure (.con (.ref 452)))) :
  ∀ g W st s Q E (k : List MV → MM MF) (Qi : Value → Shared → Prop), Go F FlR g W st s (k SPN) Q E → (∀ W1 st1 h1 tk1 m cs items I, Rel g F.ns W1 st1 h1 m cs → Src g W1 (cs ++ W1.all) h1 items I → Go F FlR g W1 st1 (Sh s h1 tk1) (k items) Q E → Qi (.ref I) (Sh s h1 tk1)) →
   wpAny (model pw_nm0149_01 g.w) g.A (eval e g.env) (fun xv s1 => wpAny (model pw_nm0149_01 g.w) g.A (pyIter xv) Qi E s1) E s :=
 src_ktup he fun P => ⟨[.str "type" 840, .str "func" 841, .str "table" 842, .str "memory" 843, .str "global" 844, .str "elem" 845, .str "data" 846], 0, none, #[], rfl, fun W => .cons (VR.strE (by decide +kernel)) (.cons (VR.strE (by decide +kernel)) (.cons (VR.strE (by decide +kernel)) (.cons (VR.strE (by decide +kernel)) (.cons (VR.strE (by decide +kernel)) (.cons (VR.strE (by decide +kernel)) (.cons (VR.strE (by decide +kernel)) (.nil)))))))⟩
end
open PyProof.Rows.LCg in
theorem bad_ne' {G h : Heap} {l : List Env} {C e de t cA : Addr} {oC : Obj} {vs : List Value} {news : List (Addr × Obj)} {P : Params} {t1 t2 t3 tw tr tc : Tok} {why : Str} {row col : Int} {m₂ : Str → Option Value} {v : Value} {x : Str}
  (R : RB base G l C e de t vs ((de, badD P t1 t2 t3 why tw row tr col tc) :: news) h) (hm : (cA, oC) ∈ news) (hC : NsObj oC m₂) (hx : m₂ x = some v) (hn : ∀ a b c, nsFind #[kv P "why" t1 a, kv P "row" t2 b, kv P "column" t3 c] x = none) : de ≠ cA := by
 obtain ⟨⟨⟨B, _, _, hl, _, _⟩, _⟩, _⟩ := R
 rintro rfl
 have h1 := (hl _ (.head _)).1
 have h2 := (hl _ (.tail _ hm)).1
 have e1 : badD P t1 t2 t3 why tw row tr col tc = oC := Option.some.inj (h1.symm.trans h2)
 refine ee23 hC fun es ep hd _ hf => ?_
 rw [← e1] at hd
 have e2 : (#[kv P "why" t1 (.str why tw), kv P "row" t2 (.int row tr), kv P "column" t3 (.int col tc)] : Array DictEntry) = es := by injection hd
 have := hf x
 rw [← e2, hn, hx] at this
 exact nsE this
theorem nodup_sub : ∀ (l : List (Addr × Obj)), (∀ p ∈ l, ∀ q ∈ l, p.1 = q.1 → p = q) → ∃ R : List (Addr × Obj), (R.map (·.1)).Nodup ∧ ∀ p, p ∈ R ↔ p ∈ l
 | [], _ => ⟨[], List.nodup_nil, fun _ => Iff.rfl⟩
 | a :: l, hf => by
  refine ee12 (nodup_sub l fun p hp q hq => hf p (.tail _ hp) q (.tail _ hq)) fun R h1 h2 => ?_
  by_cases ha : a ∈ l
  ·refine ⟨R, h1, fun p => ⟨fun h => .tail _ ((h2 p).mp h), fun h => ?_⟩⟩
   apply mcE h
   ·exact (h2 _).mpr ha
   ·intro h; exact (h2 _).mpr h
  ·refine ⟨a :: R, ?_, fun p => ?_⟩
   ·rw [List.map_cons, List.nodup_cons]
    refine ⟨fun hm => ?_, h1⟩
    refine ee12 (List.mem_map.mp hm) fun q hq e => ?_
    have := hf q (.tail _ ((h2 q).mp hq)) a (.head _) e
    exact ha (this ▸ (h2 q).mp hq)
   ·rw [List.mem_cons, List.mem_cons, h2]
theorem relabel_id {scope : Scope} {env : Env} (h : ∀ y ∈ scope.names, y.2 ≠ .free) : relabel scope env = scope := by
 unfold relabel
 have : (scope.names.map fun (n, k) => if (k == NameKind.free && env.scope.kind == .function && env.kindOf n == some .cell) then (n, NameKind.cell) else (n, k)) = scope.names := by
  conv => rhs; rw [← List.map_id scope.names]
  refine List.map_congr_left fun p hp => ?_
  obtain ⟨n, k⟩ := p
  have hk : (k == NameKind.free) = false := by
   have := h _ hp
   cases k <;> first | rfl | exact absurd rfl this
  show (if _ then _ else _) = id (n, k)
  rw [if_neg (by rw [hk]; simp)]
  rfl
 rw [this]
noncomputable def flat : MV → Bool
 | .none | .bool _ | .int _ | .str _ => true
 | _ => false
theorem VR.flat {P : Params} {W W' : Wd} {v : MV} {V : Value} (h : VR P W v V) (hf : flat v = true) : VR P W' v V := by
 cases h <;> first | exact .none | exact .bool | exact .int | exact .str | exact ftE hf
def compRun (f : FF) : List Tr → Option (Out (List MV))
 | [] => some (.val [])
 | t :: r => match f [.tree t] [] with
  | some (.val v, _) => match flat v with
   | true => match compRun f r with
    | some (.val vs) => some (.val (v :: vs))
    | some (.bad w a b) => some (.bad w a b)
    | none => none
   | false => none
  | some (.bad w a b, _) => some (.bad w a b)
  | none => none
noncomputable def preV (vs : List MV) : Option (Out (List MV)) → Option (Out (List MV))
 | some (.val ws) => some (.val (vs ++ ws))
 | r => r
theorem preV_cons {f : FF} {v : MV} {μ : List MO} {t : Tr} {r : List Tr} {vs : List MV} (h : f [.tree t] [] = some (.val v, μ)) (hf : flat v = true) : preV vs (compRun f (t :: r)) = preV (vs ++ [v]) (compRun f r) := by
 show preV vs (match f [.tree t] [] with
  | some (.val v, _) => match flat v with
   | true => match compRun f r with
    | some (.val vs) => some (.val (v :: vs))
    | some (.bad w a b) => some (.bad w a b)
    | none => none
   | false => none
  | some (.bad w a b, _) => some (.bad w a b)
  | none => none) = _
 rw [h]
 dsimp only
 rw [hf]
 cases compRun f r with
 | none => rfl
 | some o => cases o with
  | val ws => show some (Out.val (vs ++ v :: ws)) = some (Out.val (vs ++ [v] ++ ws)); rw [List.append_assoc]; rfl
  | bad => rfl
def compM (f : FF) (v : MV) : MM MV := match v with
 | .trees ts => match Nat.ble ts.length 1000000 with
  | true => fun st => match compRun f ts with
   | some (.val vs) => some (.val (.obj st.μ.length), ⟨st.m, st.μ ++ [.list vs]⟩)
   | some (.bad w r c) => some (.bad w r c, st)
   | none => none
  | false => MM.fail
 | _ => MM.fail
section
open PyProof.Rows.LCg
variable {F : FS}
theorem Ev.compF {x fn : Str} {addr D : Nat} {f : FF} {fi : MM MV} {iter : PySem.Expr} {p1 p2 p3 px pos : Pos} {scope : Scope} (hit : EvE F iter fi) (hf : FnR addr D f) (hD : D ≤ F.D)
  (hfree : ∀ y ∈ scope.names, y.2 ≠ .free) (hcell : ∀ y ∈ scope.names, y.2 ≠ .cell) (hkind : scope.kind = .function) (hnames : ∀ y ∈ scope.names, y.2 = .local → scope.names.lookup y.1 = some .local) (hx : scope.names.lookup x = some .local)
  (hfn : scope.names.lookup fn = some .globalImplicit) (hg : ∀ P, nsIn (KO P) mainGlobals fn = some (some (.ref addr))) (hk : ∀ P, keepIn (KO P) (.ref addr) = true) (hd1 : (x == ("__debug__" : Str)) = false) (hd2 : (fn == ("__debug__" : Str)) = false)
  (hn : ∀ (P : Params) t1 t2 t3 a b c, nsFind #[kv P "why" t1 a, kv P "row" t2 b, kv P "column" t3 c] x = none)
  (hs : ∀ env x, foldedSetIterable iter env x = pure x := by intro _ _; rfl)
  (hpl : ∀ env, (backTo p3 (starEach [PySem.Expr.Name x p2] env)).any (·.1) = false := by intro _; rfl)
  (hst : ∀ env, starEach [PySem.Expr.Name x p2] env = (false, eval (.Name x p2) env) :: starEach [] env := by intro _; rfl)
  (hcl : ∀ env, eval (.Call (.Name fn p1) [.Name x p2] [] p3) env = (do callWith p3 (← eval (.Name fn p1) env) [] (backTo p3 (starEach [.Name x p2] env)) (backToKw p3 (keywordEach [] env))) := by intro _; rfl) :
  EvE F (.ListComp (.Call (.Name fn p1) [.Name x p2] [] p3) [⟨.Name x px, iter, [], 0⟩] scope pos) (fi.bind (compM f)) := fun g W st s Q E G => by
 have hS := G.S
 have hrel : ∀ env, relabel scope env = scope := fun env => relabel_id hfree
 refine comp_raise (base := g.base) (h₀ := g.h₀) (L := g.L) hfree hcell hkind hnames hx (hrel _) rfl hS.fr hS.hd (hit.step G fun W1 st1 h1 tk1 v V le rv G1 => ?_) (hs _)
 unfold compM at G1
 refine sg32 G1 fun ts qs0 G1 => ?_; subst qs0
 refine sg7 G1 fun hz G1 => ?_
 have hz := Nat.le_of_ble_eq_true hz
 refine G1.oG fun hcs _ m cs R o st' e hP => ?_
 apply rv.eTrees; intro _ _ _ hm hlen hts
 rename_i l k vs
 have hm' : (l, _root_.PySem.W.listOf (vs : List Value).toArray k) ∈ cs ++ W1.all := List.mem_append_right _ (W1.mem hm)
 have hl := hts.length
 refine ⟨m, l, vs.toArray, k, cs ++ W1.all, fun i ys => ∃ ms, (∀ W', VRs g.w.params W' ms ys) ∧ ms.length = i ∧ compRun f ts = preV ms (compRun f (ts.drop i)), ⟨rfl, R.F, R.N, hm', ?_, ?_, ?_, ?_⟩⟩
 ·rw [sizeLine_eq, List.size_toArray]; omega
 ·refine ⟨[], fun _ => .nil, rfl, ?_⟩
  rw [List.drop_zero]
  cases compRun f ts with
  | none => rfl
  | some o => cases o <;> rfl
 ·rintro i v ys C oC I oI D h tk m₂ hv ⟨ms, hms, hmi, hrun⟩ hC hmx F' N'
  rw [List.getElem?_toArray] at hv
  obtain ⟨t, ht, htt⟩ : ∃ t, ts[i]? = some t ∧ TAt g.w.params W1.R v t := by
   cases ht : ts[i]? with
   | none => have h1 := List.getElem?_eq_none_iff.mp ht; have h2 := (List.getElem?_eq_some_iff.mp hv).1; omega
   | some t =>
    refine ee12 (hts.at ht) fun v' h1 h2 => ?_
    rw [hv] at h1; obtain rfl := Option.some.inj h1
    exact ⟨t, rfl, h2⟩
  have hdrop : ts.drop i = t :: ts.drop (i + 1) := by
   obtain ⟨hi, rfl⟩ := List.getElem?_eq_some_iff.mp ht
   exact List.drop_eq_getElem_cons hi
  rw [hdrop] at hrun
  obtain ⟨R', nd', hR'⟩ := nodup_sub ((I, oI) :: (C, oC) :: (D, lst ys) :: (cs ++ W1.all)) fun p hp q hq e => by
   have h1 := (N' p hp).1
   have h2 := (N' q hq).1
   rw [e, h2] at h1
   exact Prod.ext e (Option.some.inj h1).symm
  have sub : ∀ {ρ' : List Addr} {W' : Wd} {cs' : List (Addr × Obj)}, (⟨ρ', R', W1.sc, []⟩ : Wd).Le W' → ∀ p ∈ (I, oI) :: (C, oC) :: (D, lst ys) :: (cs ++ W1.all), p ∈ cs' ++ W'.all := fun le p hp => List.mem_append_right _ (List.mem_append_left _ (le.R p ((hR' p).mpr hp)))
  have Rin : Rel g [] ⟨[], R', W1.sc, []⟩ ⟨[], []⟩ h m [] := ⟨F', fun p hp => N' p ((hR' p).mp (by simpa using hp)), by simpa using nd', fun i x v h => (by exact nsE h), .nil, R.sc⟩
  have htt' : VR g.w.params ⟨[], R', W1.sc, []⟩ (.tree t) v := .tree (htt.mono fun p hp => (hR' p).mpr (.tail _ (.tail _ (.tail _ (List.mem_append_right _ (W1.mem hp))))))
  refine Call_ (LCgL.ld_global F' hS.X hS.T (hg _) (callWith_of (by rw [hpl]; rfl) (keeps_K (hk g.w.params)) (evalArgs_any (hpl _) (args_cons (LCgL.ld_own N' (.tail _ (.head _)) hC hmx (args_nil ⟨hS.X' F', ?_⟩) hkind (by show List.lookup x (relabel scope g.env).names = _; rw [hrel]; exact hx) hd1) (hst _)))) rfl hkind (by show List.lookup fn (relabel scope g.env).names = _; rw [hrel]; exact hfn) hd2) (hcl _)
  cases ef : f [.tree t] [] with
  | none =>
   exfalso
   have : compRun f (t :: ts.drop (i + 1)) = none := by unfold compRun; rw [ef]
   rw [this] at hrun
   rw [hrun] at e
   exact nsE e
  | some q =>
   obtain ⟨o1, μ'⟩ := q
   refine wpAny_call (hf [] g ⟨[], R', W1.sc, []⟩ [] [] _ [.tree t] [v] _ o1 μ' m [] (hS.le hD) Rin (.cons htt' .nil) ef ?_)
   cases o1 with
   | val b =>
    intro W2 h2 tk2 cs2 V le2 R2 rV
    cases hfl : flat b with
    | false =>
     exfalso
     have : compRun f (t :: ts.drop (i + 1)) = none := by unfold compRun; rw [ef]; dsimp only; rw [hfl]
     rw [this] at hrun
     rw [hrun] at e
     exact nsE e
    | true =>
     refine ⟨h2, tk2, rfl, R2.F, fun p hp => R2.N p (sub le2 p hp), ms ++ [b], fun W' => (hms W').append (.cons (rV.flat hfl) .nil), by rw [List.length_append, hmi]; rfl, ?_⟩
     rw [hrun, preV_cons ef hfl]
   | bad w r c =>
    rintro W2 h2 tk2 ea le2 ⟨cs2, G2, t2, de, ta, tb, tc, twy, trw, tcl, Y, RB2⟩
    have RB3 := RB2.subR (news' := (de, badD g.w.params ta tb tc (S w) twy r trw c tcl) :: (I, oI) :: (C, oC) :: (D, lst ys) :: (cs ++ W1.all)) (mem_tail1 (sub le2))
    refine ⟨G2, ea, de, _, t2, _, h2, tk2, rfl, rfl, Y.F, RB3, Y.U, bad_ne' RB3 (.tail _ (.head _)) hC hmx (hn _ _ _ _), fun h3 tk3 HB3 U3 => ?_⟩
    have e1 : compRun f ts = some (.bad w r c) := by
     rw [hrun]
     have : compRun f (t :: ts.drop (i + 1)) = some (.bad w r c) := by unfold compRun; rw [ef]
     rw [this]; rfl
    rw [e1] at e
    have hP := hP.eqs e
    exact hP W1 h3 tk3 m ea .rfl' (.held ⟨Y.F, R.loc, R.nd, R.cells, R.sc, U3⟩ HB3)
 ·rintro ys D h tk ⟨ms, hms, hmi, hrun⟩ F' N' hne
  have e1 : compRun f ts = some (.val ms) := by
   rw [hrun, List.size_toArray, hl, List.drop_length]
   show some (Out.val (ms ++ [])) = _
   rw [List.append_nil]
  rw [List.size_toArray] at hmi
  refine G1.out (st2 := ⟨st1.m, st1.μ ++ [.list ms]⟩) (b := .obj st1.μ.length) (by rw [e1]) Wd.le_snoc (R.snoc (es := [(D, lst ys)]) F' N' (by simp) (fun p hp q hq => by rw [List.mem_singleton.mp hq]; exact hne p hp) (.list (hms _) (by omega))) (.obj R.idx)
end
theorem rngE {a a' b b' : Int} (h : a = a') (k : b = b') : sliceRange a b 1 = sliceRange a' b' 1 := by rw [h, k]
theorem idxE (a b n : Nat) : Builtin.Str.strSliceIndices (some (a : Int)) (some (b : Int)) 1 n = Builtin.Str.strSliceIndices (some ((min a n : Nat) : Int)) (some ((min b n : Nat) : Int)) 1 n := by
 have q : ∀ i : Nat, min (min i n) n = min i n := fun i => Nat.min_eq_left (Nat.min_le_right ..)
 have e : ∀ i : Nat, _ = _ := fun i => (clipE i n).trans ((congrArg Nat.cast (q i).symm).trans (clipE (min i n) n).symm)
 exact rngE (e a) (e b)
theorem take_min (xs : List Nat) {a b : Nat} (h : a ≤ b) : (xs.drop (min a xs.length)).take (min b xs.length - min a xs.length) = (xs.take b).drop a := by
 rw [List.drop_take]
 rcases Nat.le_total b xs.length with q | q
 ·rw [Nat.min_eq_left q, Nat.min_eq_left (Nat.le_trans h q)]
 ·rw [Nat.min_eq_right q, kmk_drop_min, List.take_of_length_le (i := b - a) (by rw [List.length_drop]; exact Nat.sub_le_sub_right q a), List.take_of_length_le (by rw [List.length_drop]; exact Nat.sub_le_sub_left (Nat.min_le_left ..) _)]
theorem slice_nat {xs : List Nat} {a b : Nat} (h : a ≤ b) : Txt.slice (S xs) (some (a : Int)) (some (b : Int)) = S ((xs.take b).drop a) := by
 have hl : (S xs).length = xs.length := rfl
 have e : Txt.slice (S xs) (some (a : Int)) (some (b : Int)) = Txt.slice (S xs) (some ((min a xs.length : Nat) : Int)) (some ((min b xs.length : Nat) : Int)) := by
  unfold Txt.slice
  rw [hl, idxE a b xs.length]
 rw [e]
 refine (StrLaws.sliceText_nat (S xs) (a := min a xs.length) (b := min b xs.length) ?_ (Nat.min_le_right ..)).trans ?_
 ·exact Nat.le_min.mpr ⟨Nat.le_trans (Nat.min_le_left ..) h, Nat.min_le_right ..⟩
 ·exact congrArg (fun l : List Nat => (⟨l.toArray⟩ : Str)) (take_min xs h)
theorem slice_at {xs : List Nat} {a b : Int} (ha : 0 ≤ a) (hb : a ≤ b) : Txt.slice (S xs) (some a) (some b) = S ((xs.take b.toNat).drop a.toNat) := by
 have e1 := Int.toNat_of_nonneg ha
 have e2 := Int.toNat_of_nonneg (Int.le_trans ha hb)
 have := slice_nat (xs := xs) (Int.toNat_le_toNat hb)
 rwa [e1, e2] at this
theorem slice_to {xs : List Nat} {b : Int} (hb : 0 ≤ b) : Txt.slice (S xs) none (some b) = S (xs.take b.toNat) := by
 have : Txt.slice (S xs) none (some b) = Txt.slice (S xs) (some 0) (some b) := by
  have e1 : Builtin.Str.strSliceIndices none (some b) 1 (S xs).length = Builtin.Str.strSliceIndices (some 0) (some b) 1 (S xs).length :=
   rngE ((congrArg Nat.cast (Nat.zero_min _).symm).trans (clipE 0 _).symm) rfl
  unfold Txt.slice
  rw [e1]
 rw [this, slice_at (Int.le_refl _) hb]; rfl
theorem slice_from {xs : List Nat} {a : Int} (ha : 0 ≤ a) : Txt.slice (S xs) (some a) none = S (xs.drop a.toNat) := by
 have hl : (S xs).length = xs.length := rfl
 obtain ⟨a, rfl⟩ := Int.eq_ofNat_of_zero_le ha
 have : Txt.slice (S xs) (some (a : Int)) none = Txt.slice (S xs) (some (a : Int)) (some ((max a xs.length : Nat) : Int)) := by
  have e1 : Builtin.Str.strSliceIndices (some (a : Int)) none 1 xs.length = Builtin.Str.strSliceIndices (some (a : Int)) (some ((max a xs.length : Nat) : Int)) 1 xs.length :=
   rngE rfl ((congrArg Nat.cast (Nat.min_eq_right (Nat.le_max_right a xs.length)).symm).trans (clipE (max a xs.length) xs.length).symm)
  unfold Txt.slice
  rw [hl, e1]
 rw [this, slice_nat (Nat.le_max_left ..)]
 exact congrArg (fun l => S (l.drop a)) (List.take_of_length_le (Nat.le_max_right ..))
section
variable {prog : Program} {w : World} {A : Around} {E : Value → Shared → Prop} {s : Shared} {value slice : PySem.Expr} {t : Tok} {h₀ : Heap} {L : Addr} {m : Str → Option Value} {news : List (Addr × Obj)} {Q : Value → Shared → Prop} {xs : List Nat}
theorem slice_Sto {b : Int} {ub : Tok} (F : Fr h₀ L s.heap m) (N : News h₀ L s.heap news) (hb : 0 ≤ b) (hz : xs.length ≤ 16777216)
  (h : ∀ h' t' k, Fr h₀ L h' m → News h₀ L h' news → Q (.str (S (xs.take b.toNat)) t') { s with heap := h', toks := k })
  (hs : subscripted slice false (.str (S xs) t) (.ref s.heap.objs.size) = operate [.ref s.heap.objs.size, .str (S xs) t] (getItem (.str (S xs) t) (.ref s.heap.objs.size)) := by with_unfolding_all rfl)
  (ht : ∀ r, letTemporaryGo value (.str (S xs) t) r = pure () := by intro _; with_unfolding_all rfl) :
  wpAny (model prog w) A (subscriptTail value slice (.str (S xs) t) (.ref s.heap.objs.size)) Q E { s with heap := s.heap.push { cls := .type "slice", data := .fields #[.none, .int b ub, .none] } } :=
 slice_strN_ns F N (fun h' t' k F' N' => by rw [slice_to hb]; exact h h' t' k F' N') hs ht (by rw [show (S xs).length = xs.length by simp [S, Str.length], sizeLine_eq]; omega)
theorem slice_Sfrom {a : Int} {ua : Tok} (F : Fr h₀ L s.heap m) (N : News h₀ L s.heap news) (ha : 0 ≤ a) (hz : xs.length ≤ 16777216)
  (h : ∀ h' t' k, Fr h₀ L h' m → News h₀ L h' news → Q (.str (S (xs.drop a.toNat)) t') { s with heap := h', toks := k })
  (hs : subscripted slice false (.str (S xs) t) (.ref s.heap.objs.size) = operate [.ref s.heap.objs.size, .str (S xs) t] (getItem (.str (S xs) t) (.ref s.heap.objs.size)) := by with_unfolding_all rfl)
  (ht : ∀ r, letTemporaryGo value (.str (S xs) t) r = pure () := by intro _; with_unfolding_all rfl) :
  wpAny (model prog w) A (subscriptTail value slice (.str (S xs) t) (.ref s.heap.objs.size)) Q E { s with heap := s.heap.push { cls := .type "slice", data := .fields #[.int a ua, .none, .none] } } :=
 slice_strN_sn F N (fun h' t' k F' N' => by rw [slice_from ha]; exact h h' t' k F' N') hs ht (by rw [show (S xs).length = xs.length by simp [S, Str.length], sizeLine_eq]; omega)
theorem slice_S {a b : Int} {ua ub : Tok} (F : Fr h₀ L s.heap m) (N : News h₀ L s.heap news) (ha : 0 ≤ a) (hb : a ≤ b) (hz : xs.length ≤ 16777216)
  (h : ∀ h' t' k, Fr h₀ L h' m → News h₀ L h' news → Q (.str (S ((xs.take b.toNat).drop a.toNat)) t') { s with heap := h', toks := k })
  (hs : subscripted slice false (.str (S xs) t) (.ref s.heap.objs.size) = operate [.ref s.heap.objs.size, .str (S xs) t] (getItem (.str (S xs) t) (.ref s.heap.objs.size)) := by with_unfolding_all rfl)
  (ht : ∀ r, letTemporaryGo value (.str (S xs) t) r = pure () := by intro _; with_unfolding_all rfl) :
  wpAny (model prog w) A (subscriptTail value slice (.str (S xs) t) (.ref s.heap.objs.size)) Q E { s with heap := s.heap.push { cls := .type "slice", data := .fields #[.int a ua, .int b ub, .none] } } :=
 slice_strN_ss_len F N (fun h' t' k F' N' _ => by rw [slice_at ha hb]; exact h h' t' k F' N') hs ht (by rw [show (S xs).length = xs.length by simp [S, Str.length], sizeLine_eq]; omega)
end
section
variable {F : FS}
def fromS (v k : MV) : MM MV := match v, k with
 | .str xs, .int a => match decide (0 ≤ a) && Nat.ble xs.length 16777216 with
  | true => MM.pure (.str (xs.drop a.toNat))
  | false => MM.fail
 | _, _ => MM.fail
def toS (v k : MV) : MM MV := match v, k with
 | .str xs, .int b => match decide (0 ≤ b) && Nat.ble xs.length 16777216 with
  | true => MM.pure (.str (xs.take b.toNat))
  | false => MM.fail
 | _, _ => MM.fail
def midS (v k l : MV) : MM MV := match v, k, l with
 | .str xs, .int a, .int b => match decide (0 ≤ a) && decide (a ≤ b) && Nat.ble xs.length 16777216 with
  | true => MM.pure (.str ((xs.take b.toNat).drop a.toNat))
  | false => MM.fail
 | _, _, _ => MM.fail
set_option tactic.hygienic true in
theorem Ev.sliceFromS {value lo : PySem.Expr} {fv fl : MM MV} {sp pos : Pos} (hv : EvE F value fv) (hl : EvE F lo fl)
  (ht : ∀ xs t r, letTemporaryGo value (.str (S xs) t) r = pure () := by intro _ _ _; with_unfolding_all rfl) : EvE F (.Subscript value (.Slice (some lo) none none sp) pos) (fv.bind fun v => fl.bind fun k => fromS v k) := fun g W st s Q E G =>
 Subscript_ (hv.step G fun W1 st1 h1 tk1 v V le rv G1 => wpAny_Slice (evalPart_some_step (hl.step G1 fun W2 st2 h2 tk2 k K le2 rk G2 => evalPart_none_step (evalPart_none_step (by
  have rv2 := rv.mono le2
  refine G2.RE fun m cs R => ?_
  unfold fromS at G2
  split at G2
  ·rename_i xs a
   refine sg7 G2 fun hn G2 => ?_
   have hn' := Bool.and_eq_true_iff.mp hn
   apply rk.eInt; intro _
   apply rv2.eStr; intro _
   refine slice_Sfrom (s := Sh (Sh s h1 tk1) h2 tk2) R.F R.N (of_decide_eq_true hn'.1) (Nat.le_of_ble_eq_true hn'.2) (fun h' t' k F' N' => ?_) (by with_unfolding_all rfl) (ht _ _)
   exact G2.out rfl .rfl' ⟨F', N', R.nd, R.loc, R.cells, R.sc⟩ .str
  ·exact G2.none.elim)))))
set_option tactic.hygienic true in
theorem Ev.sliceToS {value hi : PySem.Expr} {fv fl : MM MV} {sp pos : Pos} (hv : EvE F value fv) (hl : EvE F hi fl)
  (ht : ∀ xs t r, letTemporaryGo value (.str (S xs) t) r = pure () := by intro _ _ _; with_unfolding_all rfl) : EvE F (.Subscript value (.Slice none (some hi) none sp) pos) (fv.bind fun v => fl.bind fun k => toS v k) := fun g W st s Q E G =>
 Subscript_ (hv.step G fun W1 st1 h1 tk1 v V le rv G1 => wpAny_Slice (evalPart_none_step (evalPart_some_step (hl.step G1 fun W2 st2 h2 tk2 k K le2 rk G2 => evalPart_none_step (by
  have rv2 := rv.mono le2
  refine G2.RE fun m cs R => ?_
  unfold toS at G2
  split at G2
  ·rename_i xs a
   refine sg7 G2 fun hn G2 => ?_
   have hn' := Bool.and_eq_true_iff.mp hn
   apply rk.eInt; intro _
   apply rv2.eStr; intro _
   refine slice_Sto (s := Sh (Sh s h1 tk1) h2 tk2) R.F R.N (of_decide_eq_true hn'.1) (Nat.le_of_ble_eq_true hn'.2) (fun h' t' k F' N' => ?_) (by with_unfolding_all rfl) (ht _ _)
   exact G2.out rfl .rfl' ⟨F', N', R.nd, R.loc, R.cells, R.sc⟩ .str
  ·exact G2.none.elim)))))
set_option tactic.hygienic true in
theorem Ev.sliceMidS {value lo hi : PySem.Expr} {fv fl fh : MM MV} {sp pos : Pos} (hv : EvE F value fv) (hl : EvE F lo fl) (hh : EvE F hi fh)
  (ht : ∀ xs t r, letTemporaryGo value (.str (S xs) t) r = pure () := by intro _ _ _; with_unfolding_all rfl) : EvE F (.Subscript value (.Slice (some lo) (some hi) none sp) pos) (fv.bind fun v => fl.bind fun k => fh.bind fun l => midS v k l) := fun g W st s Q E G =>
 Subscript_ (hv.step G fun W1 st1 h1 tk1 v V le rv G1 => wpAny_Slice (evalPart_some_step (hl.step G1 fun W2 st2 h2 tk2 k K le2 rk G2 => evalPart_some_step (hh.step G2 fun W3 st3 h3 tk3 l L le3 rl G3 => evalPart_none_step (by
  have rv2 := (rv.mono le2).mono le3
  have rk2 := rk.mono le3
  refine G3.RE fun m cs R => ?_
  unfold midS at G3
  split at G3
  ·rename_i xs a b
   refine sg7 G3 fun hn G3 => ?_
   have hn' := Bool.and_eq_true_iff.mp hn
   have hn2 := Bool.and_eq_true_iff.mp hn'.1
   apply rk2.eInt; intro _
   apply rl.eInt; intro _
   apply rv2.eStr; intro _
   refine slice_S (s := Sh (Sh (Sh s h1 tk1) h2 tk2) h3 tk3) R.F R.N (of_decide_eq_true hn2.1) (of_decide_eq_true hn2.2) (Nat.le_of_ble_eq_true hn'.2) (fun h' t' k F' N' => ?_) (by with_unfolding_all rfl) (ht _ _)
   exact G3.out rfl .rfl' ⟨F', N', R.nd, R.loc, R.cells, R.sc⟩ .str
  ·exact G3.none.elim)))))
theorem Ev.globS {x X : Str} {xs : List Nat} {t : Tok} {pos : Pos} (hn : ∀ P, nsIn (KO P) mainGlobals x = some (some (.str X t))) (hX : X = S xs) (hk : F.sc.names.lookup x = some .globalImplicit) (hd : (x == ("__debug__" : Str)) = false) : EvE F (.Name x pos) (MM.pure (.str xs)) := by
 intro g W st s Q E G
 have G' := G
 obtain ⟨hcs, S, ⟨m, cs, R⟩, -⟩ := G'
 exact nameX_K R.F S.X (topRead_of S.T) (hn _) (G.ret (.strE hX)) S.K (by show g.cs.names.lookup x = _; rw [hcs.eq]; exact hk) hd
end
section
variable {F : FS}
def treesK (f : MM MV) (k : List MV → MM MF) : MM MF := f.bind fun v => match v with
 | .trees ts => k (ts.map .tree)
 | _ => MM.fail
theorem src_trees {e : PySem.Expr} {f : MM MV} (he : EvE F e f) :
  ∀ g W st s Q E (k : List MV → MM MF) (Qi : Value → Shared → Prop), Go F FlR g W st s (treesK f k) Q E → (∀ W1 st1 h1 tk1 m cs items I, Rel g F.ns W1 st1 h1 m cs → Src g W1 (cs ++ W1.all) h1 items I → Go F FlR g W1 st1 (Sh s h1 tk1) (k items) Q E → Qi (.ref I) (Sh s h1 tk1)) →
   wpAny (model pw_nm0149_01 g.w) g.A (eval e g.env) (fun xv s1 => wpAny (model pw_nm0149_01 g.w) g.A (pyIter xv) Qi E s1) E s := by
 intro g W st s Q E k Qi G hq
 refine he.step G fun W1 st1 h1 tk1 v V le rv G1 => ?_
 refine sg32 G1 fun ts qs0 G1 => ?_; subst qs0
 refine G1.RE fun m cs R => ?_
 apply rv.eTrees; intro l kk vs ha hz hr
 have hm : (l, _root_.PySem.W.listOf (vs : List Value).toArray kk) ∈ cs ++ W1.all := List.mem_append_right _ (W1.mem ha)
 have hl : h1.IsList l vs.toArray := R.N.isList hm
 refine wpAny_pyIter_list hl ?_
 have R2 := R.push (o := { cls := .type "list_iterator", data := .fields #[.ref l, .int 0 0] })
 refine hq _ _ _ _ m cs (ts.map .tree) _ R2 ?_ (G1.move R2)
 have hlen := hr.length
 have hlt : l < h1.objs.size := Heap.lt_size (R.N _ hm).1
 refine ⟨[h1.objs.size, l], (fun i v => vs.toArray[i]? = some v), (fun i h => h.IsListIter h1.objs.size l i ∧ h.IsList l vs.toArray), by rw [List.length_map, ← hlen, ← List.size_toArray]; exact Walks.list G.S.hd _ l (Nat.ne_of_lt hlt) vs.toArray, ?_, R.newAddr, News.lt R.N, ⟨⟨_, Heap.get?_push_size _ rfl, rfl, rfl⟩, hl.at fun o e => Heap.get?_push_of_some _ e⟩, ?_, ?_, ?_⟩
 ·intro hmm
  rcases List.mem_cons.mp hmm with q | hmm
  ·exact absurd R.F.ns.lt (by rw [q]; exact Nat.lt_irrefl _)
  ·exact (R.N _ hm).2.1 (List.mem_singleton.mp hmm).symm
 ·intro b hb hne
  rcases List.mem_cons.mp hb with q | hb
  ·exact absurd q hne
  ·rw [List.mem_singleton.mp hb]
   exact .inr ⟨_, List.mem_append_left _ ha⟩
 ·rintro i h ⟨⟨o, ho, _⟩, _⟩
  exact ⟨o, ho⟩
 ·intro i v hi hv
  have hv' : vs[i]? = some v := by simpa using hv
  obtain ⟨t, ht⟩ : ∃ t, ts[i]? = some t := ⟨_, List.getElem?_eq_getElem (by simpa using hi)⟩
  refine ee12 (hr.at ht) fun V hV rV => ?_
  rw [hv'] at hV
  obtain rfl := Option.some.inj hV
  exact ⟨.tree t, by rw [List.getElem?_map, ht]; rfl, .tree rV⟩
def strK (f : MM MV) (k : List MV → MM MF) : MM MF := f.bind fun v => match v with
 | .str xs => k (xs.map fun c => .str [c])
 | _ => MM.fail
theorem src_str {e : PySem.Expr} {f : MM MV} (he : EvE F e f) :
  ∀ g W st s Q E (k : List MV → MM MF) (Qi : Value → Shared → Prop), Go F FlR g W st s (strK f k) Q E → (∀ W1 st1 h1 tk1 m cs items I, Rel g F.ns W1 st1 h1 m cs → Src g W1 (cs ++ W1.all) h1 items I → Go F FlR g W1 st1 (Sh s h1 tk1) (k items) Q E → Qi (.ref I) (Sh s h1 tk1)) →
   wpAny (model pw_nm0149_01 g.w) g.A (eval e g.env) (fun xv s1 => wpAny (model pw_nm0149_01 g.w) g.A (pyIter xv) Qi E s1) E s := by
 intro g W st s Q E k Qi G hq
 refine he.step G fun W1 st1 h1 tk1 v V le rv G1 => ?_
 refine sg29 G1 fun xs qs0 G1 => ?_; subst qs0
 refine G1.RE fun m cs R => ?_
 apply rv.eStr; intro t
 have go : ∀ (T : String) (o : Obj), Walks pw_nm0149_01 g.w g.A h1.objs.size [h1.objs.size] [h1.objs.size] (S xs).cps.size (SignAt (S xs)) (fun i h => h.IsStrIter h1.objs.size T (S xs) t i) → (h1.push o).IsStrIter h1.objs.size T (S xs) t 0 → o.isFreed = false →
   Qi (.ref h1.objs.size) (Sh s (h1.push o) tk1) := by
  intro T o W hst hof
  have R2 := R.push (o := o) hof
  refine hq _ _ _ _ m cs (xs.map fun c => .str [c]) _ R2 ?_ (G1.move R2)
  refine ⟨[h1.objs.size], _, _, by rw [List.length_map]; exact W, ?_, R.newAddr, News.lt R.N, hst, ?_, ?_, ?_⟩
  ·intro hmm
   exact absurd R.F.ns.lt (by rw [List.mem_singleton.mp hmm]; exact Nat.lt_irrefl _)
  ·intro b hb hne
   exact absurd (List.mem_singleton.mp hb) hne
  ·rintro i h ⟨o, ho, _⟩
   exact ⟨o, ho⟩
  ·rintro i v hi ⟨c, u, hx, rfl⟩
   have hx' : xs[i]? = some c := by simpa using hx
   exact ⟨.str [c], by rw [List.getElem?_map, hx']; rfl, .str⟩
 cases ha : (S xs).cps.all (· < 128)
 ·exact wpAny_pyIter_wide ha (go "str_iterator" _ (Walks.strWide G.S.hd _ _ t) ⟨_, Heap.get?_push_size _ rfl, rfl, rfl⟩ rfl)
 ·exact wpAny_pyIter_ascii ha (go "str_ascii_iterator" _ (Walks.strAscii G.S.hd _ _ t) ⟨_, Heap.get?_push_size _ rfl, rfl, rfl⟩ rfl)
end
section
variable {F : FS}
theorem mulL_fold (x : List Nat) : ∀ (n : Nat) (a : Array Nat), (List.replicate n x.toArray).foldl (· ++ ·) a = a ++ ((List.replicate n x).flatten).toArray
 | 0, a => by simp
 | n + 1, a => by
  rw [List.replicate_succ, List.foldl_cons, mulL_fold x n, List.replicate_succ, List.flatten_cons]
  simp
noncomputable def mulL (x : List Nat) (n : Nat) : List Nat := (List.replicate n x).flatten
theorem mulL_is {x : List Nat} {n : Int} (h : 0 ≤ n) : Txt.mul (S x) n = S (mulL x n.toNat) := by
 unfold Txt.mul
 by_cases h1 : n < 1
 ·rw [if_pos h1]
  have : n = 0 := by omega
  subst this
  rfl
 ·rw [if_neg h1]
  split
  ·rename_i hq
   rcases Bool.or_eq_true_iff.mp hq with q | q
   ·have : n = 1 := by simpa using q
    subst this
    show S x = S (mulL x 1)
    unfold mulL
    simp
   ·have : x = [] := by
     have q' := (beq_iff_eq.mp q)
     rw [S_len] at q'
     exact List.eq_nil_of_length_eq_zero q'
    subst this
    show S [] = S (mulL [] n.toNat)
    unfold mulL
    rw [List.flatten_replicate_nil]
  ·show (⟨_⟩ : Str) = ⟨_⟩
   rw [show (S x).cps = x.toArray from rfl, mulL_fold]
   simp [mulL]
def mulM (a b : MV) : MM MV := match a, b with
 | .int i, .int j => match Nat.ble (Builtin.Int.intBits j) 64 with
  | true => MM.pure (.int (i * j))
  | false => match Nat.ble (Builtin.Int.intBits i) 64 with
   | true => MM.pure (.int (i * j))
   | false => MM.fail
 | .str x, .int n => match decide (0 ≤ n) && decide (n ≤ 1000) && Nat.ble x.length 1000 with
  | true => MM.pure (.str (mulL x n.toNat))
  | false => MM.fail
 | _, _ => MM.fail
set_option tactic.hygienic true in
theorem op_mul : OpR F (binaryOp .Mult) mulM := by
 intro g W st s Q E a b A B ra rb G
 unfold mulM at G
 split at G
 ·rename_i i j
  apply ra.eInt; intro _; apply rb.eInt; intro _
  split at G
  ·rename_i h
   exact mul_int (G.tk .int) (IntMulOk.of_right (Nat.le_of_ble_eq_true h))
  ·refine sg7 G fun h G => ?_
   ·
    exact mul_int (G.tk .int) (IntMulOk.of_left (Nat.le_of_ble_eq_true h))
 ·rename_i x n
  refine sg7 G fun h G => ?_
  obtain ⟨h1, h2⟩ := Bool.and_eq_true_iff.mp h
  obtain ⟨h3, h4⟩ := Bool.and_eq_true_iff.mp h1
  have h3' := of_decide_eq_true h3
  have h4' := of_decide_eq_true h4
  have h2' := Nat.le_of_ble_eq_true h2
  apply ra.eStr; intro _; apply rb.eInt; intro _
  have hz : x.length * n.toNat ≤ 1000000 := Nat.le_trans (Nat.mul_le_mul h2' (show n.toNat ≤ 1000 by omega)) (Nat.le_refl _)
  refine SB.mul ⟨?_, fun h6 _ => ?_, fun _ _ => ?_⟩ fun t' k => by rw [mulL_is h3']; exact G.tk .str
  ·rw [decide_eq_false (by omega), decide_eq_false (by omega)]; rfl
  ·rw [S_len]
   have : (1000 : Int) ≤ (2 ^ 63 - 1) / n := (Int.le_ediv_iff_mul_le (by omega)).mpr (by omega)
   omega
  ·rw [S_len]
   show decide (_ > sizeLine) = false
   rw [decide_eq_false]
   rw [sizeLine_eq]; omega
 ·exact G.none.elim
def fdivM (a b : MV) : MM MV := match a, b with
 | .int i, .int j => match decide (j = 0) with
  | true => MM.fail
  | false => match Nat.blt j.natAbs.log2 9000 with
   | true => MM.pure (.int (i.fdiv j))
   | false => MM.fail
 | _, _ => MM.fail
theorem op_fdiv : OpR F (binaryOp .FloorDiv) fdivM := by
 intro g W st s Q E a b A B ra rb G
 unfold fdivM at G
 refine sg14 G fun _ _ qs0 qs1 G => ?_; subst qs0 qs1; dsimp only at G
 split at G
 ·exact G.none.elim
 ·rename_i h
  refine sg7 G fun h2 G => ?_
  apply ra.eInt; intro _; apply rb.eInt; intro _; exact PyProof.Rows.floordiv_int (of_decide_eq_false h) (G.tk .int) (Or.inl (PyProof.noPylong_of_log2 (Nat.le_of_ble_eq_true h2)))
end
section
variable {F : FS}
def isStrM (v : MV) : MM Unit := match v with
 | .str _ => MM.pure ()
 | _ => MM.fail
noncomputable abbrev StrMeth (name : Str) (id : String) : Prop := ∀ (w : World) (A : Around) (pl : Sem Bool) (x : Str) (t : Tok) (s : Shared) (Q : Value × List Value → Shared → Prop) (E : Value → Shared → Prop), Q (.builtin id, [.str x t]) s → wpAny (model pw_nm0149_01 w) A (getMethod (.str x t) name pl) Q E s
theorem op_strMeth {name : Str} {id : String} (hm : StrMeth name id) {g : FG} {W : Wd} {st : St} {s : Shared} {Q : Value × List Value → Shared → Prop} {E : Value → Shared → Prop} {pl : Sem Bool} {o : MV} {O : Value} (ro : VR g.w.params W o O)
  (G : Go F (QB id O) g W st s (isStrM o) Q E) : wpAny (model pw_nm0149_01 g.w) g.A (getMethod O name pl) Q E s := by
 unfold isStrM at G
 refine sg29 G fun _ qs0 G => ?_; subst qs0
 obtain ⟨_, rfl⟩ := ro.iStr
 exact hm _ _ _ _ _ _ _ _ (G.ret rfl)
theorem Ev.strMeth1 {o e : PySem.Expr} {r : List PySem.Expr} {name : Str} {id : String} {f : List MV → MM MV} {fo : MM MV} {fa : MM (List MV)} {apos pos : Pos} (ho : EvE F o fo) (ha : EvA F (e :: r) fa) (hm : StrMeth name id) (hop : OpB F (.builtin id) f) (pl : Env → Sem Bool)
  (h1 : ∀ env, starEach (e :: r) env = (false, eval e env) :: starEach r env := by intro _; rfl) (h2 : ∀ env, (backTo pos (starEach r env)).any (·.1) = false := by intro _; rfl)
  (hs : ∀ env, eval (.Call (.Attribute o name apos) (e :: r) [] pos) env = (do
   let ov ← eval o env
   standAt apos.atName
   let (f, first) ← holding [ov] (getMethod ov name (pl env))
   callWith pos f first (backTo pos (starEach (e :: r) env)) []) := by intro _; rfl) : EvE F (.Call (.Attribute o name apos) (e :: r) [] pos) (fo.bind fun o => (isStrM o).bind fun _ => fa.bind fun vs => f (o :: vs)) := fun g W st s Q E G =>
 MethodCall_ (pl := pl g.env) (ho.step G fun W1 st1 h1' tk1 o O le ro G1 => G1.then (RR := QB id O) (op_strMeth hm ro) fun W2 st2 h2' tk2 _ x le2 hx G2 => by
  cases hx
  exact callWith_method1 ((ha pos).step G2 fun W3 st3 h3 tk3 vs Vs le3 rvs G3 => hop (.cons ((ro.mono le2).mono le3) rvs) G3) (h1 _) (h2 _)) (hs _)
theorem Ev.strMeth0 {o : PySem.Expr} {name : Str} {id : String} {f : List MV → MM MV} {fo : MM MV} {apos pos : Pos} (ho : EvE F o fo) (hm : StrMeth name id) (hop : OpB F (.builtin id) f) (pl : Env → Sem Bool)
  (hs : ∀ env, eval (.Call (.Attribute o name apos) [] [] pos) env = (do
   let ov ← eval o env
   standAt apos.atName
   let (f, first) ← holding [ov] (getMethod ov name (pl env))
   callWith pos f first (backTo pos (starEach [] env)) []) := by intro _; rfl) : EvE F (.Call (.Attribute o name apos) [] [] pos) (fo.bind fun o => (isStrM o).bind fun _ => f [o]) := fun g W st s Q E G =>
 MethodCall_ (pl := pl g.env) (ho.step G fun W1 st1 h1' tk1 o O le ro G1 => G1.then (RR := QB id O) (op_strMeth hm ro) fun W2 st2 h2' tk2 _ x le2 hx G2 => by
  cases hx
  exact PyProof.Rows.callWith_method0 (hop (.cons (ro.mono le2) .nil) G2)) (hs _)
theorem sm_lower : StrMeth "lower" "str.lower" := fun _ _ _ _ _ _ _ _ h => PySem.GM.lower h
theorem sm_index : StrMeth "index" "str.index" := fun _ _ _ _ _ _ _ _ h => PySem.GM.index h
theorem sm_split : StrMeth "split" "str.split" := fun _ _ _ _ _ _ _ _ h => PySem.GM.split h
noncomputable def lowC (c : Nat) : Nat := if c < 65 then c else if c < 97 then c + 32 else c
noncomputable abbrev hexL : List Nat := [48, 49, 50, 51, 52, 53, 54, 55, 56, 57]
theorem low_all : hexL.all (fun c => (Txt.lower (S [c])).cps.toList == [lowC c]) = true := by decide +kernel
theorem low_at {c : Nat} (h : c ∈ hexL) : Txt.lower (S [c]) = S [lowC c] := by
 have := eq_of_beq (List.all_eq_true.mp low_all c h)
 show Txt.lower (S [c]) = ⟨[lowC c].toArray⟩
 rw [← this, Array.toArray_toList]
def lowerM (v : MV) : MM MV := match v with
 | .str [c] => match hexL.any (Nat.beq c) with
  | true => MM.pure (.str [lowC c])
  | false => MM.fail
 | _ => MM.fail
theorem op_lower : OpB F (.builtin "str.lower") (one lowerM) := by
 intro g W st s Q E vs Vs rs G
 unfold one at G
 refine sg18 G fun _ qs0 G => ?_; subst qs0
 apply rs.eCons; intro _ _ a r
 apply r.eNil
 unfold lowerM at G
 refine sg34 G fun c qs0 G => ?_; subst qs0
 refine sg7 G fun h G => ?_
 refine ee12 (List.any_eq_true.mp h) fun d hd e => ?_
 have hc : c ∈ hexL := by rw [Nat.eq_of_beq_eq_true e]; exact hd
 apply a.eStr; intro _
 exact SC.lower (by rw [low_at hc]; rfl) (by rw [low_at hc]; exact G.tk .str)
noncomputable def idxL (c : Nat) : List Nat → Nat → Option Nat
 | [], _ => none
 | x :: r, n => match Nat.beq x c with
  | true => some n
  | false => idxL c r (n + 1)
theorem idxL_is {c : Nat} : ∀ {xs : List Nat} {n i : Nat}, idxL c xs n = some i → n ≤ i ∧ xs[i - n]? = some c ∧ ∀ k, k < i - n → xs[k]? ≠ some c
 | [], _, _, h => nomatch h
 | x :: r, n, i, h => by
  unfold idxL at h
  split at h
  ·rename_i hx
   obtain rfl := Option.some.inj h
   refine ⟨Nat.le_refl _, ?_, fun k hk => by omega⟩
   rw [Nat.sub_self, Nat.eq_of_beq_eq_true hx]; rfl
  ·rename_i hx
   refine ee03 (idxL_is h) fun h1 h2 h3 => ?_
   refine ⟨by omega, ?_, fun k hk => ?_⟩
   ·rw [show i - n = (i - (n + 1)) + 1 by omega]; exact h2
   ·cases k with
    | zero =>
     intro e
     obtain rfl := Option.some.inj e
     rw [Nat.beq_refl] at hx; exact ftE hx.symm
    | succ k => exact h3 k (by omega)
theorem sub_at {xs : List Nat} {c i : Nat} : Builtin.Str.subAt (S xs) (S [c]) i = true ↔ xs[i]? = some c := by
 unfold Builtin.Str.subAt
 rw [show (S [c]).length = 1 from rfl, beq_iff_eq]
 rw [← Array.toList_inj]
 show ((xs.toArray.extract i (i + 1)).toList = [c]) ↔ _
 rw [Array.toList_extract]
 show ((xs.drop i).take (i + 1 - i) = [c]) ↔ _
 rw [show i + 1 - i = 1 by omega]
 constructor
 ·intro h
  have h2 : ((xs.drop i).take 1)[0]? = some c := by rw [h]; rfl
  rw [List.getElem?_take_of_lt (by omega), List.getElem?_drop] at h2
  exact h2
 ·intro h
  obtain ⟨hi, e⟩ := List.getElem?_eq_some_iff.mp h
  rw [List.drop_eq_getElem_cons hi, e]
  rfl
def indexM (vs : List MV) : MM MV := match vs with
 | [.str xs, .str [c]] => match idxL c xs 0 with
  | some i => MM.pure (.int i)
  | none => MM.fail
 | _ => MM.fail
theorem op_index : OpB F (.builtin "str.index") indexM := by
 intro g W st s Q E vs Vs rs G
 unfold indexM at G
 refine sg33 G fun xs c qs0 G => ?_; subst qs0
 apply rs.eCons; intro _ _ a r
 apply r.eCons; intro _ _ b r
 apply r.eNil
 apply a.eStr; intro _
 apply b.eStr; intro _
 refine sg19 G fun i hi G => ?_
 refine ee03 (idxL_is hi) fun _ h2 h3 => ?_
 rw [Nat.sub_zero] at h2 h3
 have hlt := (List.getElem?_eq_some_iff.mp h2).1
 have atI : ∀ k, StrLaws.At (S xs) (S [c]) (S xs).length k ↔ xs[k]? = some c := fun k => by
  unfold StrLaws.At
  rw [sub_at]
  refine ⟨fun h => h.2, fun h => ⟨?_, h⟩⟩
  rw [S_len, S_len]
  exact (List.getElem?_eq_some_iff.mp h).1
 rcases StrLaws.occ_head (S xs) (S [c]) 1 (Nat.le_refl _) with ⟨_, hn⟩ | ⟨j, rest, ho, hj, hlow⟩
 ·exact absurd ((atI i).mpr h2) (hn i)
 ·have hj' := (atI j).mp hj
  have : j = i := by
   rcases Nat.lt_trichotomy j i with q | q | q
   ·exact absurd hj' (h3 j q)
   ·exact q
   ·exact absurd ((atI i).mpr h2) (hlow i q)
  subst this
  exact SC.index ho (G.tk .int)
end
section
variable {F : FS}
noncomputable def strsOf : List MV → Option (List (List Nat))
 | [] => some []
 | .str x :: r => match strsOf r with
  | some l => some (x :: l)
  | none => none
 | _ => none
set_option tactic.hygienic true in
theorem strsOf_toD {μ : List MO} {n : Nat} : ∀ {vs : List MV} {ys : List (List Nat)}, strsOf vs = some ys → optAll (vs.map (toD μ n)) = some (ys.map fun y => PyData.str (S y))
 | [], _, e => by obtain rfl := Option.some.inj e; rfl
 | v :: r, ys, e => by
  unfold strsOf at e
  split at e
  ·rename_i he
   cases he
  ·rename_i x r' he
   cases he
   refine se37 e fun l hl e => ?_
   obtain rfl := Option.some.inj e
   have ih := strsOf_toD (μ := μ) (n := n) hl
   rw [List.map_cons, show toD μ n (.str x) = some (.str (S x)) from by unfold toD; rfl]
   unfold optAll
   rw [ih]
   rfl
  ·exact nsE e
noncomputable def okL (l : List Nat) : Bool := l.all fun c => Nat.blt c 1114112
theorem okL_is {l : List Nat} (h : okL l = true) : PyData.canLay0 (.str (S l)) = true := by
 unfold PyData.canLay0 PyData.strOk
 show (l.toArray.all fun c => decide (c < 1114112)) = true
 rw [List.all_toArray]
 rw [← h]
 unfold okL
 congr 1
 funext c
 exact (Bool.eq_iff_iff.mpr ⟨fun h => Nat.ble_eq_true_of_le (of_decide_eq_true h), fun h => decide_eq_true (Nat.le_of_ble_eq_true h)⟩)
theorem strs_lay : ∀ (ys : List (List Nat)), ys.all okL = true → PyData.canLayAll0 (ys.map fun y => PyData.str (S y)) = true
 | [], _ => by simp [PyData.canLayAll0]
 | y :: r, h => by
  rw [List.all_cons, Bool.and_eq_true] at h
  rw [List.map_cons]
  unfold PyData.canLayAll0
  rw [strs_lay r h.2, okL_is h.1]
  rfl
def inT (a b : MV) : MM MV := match a, b with
 | .str x, .tup vs => match strsOf vs with
  | some ys => match okL x && ys.all okL with
   | true => MM.pure (.bool (ys.any fun y => beqL y x))
   | false => MM.fail
  | none => MM.fail
 | _, _ => MM.fail
theorem op_inT (hD : 1 ≤ F.D) : OpR F (compareOp .In) inT := by
 intro g W st s Q E a b A B ra rb G
 refine G.RE fun m cs R => ?_
 unfold inT at G
 refine sg36 G fun x vs qs0 qs1 G => ?_; subst qs0 qs1
 refine sg35 G fun ys hy G => ?_
 refine sg7 G fun ok G => ?_
 rw [Bool.and_eq_true] at ok
 apply ra.eStr; intro _
 obtain ⟨as, hr⟩ := toD_reads R 1 rb (d := .tuple (ys.map fun y => PyData.str (S y))) (by unfold toD; rw [strsOf_toD hy])
 refine PySem.SeqAt.in_tuple_reads hr (.str _ _) (strs_lay ys ok.2) (okL_is ok.1) ?_ ?_
 ·have h1 : min (PyData.depthAll (ys.map fun y => PyData.str (S y))) (PyData.depth (.str (S x))) ≤ PyData.depth (.str (S x)) := Nat.min_le_right _ _
  have h2 : PyData.depth (.str (S x)) ≤ 1 := by simp [PyData.depth]
  have := G.S.u
  omega
 ·rw [List.any_map]
  have : (ys.any ((fun y => PyData.eqv y (PyData.str (S x))) ∘ fun y => PyData.str (S y))) = ys.any fun y => beqL y x := by
   congr 1
   funext y
   rw [← beqS]
   rfl
  rw [this]
  exact G.ret .bool
end
section
variable {F : FS}
noncomputable def Wd.frozL (W : Wd) (es : List (Addr × Obj)) : Wd := ⟨W.ρ, es ++ W.R, W.sc, W.pin⟩
theorem Wd.le_frozL {W : Wd} {es : List (Addr × Obj)} : W.Le (W.frozL es) := ⟨fun _ _ h => h, fun _ h => List.mem_append_right _ h, rfl, rfl⟩
theorem Rel.freeze {g : FG} {ns : List Str} {W : Wd} {st : St} {h : Heap} {m : Str → Option Value} {cs : List (Addr × Obj)} {i : Nat} {o : MO} (R : Rel g ns W st h m cs) (hi : st.μ[i]? = some o) :
  ∃ x es cs', W.ρ[i]? = some x ∧ OR g.w W o x es ∧ Rel g ns (W.frozL es) ⟨st.m, st.μ.set i .lock⟩ h m cs' := by
 refine ee44 (R.cells.split hi) fun x es pre post h1 h2 qe6 h4 => ?_; subst qe6
 have pm : ((pre ++ (es ++ post)) ++ W.all).Perm ((pre ++ post) ++ (W.frozL es).all) := by
  show ((pre ++ (es ++ post)) ++ (W.R ++ W.pin)).Perm ((pre ++ post) ++ ((es ++ W.R) ++ W.pin))
  have e1 : (pre ++ (es ++ post)) ++ (W.R ++ W.pin) = pre ++ (es ++ (post ++ (W.R ++ W.pin))) := by simp
  have e2 : (pre ++ post) ++ ((es ++ W.R) ++ W.pin) = pre ++ (post ++ (es ++ (W.R ++ W.pin))) := by simp
  rw [e1, e2]
  refine List.Perm.append_left _ ?_
  generalize W.R ++ W.pin = X
  rw [← List.append_assoc, ← List.append_assoc]
  exact List.perm_append_comm.append_right _
 refine ⟨x, es, pre ++ post, h1, h2, R.F, fun p hp => R.N p (pm.mem_iff.mpr hp), ((pm.map (·.1)).nodup_iff).mp R.nd, R.loc.mono Wd.le_frozL, ?_, R.sc.le Wd.le_frozL⟩
 have := h4 .lock [] .lock
 rw [List.nil_append] at this
 exact this.mono Wd.le_frozL
noncomputable def vStr : MV → Option (List Nat)
 | .str x => some x
 | _ => none
noncomputable def vInt : MV → Option Int
 | .int x => some x
 | _ => none
noncomputable def vObj : MV → Option Nat
 | .obj x => some x
 | _ => none
noncomputable def vTup : MV → Option (List MV)
 | .tup x => some x
 | _ => none
theorem asStr_is {v : MV} {x : List Nat} (h : vStr v = some x) : v = .str x := by
 cases v with
 | str => exact congrArg _ (Option.some.inj h)
 | _ => exact nsE h
theorem asInt_is {v : MV} {x : Int} (h : vInt v = some x) : v = .int x := by
 cases v with
 | int => exact congrArg _ (Option.some.inj h)
 | _ => exact nsE h
theorem asObj_is {v : MV} {x : Nat} (h : vObj v = some x) : v = .obj x := by
 cases v with
 | obj => exact congrArg _ (Option.some.inj h)
 | _ => exact nsE h
theorem asTup_is {v : MV} {x : List MV} (h : vTup v = some x) : v = .tup x := by
 cases v with
 | tup => exact congrArg _ (Option.some.inj h)
 | _ => exact nsE h
theorem obE {α β : Type} {o : Option α} {f : α → Option β} {r : β} {C : Prop} (e : o.bind f = some r) (k : ∀ x, o = some x → f x = some r → C) : C := by
 cases o with
 | none => exact nsE e
 | some x => exact k x rfl e
noncomputable def l3 {α : Type} : List α → Option (α × α × α)
 | [a, b, c] => some (a, b, c)
 | _ => none
theorem l3_is {α : Type} {l : List α} {q : α × α × α} (h : l3 l = some q) : l = [q.1, q.2.1, q.2.2] := by
 cases l with
 | nil => exact nsE h
 | cons x l => cases l with
  | nil => exact nsE h
  | cons y l => cases l with
   | nil => exact nsE h
   | cons z l => cases l with
    | nil => exact Option.some.inj h ▸ rfl
    | cons => exact nsE h
noncomputable def l5 {α : Type} : List α → Option (α × α × α × α × α)
 | [a, b, c, d, e] => some (a, b, c, d, e)
 | _ => none
theorem l5_is {α : Type} {l : List α} {q : α × α × α × α × α} (h : l5 l = some q) : l = [q.1, q.2.1, q.2.2.1, q.2.2.2.1, q.2.2.2.2] := by
 cases l with
 | nil => exact nsE h
 | cons x l => cases l with
  | nil => exact nsE h
  | cons y l => cases l with
   | nil => exact nsE h
   | cons z l => cases l with
    | nil => exact nsE h
    | cons u l => cases l with
     | nil => exact nsE h
     | cons v l => cases l with
      | nil => exact Option.some.inj h ▸ rfl
      | cons => exact nsE h
theorem fldE {p : Nat × MV} {a : Nat} {v : MV} (h : Nat.beq p.1 a = true) (e : p.2 = v) : p = (a, v) := Prod.ext (Nat.eq_of_beq_eq_true h) e
theorem andE {C : Prop} {x y : Bool} (h : (x && y) = true) (k : x = true → y = true → C) : C := k (Bool.and_eq_true_iff.mp h).1 (Bool.and_eq_true_iff.mp h).2
noncomputable def valOf : MV → Option Int
 | .int n => some n
 | _ => none
theorem OR.tok {w : World} {W : Wd} {s t : List Nat} {v : MV} {r c : Int} {x : Addr} {es : List (Addr × Obj)} (h : OR w W (.inst 116 [(4, .str s), (5, .str t), (6, v), (2, .int r), (3, .int c)]) x es) : TAt w.params (es ++ W.R) (.ref x) (.tok (S s) (S t) (valOf v) r c) := by
 apply h.eInst; intro _ _ a
 apply a.eCons; intro _ _ _ _ v1 a
 apply a.eCons; intro _ _ _ _ v2 a
 apply a.eCons; intro _ _ _ _ v3 a
 apply a.eCons; intro _ _ _ _ v4 a
 apply a.eCons; intro _ _ _ _ v5 a
 apply a.eNil
 apply v1.eStr; intro _; apply v2.eStr; intro _; apply v4.eInt; intro _; apply v5.eInt; intro _
 refine TAt.tok (.head _) (.tail _ (.head _)) ?_
 cases v3 with
 | int => exact ⟨_, rfl⟩
 | _ => exact trivial
theorem VRs.trees {P : Params} {W : Wd} : ∀ {ts : List Tr} {ws : List Value}, VRs P W (ts.map .tree) ws → TsAt P W.R ws ts
 | [], _, .nil => .nil
 | t :: ts, _, .cons a b => by
  have h := a.iTree
  exact .cons h (VRs.trees b)
theorem OR.trees {w : World} {W : Wd} {ts : List Tr} {x : Addr} {es : List (Addr × Obj)} (h : OR w W (.list (ts.map .tree)) x es) : VR w.params (W.frozL es) (.trees ts) (.ref x) := by
 apply h.eList; intro _ _ a z
 rw [List.length_map] at z
 have hl := a.trees
 exact .trees (.head _) (by rw [hl.length]; omega) (hl.mono fun p hp => .tail _ hp)
theorem OR.br {w : World} {W : Wd} {its : List Tr} {r c : Int} {x : Addr} {es : List (Addr × Obj)} (h : OR w W (.inst 144 [(0, .trees its), (2, .int r), (3, .int c)]) x es) : TAt w.params (es ++ W.R) (.ref x) (.br its r c) := by
 apply h.eInst; intro _ _ a
 apply a.eCons; intro _ _ _ _ v1 a
 apply a.eCons; intro _ _ _ _ v2 a
 apply a.eCons; intro _ _ _ _ v3 a
 apply a.eNil
 apply v2.eInt; intro _; apply v3.eInt; intro _
 apply v1.eTrees; intro _ _ _ hm hz ht
 exact TAt.br (.head _) (.tail _ (.head _)) (.tail _ (.tail _ hm)) hz (ht.mono fun p hp => .tail _ (.tail _ hp))
def tokVal (fs : List (Nat × MV)) : Option Tr := (l5 fs).bind fun q => match Nat.beq q.1.1 4 && Nat.beq q.2.1.1 5 && Nat.beq q.2.2.1.1 6 && Nat.beq q.2.2.2.1.1 2 && Nat.beq q.2.2.2.2.1 3 with
 | true => (vStr q.1.2).bind fun s => (vStr q.2.1.2).bind fun t => (vInt q.2.2.2.1.2).bind fun r => (vInt q.2.2.2.2.2).bind fun c => some (.tok (S s) (S t) (valOf q.2.2.1.2) r c)
 | false => none
theorem tokVal_is {w : World} {W : Wd} {fs : List (Nat × MV)} {t : Tr} {x : Addr} {es : List (Addr × Obj)} (h : OR w W (.inst 116 fs) x es) (ht : tokVal fs = some t) : TAt w.params (es ++ W.R) (.ref x) t := by
 refine obE ht fun q h1 ht => se3 ht fun hq ht => obE ht fun s h2 ht => obE ht fun u h3 ht => obE ht fun r h4 ht => obE ht fun k h5 ht => ?_
 refine andE hq fun hq q5 => andE hq fun hq q4 => andE hq fun hq q3 => andE hq fun q1 q2 => ?_
 rw [l5_is h1, fldE q1 (asStr_is h2), fldE q2 (asStr_is h3), fldE q3 rfl, fldE q4 (asInt_is h4), fldE q5 (asInt_is h5)] at h
 exact Option.some.inj ht ▸ OR.tok h
noncomputable def treesOf : List MV → Option (List Tr)
 | [] => some []
 | .tree t :: r => match treesOf r with
  | some l => some (t :: l)
  | none => none
 | _ => none
set_option tactic.hygienic true in
theorem treesOf_is : ∀ {vs : List MV} {ts : List Tr}, treesOf vs = some ts → vs = ts.map .tree
 | [], _, e => by obtain rfl := Option.some.inj e; rfl
 | v :: r, ts, e => by
  unfold treesOf at e
  split at e
  ·rename_i he; cases he
  ·rename_i t r' he
   cases he
   refine se38 e fun l hl e => ?_
   obtain rfl := Option.some.inj e
   rw [treesOf_is hl]; rfl
  ·exact nsE e
def frzM (v : MV) : MM MV := match v with
 | .obj i => fun st => match st.μ[i]? with
  | some (.inst C fs) => match Nat.beq C 116 with
   | true => match tokVal fs with
    | some t => some (.val (.tree t), ⟨st.m, st.μ.set i .lock⟩)
    | none => none
   | false => none
  | some (.list vs) => match treesOf vs with
   | some ts => some (.val (.trees ts), ⟨st.m, st.μ.set i .lock⟩)
   | none => none
  | _ => none
 | _ => MM.fail
set_option tactic.hygienic true in
theorem Ev.frz {e : PySem.Expr} {f : MM MV} (he : EvE F e f) : EvE F e (f.bind frzM) := fun g W st s Q E G =>
 he.step G fun W1 st1 h1 tk1 v V le rv G1 => by
  unfold frzM at G1
  refine sg5 G1 fun i qs0 G1 => ?_; subst qs0
  refine G1.oG fun hcs hS m cs R o st' e' hP => ?_
  apply rv.eObj; intro a ha
  dsimp only at e'; split at e'
  ·rename_i C fs hi
   split at e'
   ·rename_i hC
    split at e'
    ·rename_i t ht
     have hP := hP.eqs e'
     refine ee33 (R.freeze hi) fun x es cs' hx hO R' => ?_
     rw [ha] at hx; obtain rfl := Option.some.inj hx
     cases Nat.eq_of_beq_eq_true hC
     exact hP _ _ _ _ _ _ Wd.le_frozL R' (.tree (tokVal_is hO ht))
    ·exact nsE e'
   ·exact nsE e'
  ·rename_i vs hi
   split at e'
   ·rename_i ts ht
    have hP := hP.eqs e'
    refine ee33 (R.freeze hi) fun x es cs' hx hO R' => ?_
    rw [ha] at hx; obtain rfl := Option.some.inj hx
    cases treesOf_is ht
    exact hP _ _ _ _ _ _ Wd.le_frozL R' (OR.trees hO)
   ·exact nsE e'
  ·exact nsE e'
end
section
variable {F : FS}
def unpackFM (is : List Nat) (v : MV) : MM MF := match v with
 | .tup vs => match Nat.beq vs.length is.length with
  | true => putsM (is.zip vs)
  | false => MM.fail
 | _ => MM.fail
theorem op_putsF {g : FG} {E : Value → Shared → Prop} {Q : Flow → Shared → Prop} (nps : List (Str × Pos)) : ∀ (is : List Nat) (vs : List MV) (Vs : List Value) (W : Wd) (st : St) (s : Shared), VRs g.w.params W vs Vs → nps.length = is.length → vs.length = is.length → (∀ p ∈ nps.zip is, nsOk F.ns p.2 p.1.1 = true ∧ F.sc.names.lookup p.1.1 = some .local) →
  Go F FlR g W st s (putsM (is.zip vs)) Q E → wpAny (model pw_nm0149_01 g.w) g.A (assignInOrder (nps.map fun p => PySem.assign (.Name p.1 p.2) g.env) Vs) (fun _ => Q .next) E s := by
 induction nps with
 | nil =>
  intro is vs Vs W st s rs h1 h2 h3 G
  cases is with
  | cons => cases h1
  | nil =>
   cases rs with
   | cons => cases h2
   | nil => exact wpAny_pure (a := ()) (G.ret .next)
 | cons n ns ih =>
  intro is vs Vs W st s rs h1 h2 h3 G
  cases is with
  | nil => cases h1
  | cons i is =>
   cases rs with
   | nil => cases h2
   | @cons v V vs Vs a r =>
    obtain ⟨o1, o2⟩ := h3 (n, i) (.head _)
    refine assignInOrder_cons (PyProof.Rows.assign_Name ?_)
    have G' : Go F FlR g W st s ((putM i v).bind fun _ => putsM (is.zip vs)) Q E := G
    exact G'.then (RR := UU) (op_store o1 o2 a) fun W1 st1 h1' tk1 _ _ le _ G1 => ih is vs Vs _ _ _ (r.mono le) (Nat.succ.inj h1) (Nat.succ.inj h2) (fun p hp => h3 p (.tail _ hp)) G1
set_option tactic.hygienic true in
theorem EvS.unpackF {elts : List PySem.Expr} {nps : List (Str × Pos)} {is : List Nat} {e : PySem.Expr} {f : MM MV} {k : Nat} {tpos pos : Pos} (he : EvE F e f) (hl : nps.length = is.length) (hok : ∀ p ∈ nps.zip is, nsOk F.ns p.2 p.1.1 = true ∧ F.sc.names.lookup p.1.1 = some .local)
  (hel : ∀ env, (assignEach elts env).map (·.2) = nps.map fun p => PySem.assign (.Name p.1 p.2) env) (hst : ∀ env, (assignEach elts env).findIdx? (·.1) = Option.none)
  (h1 : ∀ env, swapsWithSole [.Tuple elts k tpos] e pos.line env = pure false) (h2 : ∀ env, swappedStores [.Tuple elts k tpos] e env = pure Option.none) : EvS F (.Assign [.Tuple elts k tpos] e pos) (f.bind (unpackFM is)) := fun g W st s Q E G =>
 PyProof.Rows.Assign_Tuple (he.step G fun W1 st1 h1' tk1 v V le rv G1 => by
  refine G1.RE fun m cs R => ?_
  unfold unpackFM at G1
  split at G1
  ·rename_i vs
   refine sg7 G1 fun hn G1 => ?_
   have hn' := Nat.eq_of_beq_eq_true hn
   apply rv.eTup; intro a ws ha hz hr
   have hw := hr.length
   have ht := R.N.isTup (List.mem_append_right _ (W1.mem ha))
   refine PyProof.Rows.assign_Tuple_tuple (items := ws.toArray) G1.S.hd ht ?_ (hst _) fun h' hx => ?_
   ·have := congrArg List.length (hel g.env)
    rw [List.length_map, List.length_map] at this
    rw [this, List.size_toArray]; omega
   ·have F' := R.F.extBut hx (Nat.le_refl _)
    have G2 := Go.move (h' := h') (tk' := tk1) G1 ⟨F', R.N.extBut hx (Nat.le_refl _), R.nd, R.loc, R.cells, R.sc⟩
    rw [hel]
    exact op_putsF nps _ _ _ _ _ _ hr hl hn' hok G2
  ·exact G1.none.elim) (h1 _) (h2 _)
theorem Ev.cbytes {x : List UInt8} {k : Nat} {pos : Pos} : EvE F (.Constant (.bytes x) k pos) (MM.pure .junk) := fun g W st s Q E G => by
 exact fun _ _ _ => G.tk .junk
end
section
variable {F : FS}
theorem upd_mid {d : Addr} {o o' : Obj} {post : List (Addr × Obj)} (h2 : ∀ p ∈ post, p.1 ≠ d) : ∀ {pre : List (Addr × Obj)}, (∀ p ∈ pre, p.1 ≠ d) → Upd d o o' (pre ++ (d, o) :: post) (pre ++ (d, o') :: post)
 | [], _ => .head h2
 | q :: pre, h => .tail (h q (.head _)) (upd_mid h2 fun p hp => h p (.tail _ hp))
noncomputable def lastM : List MV → Option (List MV × MV)
 | [] => none
 | [v] => some ([], v)
 | v :: r => match lastM r with
  | some (p, y) => some (v :: p, y)
  | none => none
theorem lastM_is : ∀ {vs p : List MV} {y : MV}, lastM vs = some (p, y) → vs = p ++ [y]
 | [], _, _, h => nomatch h
 | [v], _, _, h => by cases h; rfl
 | v :: w :: r, p, y, h => by
  unfold lastM at h
  refine se40 h fun p' y' e h => ?_
  cases h
  rw [lastM_is e]; rfl
def popM (vs : List MV) : MM MV := match vs with
 | [.obj i] => fun st => match st.μ[i]? with
  | some (.list us) => match lastM us with
   | some (p, y) => some (.val y, ⟨st.m, st.μ.set i (.list p)⟩)
   | none => none
  | _ => none
 | _ => MM.fail
theorem VRs.snoc_inv {P : Params} {W : Wd} {y : MV} {p : List MV} {ws : List Value} (r : VRs P W (p ++ [y]) ws) : ∃ q Y, ws = q ++ [Y] ∧ VRs P W p q ∧ VR P W y Y := by
 induction p generalizing ws with
 | nil =>
  refine ee23 r.iCons fun V w e a b => ⟨[], V, ?_, .nil, a⟩
  rw [e, b.iNil]; rfl
 | cons v p ih =>
  refine ee23 r.iCons fun V w e a b => ee23 (ih b) fun q Y e2 h1 h2 => ⟨V :: q, Y, ?_, .cons a h1, h2⟩
  rw [e, e2]; rfl
theorem kl_last_app (y : Value) : ∀ p : List Value, kl_last (p ++ [y]) = some (p, y)
 | [] => rfl
 | x :: r => by simp only [List.cons_append, kl_last, kl_last_app y r]
theorem op_pop : OpB F (.builtin "list.pop") popM := by
 intro g W st s Q E vs Vs rs G
 refine G.RE fun m cs R => ?_
 unfold popM at G
 refine sg41 G fun i qs0 G => ?_; subst qs0
 apply rs.eCons; intro _ _ a r
 apply r.eNil
 apply a.eObj; intro x hx
 refine G.oE fun o st' e _ => ?_
 refine se10 e fun us hi e => ?_
 refine se40 e fun p y hl e => ?_
 clear e
 refine ee44 (R.list hx hi) fun ws k pre post qe4 hr hz hset => ?_; subst qe4
 cases lastM_is hl
 refine ee23 hr.snoc_inv fun q Y qe2 r1 r2 => ?_; subst qe2
 refine ee03 R.ap fun n1 n2 N => ?_
 have hlq := r1.length
 rw [List.length_append, List.length_singleton] at hz
 refine kl_pop R.F N (by rw [List.toList_toArray]; exact kl_last_app Y q) (upd_mid n2 n1) (by rw [List.toList_toArray, List.length_append, sizeLine_eq, List.length_singleton]; omega) fun h' F' N' => ?_
 exact G.out (st2 := ⟨st.m, st.μ.set i (.list p)⟩) (b := y) (by simp only [hi, hl]) .rfl' (R.put F' N' (hset _ _ _ r1 (by omega))) r2
theorem Ev.listMeth0 {o : PySem.Expr} {name : Str} {id : String} {f : List MV → MM MV} {fo : MM MV} {apos pos : Pos} (ho : EvE F o fo) (sl : Slot "list" name id) (ty : typeOf (.builtin id) = pure (.type "method_descriptor")) (hop : OpB F (.builtin id) f) (pl : Env → Sem Bool)
  (hs : ∀ env, eval (.Call (.Attribute o name apos) [] [] pos) env = (do
   let ov ← eval o env
   standAt apos.atName
   let (f, first) ← holding [ov] (getMethod ov name (pl env))
   callWith pos f first (backTo pos (starEach [] env)) []) := by intro _; rfl) : EvE F (.Call (.Attribute o name apos) [] [] pos) (fo.bind fun o => (isList o).bind fun _ => f [o]) := fun g W st s Q E G =>
 MethodCall_ (pl := pl g.env) (ho.step G fun W1 st1 h1' tk1 o O le ro G1 => G1.then (RR := QB id O) (op_listMeth sl ty ro) fun W2 st2 h2' tk2 _ x le2 hx G2 => by
  cases hx
  exact PyProof.Rows.callWith_method0 (hop (.cons (ro.mono le2) .nil) G2)) (hs _)
end
section
variable {F : FS}
mutual
noncomputable def clos (n : Nat) : MV → Bool
 | .obj i => Nat.blt i n
 | .tup l => closL n l
 | _ => true
noncomputable def closL (n : Nat) : List MV → Bool
 | [] => true
 | v :: r => match clos n v with
  | true => closL n r
  | false => false
end
structure Wd.Cut (n : Nat) (W W' : Wd) : Prop where
 ρ : ∀ (i : Nat) (a : Addr), i < n → W.ρ[i]? = some a → W'.ρ[i]? = some a
 R : ∀ p ∈ W.R, p ∈ W'.R
 sc : W'.sc = W.sc
theorem closL_cons {n : Nat} {v : MV} {r : List MV} (h : closL n (v :: r) = true) : clos n v = true ∧ closL n r = true := by
 rw [closL] at h
 split at h
 ·exact ⟨by assumption, h⟩
 ·exact ftE h
theorem VR.cut {P : Params} {W W' : Wd} {n : Nat} (h : W.Cut n W') {v : MV} {V : Value} (c : clos n v = true) (r : VR P W v V) : VR P W' v V :=
 VR.rec (motive_1 := fun v V _ => clos n v = true → VR P W' v V) (motive_2 := fun v V _ => closL n v = true → VRs P W' v V) (fun _ => .none) (fun _ => .bool) (fun _ => .int) (fun _ => .str) (fun e c => .obj (h.ρ _ _ (by rw [clos] at c; exact (Nat.ble_eq.mp c)) e)) (fun e z _ r c => .tup (h.R _ e) z (r (by rw [clos] at c; exact c))) (fun t _ => .tree (t.mono h.R)) (fun e z t _ => .trees (h.R _ e) z (t.mono h.R)) (fun e _ => .scr (h.sc ▸ e)) (fun _ => .con) (fun _ => .junk) (fun _ => .nil) (fun _ _ a b c => .cons (a (closL_cons c).1) (b (closL_cons c).2)) r c
theorem VRs.cut {P : Params} {W W' : Wd} {n : Nat} (h : W.Cut n W') {v : List MV} {V : List Value} (c : closL n v = true) (r : VRs P W v V) : VRs P W' v V :=
 VRs.rec (motive_1 := fun v V _ => clos n v = true → VR P W' v V) (motive_2 := fun v V _ => closL n v = true → VRs P W' v V) (fun _ => .none) (fun _ => .bool) (fun _ => .int) (fun _ => .str) (fun e c => .obj (h.ρ _ _ (by rw [clos] at c; exact (Nat.ble_eq.mp c)) e)) (fun e z _ r c => .tup (h.R _ e) z (r (by rw [clos] at c; exact c))) (fun t _ => .tree (t.mono h.R)) (fun e z t _ => .trees (h.R _ e) z (t.mono h.R)) (fun e _ => .scr (h.sc ▸ e)) (fun _ => .con) (fun _ => .junk) (fun _ => .nil) (fun _ _ a b c => .cons (a (closL_cons c).1) (b (closL_cons c).2)) r c
def closF (n : Nat) : List (Nat × MV) → Bool
 | [] => true
 | (_, v) :: r => match clos n v with
  | true => closF n r
  | false => false
def closK (n : Nat) : List (List Nat × MV) → Bool
 | [] => true
 | (_, v) :: r => match clos n v with
  | true => closK n r
  | false => false
def closO (n : Nat) : MO → Bool
 | .inst _ fs => closF n fs
 | .list l => closL n l
 | .dict l => closK n l
 | .lock => true
theorem EsR.cut {P : Params} {W W' : Wd} {n : Nat} (h : W.Cut n W') {fs : List (Nat × MV)} {es : List DictEntry} (c : closF n fs = true) (r : EsR P W fs es) : EsR P W' fs es :=
 EsR.rec (motive := fun fs es _ => closF n fs = true → EsR P W' fs es) (fun _ => .nil) (fun a b _ r c => by
  rw [closF] at c
  split at c
  ·rename_i q; exact .cons a (b.cut h q) (r c)
  ·exact ftE c) r c
theorem KsR.cut {P : Params} {W W' : Wd} {n : Nat} (h : W.Cut n W') {fs : List (List Nat × MV)} {es : List (Str × Value)} (c : closK n fs = true) (r : KsR P W fs es) : KsR P W' fs es :=
 KsR.rec (motive := fun fs es _ => closK n fs = true → KsR P W' fs es) (fun _ => .nil) (fun b _ r c => by
  rw [closK] at c
  split at c
  ·rename_i q; exact .cons (b.cut h q) (r c)
  ·exact ftE c) r c
theorem OR.cut {w : World} {W W' : Wd} {n : Nat} (h : W.Cut n W') {o : MO} {x : Addr} {es : List (Addr × Obj)} (c : closO n o = true) (r : OR w W o x es) : OR w W' o x es :=
 OR.rec (motive := fun o x es _ => closO n o = true → OR w W' o x es) (fun a c => .inst (a.cut h c)) (fun a z c => .list (a.cut h c) z) (fun lo a z b c => .dict lo (a.cut h c) z b) (fun _ => .lock) r c
def closMu (n : Nat) : List MO → Nat → Bool
 | _, 0 => true
 | [], _ => true
 | o :: r, k + 1 => match closO n o with
  | true => closMu n r k
  | false => false
theorem CellsR.cut {w : World} {W W' : Wd} {n : Nat} (h : W.Cut n W') {μ : List MO} {ρ : List Addr} {cs : List (Addr × Obj)} (k : Nat) (c : closMu n μ k = true) (r : CellsR w W μ ρ cs) : ∃ cs', CellsR w W' (μ.take k) (ρ.take k) cs' ∧ cs'.Sublist cs := by
 induction r generalizing k with
 | nil => rw [List.take_nil, List.take_nil]; exact ⟨[], .nil, List.nil_sublist _⟩
 | cons a b ih =>
  cases k with
  | zero => rw [List.take_zero, List.take_zero]; exact ⟨[], .nil, List.nil_sublist _⟩
  | succ k =>
   rw [closMu] at c
   split at c
   ·rename_i q
    refine ee12 (ih k c) fun cs' h1 h2 => ?_
    exact ⟨_, .cons (a.cut h q) h1, h2.append_left _⟩
   ·exact ftE c
def cutV (n : Nat) : Option MV → Option MV
 | some v => match clos n v with
  | true => some v
  | false => none
 | none => none
def mapV (n : Nat) : List (Option MV) → List (Option MV)
 | [] => []
 | o :: r => cutV n o :: mapV n r
theorem mapV_get {n : Nat} : ∀ {l : List (Option MV)} {i : Nat} {v : MV}, (mapV n l)[i]? = some (some v) → l[i]? = some (some v) ∧ clos n v = true
 | [], _, _, h => nomatch h
 | o :: _, 0, v, h => by
  have h' : cutV n o = some v := Option.some.inj h
  unfold cutV at h'
  split at h'
  ·split at h'
   ·obtain rfl := Option.some.inj h'; exact ⟨rfl, by assumption⟩
   ·exact nsE h'
  ·exact nsE h'
 | _ :: r, i + 1, v, h => mapV_get (l := r) (i := i) h
theorem Rel.cut {g : FG} {ns : List Str} {W W' : Wd} {n : Nat} {st : St} {h : Heap} {m : Str → Option Value} {cs : List (Addr × Obj)} (R : Rel g ns W st h m cs) (hc : closMu n st.μ n = true) (hW : W' = ⟨W.ρ.take n, W.R, W.sc, W.pin⟩) :
  ∃ cs', Rel g ns W' ⟨mapV n st.m, st.μ.take n⟩ h m cs' := by
 subst hW
 have hC : W.Cut n ⟨W.ρ.take n, W.R, W.sc, W.pin⟩ := ⟨fun i a hi e => by rw [List.getElem?_take_of_lt hi]; exact e, fun _ p => p, rfl⟩
 refine ee12 (R.cells.cut hC n hc) fun cs' h1 h2 => ?_
 refine ⟨cs', R.F, fun p hp => R.N p ?_, R.nd.sublist ((h2.append_right _).map _), fun i x v hi hv => ?_, h1, fun a xs q => R.sc a xs q⟩
 ·rcases List.mem_append.mp hp with q | q
  ·exact List.mem_append_left _ (h2.subset q)
  ·exact List.mem_append_right _ q
 ·obtain ⟨a, b⟩ := mapV_get hv
  refine ee12 (R.loc i x v hi a) fun V c d => ?_
  exact ⟨V, c, d.cut hC b⟩
def cutM (f : MM MF) : MM MF := fun st => match f st with
 | some (.val .next, st') => match closMu st.μ.length st'.μ st.μ.length with
  | true => some (.val .next, ⟨mapV st.μ.length st'.m, st'.μ.take st.μ.length⟩)
  | false => none
 | r => r
set_option tactic.hygienic true in
theorem EvB.cut {b : List Stmt} {f : MM MF} (h : EvB F b f) : EvB F b (cutM f) := fun g W st s Q E G => by
 refine G.oG fun hcs hS m cs R o st' e hP => ?_
 unfold cutM at e
 split at e
 ·rename_i st1 e1
  refine se3 e fun hc e => ?_
  have hP := hP.eqs e
  refine h g W st s Q E ⟨hcs, hS, ⟨m, cs, R⟩, _, _, e1, fun W' h' tk' m' cs' a le R' ra => ?_⟩
  cases ra
  obtain ⟨cs2, R2⟩ := R'.cut hc rfl
  refine hP ⟨W'.ρ.take st.μ.length, W'.R, W'.sc, W'.pin⟩ h' tk' m' cs2 _ ⟨fun i x hx => ?_, le.R, le.sc, le.pin⟩ R2 .next
  have hl := R.cells.len
  have : i < st.μ.length := by
   rw [hl]
   exact (List.getElem?_eq_some_iff.mp hx).1
  show (W'.ρ.take st.μ.length)[i]? = some x
  rw [List.getElem?_take_of_lt this]
  exact le.ρ i x hx
 ·exact h g W st s Q E ⟨hcs, hS, ⟨m, cs, R⟩, _, _, e, hP⟩
def frameF (f : FF) : FF := fun vs μ => match closL 0 vs with
 | true => match f vs [] with
  | some (.val v, _) => match clos 0 v with
   | true => some (.val v, μ)
   | false => none
  | _ => none
 | false => none
theorem FnR.frame {addr D : Nat} {f : FF} (h : FnR addr D f) : FnR addr D (frameF f) := by
 intro ns g W m μ s vs Vs R o μ' mr cs hS hR hvs hf hP
 unfold frameF at hf
 refine se3 hf fun hc hf => ?_
 refine se43 hf fun v μ1 e hf => ?_
 refine se3 hf fun hv hf => ?_
 have hP := hP.eqs hf
 have hC : W.Cut 0 ⟨[], W.R, W.sc, cs ++ W.pin⟩ := ⟨fun i a hi _ => absurd hi (Nat.not_lt_zero i), fun _ p => p, rfl⟩
 have pm : ([] ++ (Wd.all ⟨[], W.R, W.sc, cs ++ W.pin⟩)).Perm (cs ++ W.all) := by
  show (W.R ++ (cs ++ W.pin)).Perm (cs ++ (W.R ++ W.pin))
  rw [← List.append_assoc, ← List.append_assoc]
  exact List.perm_append_comm.append_right _
 refine h [] g ⟨[], W.R, W.sc, cs ++ W.pin⟩ [] [] s vs Vs R (.val v) μ1 mr [] hS ⟨hR.F, fun p hp => hR.N p (pm.mem_iff.mp hp), ((pm.map (·.1)).nodup_iff).mpr hR.nd, (fun i x v hi => nomatch hi), CellsR.nil, fun a xs q => hR.sc a xs q⟩ (hvs.cut hC hc) e fun W' h' tk' cs' V le R' r => ?_
 have pn : W'.pin = cs ++ W.pin := le.pin
 have sub : (cs ++ Wd.all ⟨W.ρ, W'.R, W.sc, W.pin⟩).Perm (W'.R ++ W'.pin) := by
  rw [pn]
  show (cs ++ (W'.R ++ W.pin)).Perm _
  rw [← List.append_assoc, ← List.append_assoc]
  exact List.perm_append_comm.append_right _
 have le2 : W.Le ⟨W.ρ, W'.R, W.sc, W.pin⟩ := ⟨fun _ _ e => e, le.R, rfl, rfl⟩
 refine hP ⟨W.ρ, W'.R, W.sc, W.pin⟩ h' tk' cs V le2 ⟨R'.F, fun p hp => R'.N p (List.mem_append_right _ (sub.mem_iff.mp hp)), ?_, hR.loc.mono le2, hR.cells.mono le2, hR.sc.le le2⟩ (VR.cut (W := W') (W' := ⟨W.ρ, W'.R, W.sc, W.pin⟩) (n := 0) ⟨fun i a hi _ => absurd hi (Nat.not_lt_zero i), fun _ p => p, le.sc.symm⟩ hv r)
 have := R'.nd
 rw [List.map_append] at this
 exact ((sub.map (·.1)).nodup_iff).mpr (List.nodup_append.mp this).2.1
def brOf (μ : List MO) (fs : List (Nat × MV)) : Option (Nat × List Tr × Int × Int) := (l3 fs).bind fun q => match Nat.beq q.1.1 0 && Nat.beq q.2.1.1 2 && Nat.beq q.2.2.1 3 with
 | true => (vObj q.1.2).bind fun j => (vInt q.2.1.2).bind fun r => (vInt q.2.2.2).bind fun d => match μ[j]? with
  | some (.list vs) => match treesOf vs with
   | some ts => some (j, ts, r, d)
   | none => none
  | _ => none
 | false => none
theorem brOf_is {μ : List MO} {fs : List (Nat × MV)} {y : Nat × List Tr × Int × Int} (hb : brOf μ fs = some y) : fs = [(0, .obj y.1), (2, .int y.2.2.1), (3, .int y.2.2.2)] ∧ μ[y.1]? = some (.list (y.2.1.map .tree)) := by
 unfold brOf at hb
 refine obE hb fun q h1 ht => ?_
 refine se3 ht fun hq ht => ?_
 refine obE ht fun s h2 ht => ?_
 refine obE ht fun u h3 ht => ?_
 refine obE ht fun k h4 ht => ?_
 refine se10 ht fun vs hj ht => ?_
 refine se38 ht fun ts' h5 hz => ?_
 refine andE hq fun hq q3 => andE hq fun q1 q2 => ?_
 rw [← Option.some.inj hz, l3_is h1, fldE q1 (asObj_is h2), fldE q2 (asInt_is h3), fldE q3 (asInt_is h4)]
 exact ⟨rfl, treesOf_is h5 ▸ hj⟩
def frzBM (v : MV) : MM MV := match v with
 | .obj i => fun st => match st.μ[i]? with
  | some (.inst C fs) => match Nat.beq C 144 with
   | true => match brOf st.μ fs with
    | some (j, ts, r, c) => some (.val (.tree (.br ts r c)), ⟨st.m, (st.μ.set j .lock).set i .lock⟩)
    | none => none
   | false => none
  | _ => none
 | _ => MM.fail
set_option tactic.hygienic true in
theorem Ev.frzB {e : PySem.Expr} {f : MM MV} (he : EvE F e f) : EvE F e (f.bind frzBM) := fun g W st s Q E G =>
 he.step G fun W1 st1 h1 tk1 v V le rv G1 => by
  unfold frzBM at G1
  refine sg5 G1 fun i qs0 G1 => ?_; subst qs0
  refine G1.oG fun hcs hS m cs R o st' e' hP => ?_
  apply rv.eObj; intro a ha
  dsimp only at e'; split at e'
  ·rename_i C fs hi
   split at e'
   ·rename_i hC
    split at e'
    ·rename_i j ts r c hb
     have hP := hP.eqs e'
     cases Nat.eq_of_beq_eq_true hC
     obtain ⟨rfl, hj⟩ := brOf_is hb
     refine ee33 (R.freeze hj) fun xj ej cs1 hxj hOj R1 => ?_
     have rt := OR.trees hOj
     have hij : j ≠ i := by rintro rfl; rw [hi] at hj; cases hj
     have hi' : (st1.μ.set j .lock)[i]? = some (.inst 144 [(0, .obj j), (2, .int r), (3, .int c)]) := by rw [List.getElem?_set_ne hij]; exact hi
     refine ee33 (R1.freeze (st := ⟨st1.m, st1.μ.set j .lock⟩) hi') fun x es cs2 hx hO R2 => ?_
     rw [show (W1.frozL ej).ρ[i]? = W1.ρ[i]? from rfl, ha] at hx; obtain rfl := Option.some.inj hx
     refine hP _ _ _ _ _ _ (Wd.le_frozL.trans Wd.le_frozL) R2 (.tree (OR.br (W := W1.frozL ej) ?_))
     apply hO.eInst; intro _ _ q
     apply q.eCons; intro _ _ _ c1 v1 q2
     apply v1.eObj; intro _ e1
     rw [show (W1.frozL ej).ρ[j]? = W1.ρ[j]? from rfl, hxj] at e1; obtain rfl := Option.some.inj e1
     exact .inst (.cons c1 rt q2)
    ·exact nsE e'
   ·exact nsE e'
  ·exact nsE e'
end
open PySem.StrLaws PySem.Builtin PySem.Builtin.Str in
section
noncomputable def posL (c : Nat) : List Nat → Nat → List Nat
 | [], _ => []
 | x :: r, i => match Nat.beq x c with
  | true => i :: posL c r (i + 1)
  | false => posL c r (i + 1)
theorem occ1 {xs : List Nat} {c : Nat} : ∀ (r : List Nat) (i : Nat) (found : Array Nat) (free : Nat), xs.drop i = r → i + r.length = xs.length → free ≤ i → found.size ≤ i →
  (forIn (List.range' i (r.length + 1)) (found, free) (occBody (S xs) (S [c]) xs.length (xs.length + 1))).run.fst.toList = found.toList ++ posL c r i
 | [], i, found, free, hd, hl, hf, hs => by
  simp only [List.length_nil, Nat.add_zero] at hl
  show (forIn (List.range' i 1) (found, free) (occBody (S xs) (S [c]) xs.length (xs.length + 1))).run.fst.toList = _
  rw [show List.range' i 1 = [i] from rfl, List.forIn_cons]
  unfold occBody
  rw [if_neg (fun h => by have := h.1.2; rw [show (S [c]).length = 1 from rfl] at this; omega)]
  simp [posL]
 | x :: r, i, found, free, hd, hl, hf, hs => by
  rw [List.length_cons] at hl
  have hx : xs[i]? = some x := by
   have : (xs.drop i)[0]? = some x := by rw [hd]; rfl
   rwa [List.getElem?_drop] at this
  have hd' : xs.drop (i + 1) = r := by
   have := congrArg (List.drop 1) hd
   rwa [List.drop_drop] at this
  rw [show (x :: r).length + 1 = (r.length + 1) + 1 from rfl, List.range'_succ, List.forIn_cons]
  unfold occBody posL
  cases hb : Nat.beq x c with
  | true =>
   have e := Nat.eq_of_beq_eq_true hb
   subst e
   rw [if_pos ⟨⟨⟨by show found.size < xs.length + 1; omega, hf⟩, by show i + 1 ≤ xs.length; omega⟩, sub_at.mpr hx⟩]
   have := occ1 (xs := xs) (c := x) r (i + 1) (found.push i) (i + 1) hd' (by omega) (Nat.le_refl _) (by rw [Array.size_push]; omega)
   refine Eq.trans ?_ (this.trans ?_)
   ·rfl
   ·simp
  | false =>
   have hne : x ≠ c := Nat.ne_of_beq_eq_false hb
   rw [if_neg (fun h => hne (by have := sub_at.mp h.2; rw [hx] at this; exact Option.some.inj this))]
   exact occ1 (xs := xs) (c := c) r (i + 1) found free hd' (by omega) (by omega) (by omega)
theorem occ_all (xs : List Nat) (c : Nat) : occurrences (S xs) (S [c]) 0 (S xs).length ((S xs).length + 1) = posL c xs 0 := by
 rw [occ_eq, S_len]
 have := occ1 (xs := xs) (c := c) xs 0 #[] 0 rfl (by omega) (Nat.le_refl _) (Nat.le_refl _)
 simpa using this
noncomputable def splitC (c : Nat) : List Nat → List Nat × List (List Nat)
 | [] => ([], [])
 | x :: r => match splitC c r with
  | (p, q) => match Nat.beq x c with
   | true => ([], p :: q)
   | false => (x :: p, q)
theorem sub_mk {xs p : List Nat} {a b : Nat} (h : (xs.drop a).take (b - a) = p) : strSub (S xs) a b = S p := by
 rw [← S_of (strSub (S xs) a b), strSub_toList]
 show S ((xs.drop a).take (b - a)) = _
 rw [h]
theorem parts1 {xs : List Nat} {c : Nat} : ∀ (r : List Nat) (i a : Nat) (pre : List Nat), a + pre.length = i → xs.drop a = pre ++ r → i + r.length = xs.length →
  partsFrom (S xs) 1 a (posL c r i) = S (pre ++ (splitC c r).1) :: (splitC c r).2.map S
 | [], i, a, pre, ha, hd, hl => by
  have hl' : i = xs.length := by simpa using hl
  show [strSub (S xs) a (S xs).length] = [S (pre ++ [])]
  rw [S_len, sub_mk (p := pre) (by rw [hd, List.append_nil]; exact List.take_of_length_le (by omega)), List.append_nil]
 | x :: r, i, a, pre, ha, hd, hl => by
  rw [List.length_cons] at hl
  unfold posL splitC
  cases hb : Nat.beq x c with
  | true =>
   have e := Nat.eq_of_beq_eq_true hb
   subst e
   have hd' : xs.drop (i + 1) = [] ++ r := by
    have := congrArg (List.drop (pre.length + 1)) hd
    rw [List.drop_drop] at this
    rw [show i + 1 = a + (pre.length + 1) by omega, this, List.drop_append]
    simp
   have ih := parts1 (xs := xs) (c := x) r (i + 1) (i + 1) [] rfl hd' (by omega)
   show strSub (S xs) a i :: partsFrom (S xs) 1 (i + 1) (posL x r (i + 1)) = _
   rw [ih, sub_mk (p := pre) (by rw [hd, show i - a = pre.length by omega, List.take_left])]
   cases splitC x r
   simp
  | false =>
   have ih := parts1 (xs := xs) (c := c) r (i + 1) a (pre ++ [x]) (by simp; omega) (by rw [hd]; simp) (by omega)
   dsimp only
   rw [ih]
   cases splitC c r
   simp
theorem parts_all (xs : List Nat) (c : Nat) : partsBetween (S xs) (occurrences (S xs) (S [c]) 0 (S xs).length ((S xs).length + 1)) (S [c]).length = S (splitC c xs).1 :: (splitC c xs).2.map S := by
 rw [partsBetween_eq, occ_all]
 exact parts1 xs 0 0 [] rfl rfl (by omega)
noncomputable def cutC (c : Nat) : List Nat → List Nat
 | [] => []
 | x :: r => match Nat.beq x c with
  | true => cutC c r
  | false => x :: cutC c r
theorem join_nil : ∀ (ps : List (List Nat)) (p : List Nat), Str.join (S []) ((p :: ps).map S) = S (p ++ ps.flatten)
 | [], p => by simp [Str.join]
 | q :: ps, p => by
  show S p ++ S [] ++ Str.join (S []) ((q :: ps).map S) = _
  rw [join_nil ps q, S_app, S_app]
  simp
theorem splitC_flat (c : Nat) : ∀ xs : List Nat, (splitC c xs).1 ++ (splitC c xs).2.flatten = cutC c xs
 | [] => rfl
 | x :: r => by
  have ih := splitC_flat c r
  unfold splitC cutC
  cases hb : Nat.beq x c with
  | true =>
   dsimp only
   rw [← ih]
   cases splitC c r
   simp
  | false =>
   dsimp only
   rw [← ih]
   cases splitC c r
   simp
theorem posL_nil {c : Nat} : ∀ {xs : List Nat} {i : Nat}, posL c xs i = [] → cutC c xs = xs
 | [], _, _ => rfl
 | x :: r, i, h => by
  unfold posL at h
  unfold cutC
  split at h
  ·cases h
  ·rw [posL_nil h]
theorem replace_is (xs : List Nat) (c : Nat) : Txt.replace (S xs) (S [c]) (S []) = S (cutC c xs) := by
 unfold Txt.replace
 split
 ·rename_i h
  rw [occ_all] at h
  have : posL c xs 0 = [] := by simpa [show (S [c]).length = 1 from rfl] using h
  rw [posL_nil this]
 ·rw [glued_eq_join, parts_all, ← splitC_flat]
  exact join_nil _ _
theorem posL_nil' {c : Nat} : ∀ {xs : List Nat} {i : Nat}, posL c xs i = [] → splitC c xs = (xs, [])
 | [], _, _ => rfl
 | x :: r, i, h => by
  unfold posL at h
  unfold splitC
  split at h
  ·cases h
  ·rw [posL_nil' h]
theorem split_is (xs : List Nat) {c : Nat} (hc : c < 256) : Txt.split (S xs) (S [c]) = S (splitC c xs).1 :: (splitC c xs).2.map S := by
 unfold Txt.split
 have hk : Builtin.Str.strKind (S [c]) = 1 := by unfold Builtin.Str.strKind; rw [if_pos (by simp [hc])]
 have hk2 : 1 ≤ Builtin.Str.strKind (S xs) := by unfold Builtin.Str.strKind; (repeat' split) <;> decide
 split
 ·rename_i h
  rcases Bool.or_eq_true_iff.mp h with q | q
  ·have q' := of_decide_eq_true q
   rw [S_len] at q'
   have : xs = [] := List.eq_nil_of_length_eq_zero (by have : (S [c]).length = 1 := rfl; omega)
   subst this; rfl
  ·have q' := of_decide_eq_true q
   rw [hk] at q'; omega
 ·split
  ·rename_i h
   rw [occ_all] at h
   have : posL c xs 0 = [] := by simpa using h
   rw [posL_nil' this]; rfl
  ·exact parts_all xs c
end
section
variable {F : FS}
def splitM (vs : List MV) : MM MV := match vs with
 | [.str xs, .str [c]] => match Nat.ble xs.length 1000 && Nat.blt c 256 with
  | true => fun st => some (.val (.obj st.μ.length), ⟨st.m, st.μ ++ [.list (.str (splitC c xs).1 :: (splitC c xs).2.map .str)]⟩)
  | false => MM.fail
 | _ => MM.fail
theorem VRs.strs {P : Params} {W : Wd} : ∀ {ps : List (List Nat)} {l : List (Str × Tok)}, l.map (·.1) = ps.map S → VRs P W (ps.map .str) (strValues l)
 | [], [], _ => .nil
 | p :: ps, (x, t) :: l, h => by
  obtain ⟨h1, h2⟩ := List.cons.inj h
  have h1' : x = S p := h1
  subst h1'
  exact .cons .str (VRs.strs h2)
theorem splitC_len (c : Nat) : ∀ xs : List Nat, (splitC c xs).2.length ≤ xs.length
 | [] => Nat.le_refl _
 | x :: r => by
  have ih := splitC_len c r
  unfold splitC
  cases h : splitC c r with
  | mk p q =>
   rw [h] at ih
   dsimp only at ih ⊢
   split <;> (simp only [List.length_cons]; omega)
theorem op_split : OpB F (.builtin "str.split") splitM := by
 intro g W st s Q E vs Vs rs G
 refine G.RE fun m cs R => ?_
 unfold splitM at G
 refine sg33 G fun xs c qs0 G => ?_; subst qs0
 apply rs.eCons; intro _ _ a r
 apply r.eCons; intro _ _ b r
 apply r.eNil
 apply a.eStr; intro _
 apply b.eStr; intro _
 refine sg7 G fun h G => ?_
 obtain ⟨h1, h2⟩ := Bool.and_eq_true_iff.mp h
 have h1' := Nat.le_of_ble_eq_true h1
 have h2' : c < 256 := Nat.le_of_ble_eq_true h2
 refine KSpl.split1 R.F R.N rfl (fun D l h' k e _ F' N' lt => ?_) (by rw [S_len, sizeLine_eq]; omega)
 rw [split_is xs h2'] at e
 have e' : l.map (·.1) = ((splitC c xs).1 :: (splitC c xs).2).map S := e
 have hv : VRs g.w.params W (((splitC c xs).1 :: (splitC c xs).2).map .str) (strValues l) := VRs.strs e'
 have hz := splitC_len c xs
 exact G.out (st2 := ⟨st.m, st.μ ++ [.list (((splitC c xs).1 :: (splitC c xs).2).map .str)]⟩) (b := .obj st.μ.length) rfl Wd.le_snoc (R.newList F' N' (fun p hp => Nat.ne_of_lt (lt p hp)) hv (by simp only [List.length_map, List.length_cons]; omega)) (.obj R.idx)
def isStrOfM (vs : List MV) : MM MV := match vs with
 | [.str _, .con (.type T)] => match T == "str" with
  | true => MM.pure (.bool true)
  | false => MM.fail
 | [.tup _, .con (.type T)] => match T == "str" with
  | true => MM.pure (.bool false)
  | false => MM.fail
 | _ => MM.fail
set_option tactic.hygienic true in
theorem op_isStr : OpB F (.builtin "isinstance") isStrOfM := by
 intro g W st s Q E vs Vs rs G
 refine G.RE fun m cs R => ?_
 unfold isStrOfM at G
 split at G
 ·rename_i x T
  apply rs.eCons; intro _ _ a r
  apply r.eCons; intro _ _ b r
  apply r.eNil; apply a.eStr; intro _; apply b.eCon
  refine sg7 G fun h G => ?_
  cases eq_of_beq h
  exact IsiPair.str_str (G.ret .bool)
 ·rename_i vs T
  apply rs.eCons; intro _ _ a r
  apply r.eCons; intro _ _ b r
  apply r.eNil; apply b.eCon
  refine sg7 G fun h G => ?_
  cases eq_of_beq h
  apply a.eTup; intro _ _ hm hz hr
  refine ee13 (R.N.isTup (List.mem_append_right _ (W.mem hm))) fun o ho hc _ => ?_
  exact IsiPair.tuple_str ho hc (G.tk .bool)
 ·exact G.none.elim
def toM (v k : MV) : MM MV := match v, k with
 | .obj i, .int n => match decide (0 ≤ n) with
  | true => fun st => match st.μ[i]? with
   | some (.list vs) => some (.val (.obj st.μ.length), ⟨st.m, st.μ ++ [.list (vs.take n.toNat)]⟩)
   | _ => none
  | false => MM.fail
 | _, _ => MM.fail
theorem pick_take {vs : List Value} {k : Int} (h : 0 ≤ k) : (slicePick vs.toArray none (some k) none).toList = vs.take k.toNat := by
 have e : sliceBounds none (some k) none vs.toArray.size = (((0 : Nat) : Int), ((min k.toNat vs.toArray.size : Nat) : Int), 1) := by
  simp only [sliceBounds, Option.getD_none, show (1 : Int) > 0 by decide, if_true, if_neg (show ¬ (k < 0) by omega)]
  congr 1
  congr 1
  omega
 rw [kmk_pick_nat _ e]
 show (vs.drop 0).take (min k.toNat vs.toArray.size - 0) = _
 rw [List.size_toArray, Nat.sub_zero, List.drop_zero]
 rcases Nat.le_total k.toNat vs.length with q | q
 ·rw [Nat.min_eq_left q]
 ·rw [Nat.min_eq_right q, List.take_length, List.take_of_length_le q]
set_option tactic.hygienic true in
theorem Ev.sliceTo {value hi : PySem.Expr} {fv fl : MM MV} {sp pos : Pos} (hv : EvE F value fv) (hl : EvE F hi fl) : EvE F (.Subscript value (.Slice none (some hi) none sp) pos) (fv.bind fun v => fl.bind fun k => toM v k) := fun g W st s Q E G =>
 Subscript_ (hv.step G fun W1 st1 h1 tk1 v V le rv G1 => wpAny_Slice (evalPart_none_step (evalPart_some_step (hl.step G1 fun W2 st2 h2 tk2 k K le2 rk G2 => evalPart_none_step (by
  have rv2 := rv.mono le2
  refine G2.RE fun m cs R => ?_
  unfold toM at G2
  split at G2
  ·rename_i i n
   refine sg7 G2 fun hn G2 => ?_
   have hn' := of_decide_eq_true hn
   apply rk.eInt; intro _
   apply rv2.eObj; intro x hx
   refine G2.oE fun o st' e _ => ?_
   refine se10 e fun us hi' e => ?_
   clear e
   refine ee44 (R.list hx hi') fun ws kk pre post hcs hr hz _ => ?_
   have hlw := hr.length
   refine kba_turn (value' := .Name "" default) (fun _ => rfl) (kmk_slice_lit (s := Sh (Sh s h1 tk1) h2 tk2) R.F R.N (R.N.isList (n := kk) (by rw [hcs]; exact List.mem_append_left _ (List.mem_append_right _ (.head _)))) (lo := none) (hi := some n) (by kmk_part) (by kmk_part) (pick_take hn') (fun D h' F' N' lt => ?_) (by with_unfolding_all rfl) (fun _ => rfl) (by rw [List.size_toArray, sizeLine_eq]; omega))
   exact G2.out (st2 := ⟨st2.m, st2.μ ++ [.list (us.take n.toNat)]⟩) (b := .obj st2.μ.length) (by simp only [hi']) Wd.le_snoc (R.newList F' N' (fun p hp => Nat.ne_of_lt (lt p hp)) (hr.take n.toNat) (by rw [List.length_take]; omega)) (.obj R.idx)
  ·exact G2.none.elim)))))
noncomputable def pairsM : List (List Nat × Int) → List (List Nat × MV)
 | [] => []
 | (k, v) :: r => (k, .int v) :: pairsM r
def dictM (ps : List (List Nat × Int)) : MM MV := fun st => some (.val (.obj st.μ.length), ⟨st.m, st.μ ++ [.dict (pairsM ps)]⟩)
inductive DispR : List (Option PySem.Expr) → List PySem.Expr → List (List Nat × Int) → Prop
 | nil : DispR [] [] []
 | cons {x : Str} {k : List Nat} {i : Int} {n1 n2 : Nat} {p1 p2 : Pos} {ks vs r} : x = S k → DispR ks vs r → DispR (some (.Constant (.str x) n1 p1) :: ks) (.Constant (.int i) n2 p2 :: vs) ((k, i) :: r)
theorem disp_eval {prog : Program} {w : World} {A : Around} {E : Value → Shared → Prop} {env : Env} {pos : Pos} {P : Params} {W : Wd} {ks : List (Option PySem.Expr)} {vs : List PySem.Expr} {r : List (List Nat × Int)} {s : Shared} {Q : List (Value × Value) → Shared → Prop} (d : DispR ks vs r)
  (h : ∀ (us : List (Value × Value)) tk, allStrKeys us = true → (strPairs us).map (·.1) = r.map (fun p => S p.1) → KsR P W (pairsM r) (strPairs us) → Q us { s with toks := tk }) : wpAny (model prog w) A (evalPairs (pairTrees ks vs env pos)) Q E s := by
 induction d generalizing s Q with
 | nil => exact pairTrees_nil_walk (h [] s.toks rfl rfl .nil)
 | cons hx d ih =>
  subst hx
  refine pairTrees_cons_walk (wpAny_Constant_str (wpAny_Constant_int (ih fun us tk h1 h2 h3 => ?_)))
  exact h _ tk h1 (congrArg (S _ :: ·) h2) (.cons .int h3)
theorem DispR.len {ks : List (Option PySem.Expr)} {vs : List PySem.Expr} {r : List (List Nat × Int)} (h : DispR ks vs r) : ks.all (·.isSome) = true ∧ ks.length = vs.length ∧ ks.length = r.length := by
 induction h with
 | nil => exact ⟨rfl, rfl, rfl⟩
 | cons _ _ ih => exact ⟨by simp [ih.1], by simp [ih.2.1], by simp [ih.2.2]⟩
theorem pairsM_len : ∀ r : List (List Nat × Int), (pairsM r).length = r.length
 | [] => rfl
 | _ :: r => congrArg (· + 1) (pairsM_len r)
theorem Ev.dict {keys : List (Option PySem.Expr)} {values : List PySem.Expr} {r : List (List Nat × Int)} {pos : Pos} (hd : DispR keys values r) (h0 : keys ≠ []) (hz : keys.length ≤ 15) (nd : (r.map (fun p => S p.1)).Nodup) : EvE F (.Dict keys values pos) (dictM r) := fun g W st s Q E G => by
 refine G.RE fun m cs R => ?_
 refine ee03 hd.len fun l1 l2 l3 => ?_
 refine kdn_eval (prog := pw_nm0149_01) (w := g.w) (knd := strKind pw_nm0149_01 g.w) R.F R.N G.S.T.nolimit l1 l2 h0 hz fun d h' o F' N' lt lo ho => ?_
 refine disp_eval (P := g.w.params) (W := W) hd fun us tk a1 a2 a3 => ?_
 refine kdn_made_str (g := fun o' => (d, o') :: (cs ++ W.all)) F' N' (.head fun p hp e => Nat.ne_of_lt (lt p hp) e) ho a1 (by rw [a2]; exact nd) fun h2 o' F2 N2 ho2 => ?_
 exact G.out (st2 := ⟨st.m, st.μ ++ [.dict (pairsM r)]⟩) (b := .obj st.μ.length) rfl Wd.le_snoc (R.snoc (es := [(d, o')]) F2 N2 (by simp) (fun p hp q hq => by rw [List.mem_singleton.mp hq]; exact Nat.ne_of_lt (lt p hp)) (.dict lo (a3.weak Wd.le_snoc.wk) (by rw [pairsM_len]; omega) ho2)) (.obj R.idx)
end
section
open PySem.SeqAt PySem.AutoSeq1
theorem tupNe3 {prog : Program} {w : World} {A : Around} {E : Value → Shared → Prop} {s : Shared} {l b p q : Addr} {i k : Int} {t1 t2 t3 t4 : Tok} {Q : Value → Shared → Prop} (h1 : s.heap.IsTuple l #[.int i t1, .ref p, .int k t2]) (h2 : s.heap.IsTuple b #[.int i t3, .ref q, .int k t4]) (hu : A.units < cLine)
  (hd : ∀ Q' : Bool → Shared → Prop, Q' true s → wpAny (model prog w) A.in1 (eqBool (.ref p) (.ref q)) Q' E s) (hQ : Q (.bool false) s) : wpAny (model prog w) A (compareOp .NotEq (.ref l) (.ref b)) Q E s := by
 obtain ⟨⟨cls, dd, data, sl⟩, ho, hc, m1, hdt⟩ := id h1
 obtain ⟨⟨cls2, dd2, data2, sl2⟩, ho2, hc2, m2, hdt2⟩ := id h2
 simp only at hc hdt hc2 hdt2
 subst hc hdt hc2 hdt2
 refine wpAny_richCompare_same_room (op := .NotEq) ⟨_, ho, rfl⟩ ⟨_, ho2, rfl⟩ F.slot_tuple_ne (wpAny_call_entry F.slot_tuple_ne ⟨_, ho, rfl⟩ F.entry_tuple_ne ?_ (F.args_tuple_ne_2 _ _)) hu
 have e1 : ∀ Q' : Bool → Shared → Prop, Q' true s → wpAny (model prog w) A.in1 (eqBool (.int i t1) (.int i t3)) Q' E s := fun Q' h => EqAt.int_int i t1 i t3 prog w E Q' (by rw [beq_self_eq_true]; exact h)
 have e3 : ∀ Q' : Bool → Shared → Prop, Q' true s → wpAny (model prog w) A.in1 (eqBool (.int k t2) (.int k t4)) Q' E s := fun Q' h => EqAt.int_int k t2 k t4 prog w E Q' (by rw [beq_self_eq_true]; exact h)
 obtain ⟨hp, g, d, tk, os⟩ := s
 have f2 := AutoSeq1.sub_tuple_tuple
 wp_walk using wpAny_loadPart' ho, wpAny_loadPart' ho2, e1, hd, e3
 exact ⟨_, rfl, (fun x => nomatch x), hQ⟩
end
theorem CellsR.mem {w : World} {W : Wd} {μ : List MO} {ρ : List Addr} {cs : List (Addr × Obj)} {j : Nat} {ks : List (List Nat × MV)} {b : Addr} (r : CellsR w W μ ρ cs) (h1 : μ[j]? = some (.dict ks)) (h2 : ρ[j]? = some b) : ∃ o, (b, o) ∈ cs := by
 induction r generalizing j with
 | nil => exact nsE h1
 | @cons o x es _ _ _ a r ih =>
  cases j with
  | zero =>
   have h3 : o = .dict ks := Option.some.inj h1
   have h4 : x = b := Option.some.inj h2
   subst h3 h4
   refine ee25 a.iDict fun o _ q _ _ _ _ => ⟨o, ?_⟩
   rw [q]; exact List.mem_append_left _ (.head _)
  | succ j => exact (ih (j := j) h1 h2).elim fun o h => ⟨o, List.mem_append_right _ h⟩
theorem CellsR.apart {w : World} {W : Wd} {μ : List MO} {ρ : List Addr} {cs : List (Addr × Obj)} {i j : Nat} {ks ls : List (List Nat × MV)} {a b : Addr} (r : CellsR w W μ ρ cs) (nd : (cs.map (·.1)).Nodup) (hij : i < j) (h1 : μ[i]? = some (.dict ks)) (h2 : ρ[i]? = some a) (h3 : μ[j]? = some (.dict ls)) (h4 : ρ[j]? = some b) : a ≠ b := by
 induction r generalizing i j with
 | nil => exact nsE h1
 | @cons o x es _ _ cs c r ih =>
  cases j with
  | zero => exact absurd hij (Nat.not_lt_zero _)
  | succ j =>
   rw [List.map_append] at nd
   cases i with
   | zero =>
    have e1 : o = .dict ks := Option.some.inj h1
    have e2 : x = a := Option.some.inj h2
    subst e1 e2
    refine ee25 c.iDict fun o _ q _ _ _ _ => (r.mem (j := j) h3 h4).elim fun o' ho e => ?_
    rw [q] at nd
    exact (List.nodup_append.mp nd).2.2 x (.head _) b (List.mem_map_of_mem (f := (·.1)) ho) e
   | succ i => exact ih (List.nodup_append.mp nd).2.1 (Nat.lt_of_succ_lt_succ hij) h1 h2 h3 h4
section
variable {F : FS}
open PySem.SeqAt
def hitsM (ls : List (List Nat × MV)) : List (List Nat × MV) → Bool
 | [] => true
 | (k, .int v) :: r => match kget ls k with
  | some (.int u) => match decide (v = u) with
   | true => hitsM ls r
   | false => false
  | _ => false
 | _ => false
set_option tactic.hygienic true in
theorem hitsM_is {P : Params} {W : Wd} {A : Around} {s : Shared} {ls : List (List Nat × MV)} {lws : List (Str × Value)} (hl : KsR P W ls lws) : ∀ {ks : List (List Nat × MV)} {kws : List (Str × Value)}, KsR P W ks kws → hitsM ls ks = true → KeqHits A s lws kws true
 | _, _, .nil, _ => .nil
 | _, _, .cons (k := k) (v := v) hv r, h => by
  unfold hitsM at h
  split at h
  ·rename_i h'; cases h'
  ·rename_i k' v' r' h'
   cases h'
   split at h
   ·rename_i u hu
    split at h
    ·rename_i hq
     have hq' := of_decide_eq_true hq
     subst hq'
     refine ee12 ((hl.get (k := k)).1 _ hu) fun V hV rV => ?_
     apply hv.eInt; intro t1
     obtain ⟨t2, rfl⟩ := rV.iInt
     have e := EqAt.int_int (A := A) (s := s) v' t1 v' t2
     rw [beq_self_eq_true] at e
     exact KeqHits.hit (b := true) hV e (hitsM_is (A := A) (s := s) hl r h)
    ·exact ftE h
   ·exact ftE h
  ·exact ftE h
def tri (v : MV) : Option (Int × Nat × Int) := (vTup v).bind fun l => (l3 l).bind fun q => (vInt q.1).bind fun i => (vObj q.2.1).bind fun p => (vInt q.2.2).bind fun k => some (i, p, k)
theorem tri_is {P : Params} {W : Wd} {v : MV} {V : Value} {y : Int × Nat × Int} (r : VR P W v V) (h : tri v = some y) : ∃ l t a u, V = .ref l ∧ (l, tupO [.int y.1 t, .ref a, .int y.2.2 u]) ∈ W.R ∧ W.ρ[y.2.1]? = some a := by
 unfold tri at h
 refine obE h fun l h1 h => ?_
 refine obE h fun q h2 h => ?_
 refine obE h fun i' h3 h => ?_
 refine obE h fun p' h4 h => ?_
 refine obE h fun k' h5 hz => ?_
 rw [asTup_is h1, l3_is h2, asInt_is h3, asObj_is h4, asInt_is h5] at r
 rw [← Option.some.inj hz]
 refine ee24 r.iTup fun l ws e m _ r => ?_
 refine ee23 r.iCons fun V1 w1 e1 x r => ee23 r.iCons fun V2 w2 e2 y r => ee23 r.iCons fun V3 w3 e3 z r => ?_
 refine x.iInt.elim fun t f1 => y.iObj.elim fun a f2 => z.iInt.elim fun u f3 => ⟨l, t, a, u, e, ?_, f2.2⟩
 rw [e1, e2, e3, r.iNil, f1, f2.1, f3] at m
 exact m
def neTM (n : Nat) (a b : MV) : MM MV := match tri a with
 | some (i, p, k) => match tri b with
  | some (j, q, m) => match decide (i = j) && decide (k = m) && Nat.ble 2 n && !Nat.beq p q with
   | true => fun st => match st.μ[p]? with
    | some (.dict ks) => match st.μ[q]? with
     | some (.dict ls) => match Nat.beq ks.length ls.length && hitsM ls ks with
      | true => some (.val (.bool false), st)
      | false => none
     | _ => none
    | _ => none
   | false => MM.fail
  | none => neM n a b
 | none => neM n a b
theorem op_neT : OpR F (compareOp .NotEq) (neTM F.D) := by
 intro g W st s Q E a b A B ra rb G
 unfold neTM at G
 cases ea : tri a with
 | none => rw [ea] at G; exact op_ne ra rb G
 | some x =>
  obtain ⟨i, p, k⟩ := x
  rw [ea] at G
  cases eb : tri b with
  | none => rw [eb] at G; exact op_ne ra rb G
  | some y =>
   obtain ⟨j, q, m⟩ := y
   rw [eb] at G
   dsimp only at G
   refine sg7 G fun hc G2 => ?_
   clear G
   rw [Bool.and_eq_true, Bool.and_eq_true, Bool.and_eq_true] at hc
   obtain ⟨⟨⟨c1, c2⟩, c3⟩, c4⟩ := hc
   have c1' := of_decide_eq_true c1
   have c2' := of_decide_eq_true c2
   have c3' := Nat.le_of_ble_eq_true c3
   have c4' : p ≠ q := by
    intro e; subst e; rw [Nat.beq_refl] at c4; exact ftE c4
   subst c1' c2'
   refine G2.RE fun mm cs R => G2.oE fun o st' e _ => se12 e fun ks hp e => se12 e fun ls hq e => se3 e fun hh e => ?_
   obtain ⟨h1, h2⟩ := Bool.and_eq_true_iff.mp hh
   refine ee43 (tri_is ra ea) fun l1 t1 a1 u1 q1 m1 ha => ee43 (tri_is rb eb) fun l2 t2 b1 u2 q2 m2 hb => ?_
   subst q1 q2
   have T1 := R.N.isTup (List.mem_append_right _ (W.mem m1))
   have T2 := R.N.isTup (List.mem_append_right _ (W.mem m2))
   refine ee46 (R.dict ha hp) fun oa kwa pre post loa ea hka _ hda _ => ee46 (R.dict hb hq) fun ob kwb pre2 post2 lob eb hkb _ hdb _ => ?_
   have nd : (cs.map (·.1)).Nodup := by
    have := R.nd
    rw [List.map_append] at this
    exact (List.nodup_append.mp this).1
   have hne : a1 ≠ b1 := by
    rcases Nat.lt_or_gt_of_ne c4' with z | z
    ·exact R.cells.apart nd z hp ha hq hb
    ·exact (R.cells.apart nd z hq hb hp ha).symm
   have hu : g.A.units + 40 * F.D < cLine := G2.S.u
   refine tupNe3 T1 T2 (by omega) (fun Q' h => ?_) (G2.out (st2 := st) (b := .bool false) (by simp only [hp, hq, hh]) .rfl' R .bool)
   unfold eqBool
   refine wpAny_holding ?_
   refine wpAny_ite_split (fun hab => absurd (by have := eq_of_beq hab; injection this) hne) (fun _ => ?_)
   have ma : (a1, oa) ∈ cs ++ W.all := by rw [ea]; exact List.mem_append_left _ (List.mem_append_right _ (.head _))
   have mb : (b1, ob) ∈ cs ++ W.all := by rw [eb]; exact List.mem_append_left _ (List.mem_append_right _ (.head _))
   refine wpAny_bind (keq_pairs (A := g.A.in1) R.N ma mb hda hdb loa lob (by rw [← hka.length, ← hkb.length]; exact Nat.eq_of_beq_eq_true h1) (by show g.A.units + 1 < cLine; omega) (hitsM_is hkb hka h2) (wpAny_truthy_bool h))
end
section
theorem runs_toks {M : Model} {Γ : PySem.Ctx} {p : Pos} {t : Sem PySem.Fin} {fs : List Frame} {s : Shared} {e : End} {s' : Shared} (h : Runs M Γ p t fs s e s') : s.toks ≤ s'.toks := by
 induction h with
 | fresh _ ih => exact Nat.le_trans (Nat.le_succ _) ih
 | done | raise | yield => exact Nat.le_refl _
 | again _ _ ih | rule _ ih | «at» _ ih | load _ _ ih | update _ _ ih | loadIfAlive _ ih | point _ ih | alloc _ ih | ask _ ih | choose _ _ ih | os _ ih | handled _ ih | genState _ _ ih | stack _ ih | thread _ ih | newGen _ ih | callSusp _ ih => exact ih
 | call _ _ i1 i2 => exact Nat.le_trans i1 i2
 | resumeFresh _ _ _ _ i1 i2 => exact Nat.le_trans i1 i2
 | resumeSuspended _ _ _ _ i1 i2 => exact Nat.le_trans i1 i2
 | resumeJustStarted _ _ _ ih | resumeThrowFresh _ _ ih | resumeRunning _ _ ih | resumeFinished _ _ ih => exact ih
 | segRet _ _ i1 i2 => exact Nat.le_trans i1 i2
 | segGen _ _ i1 i2 => exact Nat.le_trans i1 i2
 | segSuspOut _ _ ih => exact ih
 | segSuspGen _ _ _ _ i1 i2 => exact Nat.le_trans i1 i2
theorem wakes_toks {M : Model} {Γ : PySem.Ctx} {p : Pos} {g : Nat} {r : Resume} {s : Shared} {res : GenResult} {s' : Shared} (h : Wakes M Γ p g r s res s') : s.toks ≤ s'.toks := by
 unfold Wakes at h
 split at h
 ·exact h.elim
 ·split at h
  ·refine ee24 h fun e s1 h1 _ _ qe5 => ?_; subst qe5; have := runs_toks h1; exact this
  ·rw [h.2]; exact Nat.le_refl _
  ·rw [h.2]; exact Nat.le_refl _
 ·refine ee24 h fun e s1 h1 _ _ qe5 => ?_; subst qe5; have := runs_toks h1; exact this
 ·rw [h.2]; exact Nat.le_refl _
 ·rw [h.2]; exact Nat.le_refl _
theorem wp_toks {α : Type} {M : Model} {Γ : PySem.Ctx} {n : Nat} : ∀ {t : Sem α} {Q : α → Pos → Shared → Prop} {E : Value → Pos → Shared → Prop} {p : Pos} {s : Shared}, n ≤ s.toks → Sem.wp M Γ t Q E p s →
  Sem.wp M Γ t (fun a p s' => Q a p s' ∧ n ≤ s'.toks) (fun e p s' => E e p s' ∧ n ≤ s'.toks) p s := by
 intro t
 induction t with
 | pure a => exact fun d h => ⟨h, d⟩
 | raise e => exact fun d h => ⟨h, d⟩
 | unsupported => exact fun _ h => h
 | finish => exact fun _ h => h
 | rule _ k ih => exact fun d h => ih () d h
 | «at» _ k ih => exact fun d h => ih () d h
 | point _ k ih => exact fun d h => ih () d h
 | load a _ k ih => exact fun d ⟨o, ho, h⟩ => ⟨o, ho, ih o d h⟩
 | update a _ f k ih => exact fun d ⟨ho, h⟩ => ⟨ho, ih () d h⟩
 | loadIfAlive a k ih => exact fun d h => ih _ d h
 | alloc o k ih => exact fun d h => ih _ d h
 | register => exact fun _ h => h
 | fresh k ih => exact fun d h => ih _ (Nat.le_trans d (Nat.le_succ _)) h
 | ask k ih => exact fun d h => ih _ d h
 | choose src n k ih => exact fun d ⟨ho, h⟩ => ⟨ho, ih _ d h⟩
 | os q _ k ih => exact fun d h => ih _ d h
 | call c h' g l k ih =>
  rintro Q E p s d ⟨r, s1, h1, h2⟩
  exact ⟨r, s1, h1, ih r (Nat.le_trans d (runs_toks h1)) h2⟩
 | handled own k ih => exact fun d h => ih _ d h
 | newGen c k ih => exact fun d h => ih _ d h
 | genState g k ih => exact fun d ⟨o, ho, h⟩ => ⟨o, ho, ih _ d h⟩
 | resume g r l k ih =>
  rintro Q E p s d ⟨r, s1, h1, h2⟩
  exact ⟨r, s1, h1, ih _ (Nat.le_trans d (wakes_toks h1)) h2⟩
 | yield => exact fun _ h => h
 | stack k ih => exact fun d h => ih _ d h
 | fork => exact fun _ h => h
 | thread k ih => exact fun d h => ih _ d h
 | await => exact fun _ h => h
theorem wpAny_toks {α : Type} {M : Model} {A : Around} {t : Sem α} {Q : α → Shared → Prop} {E : Value → Shared → Prop} {s : Shared} {n : Nat} (hn : n ≤ s.toks) (h : wpAny M A t (fun a s' => n ≤ s'.toks → Q a s') E s) : wpAny M A t Q E s :=
 wpAny_mono (Q := fun a s' => (n ≤ s'.toks → Q a s') ∧ n ≤ s'.toks) (E := fun e s' => E e s' ∧ n ≤ s'.toks) (fun Γ p hΓ => wp_toks hn (h Γ p hΓ)) (fun _ _ h => h.1 h.2) fun _ _ h => h.1
noncomputable def bumps {α : Type} : Nat → Sem α → Bool
 | n + 1, .rule _ k => bumps n (k ())
 | n + 1, .at _ k => bumps n (k ())
 | n + 1, .point _ k => bumps n (k ())
 | _, .fresh _ => true
 | _, _ => false
theorem wp_bumps {α : Type} {M : Model} {Γ : PySem.Ctx} : ∀ {n : Nat} {t : Sem α} {Q : α → Pos → Shared → Prop} {E : Value → Pos → Shared → Prop} {p : Pos} {s : Shared}, bumps n t = true → Sem.wp M Γ t Q E p s →
  Sem.wp M Γ t (fun a p s' => Q a p s' ∧ 1 ≤ s'.toks) (fun e p s' => E e p s' ∧ 1 ≤ s'.toks) p s := by
 intro n
 induction n with
 | zero =>
  intro t Q E p s hb h
  cases t with
  | fresh k => exact wp_toks (M := M) (Γ := Γ) (n := 1) (t := k s.toks) (s := { s with toks := s.toks + 1 }) (by show 1 ≤ s.toks + 1; omega) h
  | _ => exact ftE hb
 | succ n ih =>
  intro t Q E p s hb h
  cases t with
  | fresh k => exact wp_toks (M := M) (Γ := Γ) (n := 1) (t := k s.toks) (s := { s with toks := s.toks + 1 }) (by show 1 ≤ s.toks + 1; omega) h
  | rule _ k => exact ih (t := k ()) hb h
  | «at» _ k => exact ih (t := k ()) hb h
  | point _ k => exact ih (t := k ()) hb h
  | _ => exact ftE hb
theorem wpAny_bumps {α : Type} {M : Model} {A : Around} {t : Sem α} {Q : α → Shared → Prop} {E : Value → Shared → Prop} {s : Shared} {n : Nat} (hb : bumps n t = true) (h : wpAny M A t (fun a s' => 1 ≤ s'.toks → Q a s') E s) : wpAny M A t Q E s :=
 wpAny_mono (Q := fun a s' => (1 ≤ s'.toks → Q a s') ∧ 1 ≤ s'.toks) (E := fun e s' => E e s' ∧ 1 ≤ s'.toks) (fun Γ p hΓ => wp_bumps hb (h Γ p hΓ)) (fun _ _ h => h.1 h.2) fun _ _ h => h.1
end
section
variable {w : World} {A₀ : Around} {E : Value → Shared → Prop} {s' : Shared} {base g G : Heap} {outer : List Env} {L a e de t : Addr} {m : Str → Option Value} {name : Str} {scope : Scope} {cd : Value} {news : List (Addr × Obj)} {vs : List Value} {mean : ExcName → Option Value} {mg mb : Str → Option Value}
theorem caught_bad {x n : Str} {b₀ : Stmt} {suite : List Stmt} {pos np : Pos} {rest : List ExceptHandler} {Q : Flow → Shared → Prop}
  (R : RB base G (envOf name scope L a cd :: outer) 58 e de t vs news s'.heap) (F : Fr g L G m) (K : Below A₀ base outer g) (hsm : G.UpToSlots s'.heap) (XB : (KO w.params).In base) (TB : Top viewE LOOSE mean mg mb base) (D : KtsDicts (outer.filterMap (·.frame)) g)
  (ex : nsIn (KO w.params) mainGlobals x = some (some (.ref 58))) (q : ktsIn (KO w.params) 58 "BaseException" = true)
  (k : ∀ h' g' tk oe E', KtsTurn (outer.filterMap (·.frame)) g g' → Fr g' L h' (fun y => if y = n then some (.ref e) else m y) → News g' L h' ((e, oe) :: news) → oe.cls = .ref 58 → oe.dict = some de → (∀ c, oe.data ≠ .cls c) → (KO w.params).In g' → Top viewE LOOSE mean mg mb g' →
   wpAny (model pw_nm0149_01 w) ((A₀.deeper (envOf name scope L a cd)).mark (some (.ref e))) (execs (b₀ :: suite) (envOf name scope L a cd))
    (fun f s₄ => wpAny (model pw_nm0149_01 w) (A₀.deeper (envOf name scope L a cd)) (do bindName (envOf name scope L a cd) n .none; unbindBehindTheSuite (envOf name scope L a cd) n pos) (fun _ s₅ => Q f s₅) E s₄) E' { s' with heap := h', toks := tk })
  (hk : scope.kind = .function) (hlo : (envOf name scope L a cd).kindOf n = some .local) (hx : (envOf name scope L a cd).kindOf x = some .globalImplicit) (hd : (x == ("__debug__" : Str)) = false) :
  wpAny (model pw_nm0149_01 w) (A₀.deeper (envOf name scope L a cd)) (noteFrame (.ref e) (envOf name scope L a cd))
   (fun _ s₂ => wpAny (model pw_nm0149_01 w) (A₀.deeper (envOf name scope L a cd)) (setFlight (.ref e) none) (fun _ s₃ =>
    wpAny (model pw_nm0149_01 w) (A₀.deeper (envOf name scope L a cd)) (handleBy (.ref e) (envOf name scope L a cd) (.ExceptHandler (some (.Name x np)) (some n) (b₀ :: suite) pos :: rest)) Q E s₃) E s₂) E s' := by
 refine note_held (env := envOf name scope L a cd) (Around.frames_deeper K.stack) rfl rfl R fun h₄ R₄ u₄ => ?_
 obtain ⟨⟨B, hB, hBG, hl, hh, hnew⟩, htup, oe, hoe, hde⟩ := R₄
 have hL : B.get? L = none := by
  obtain ⟨_, ⟨L', _, hf, hn', _⟩, _⟩ := hh.2.2.1
  obtain rfl : L = L' := Option.some.inj hf
  exact hn'
 refine wpAny_mono (wpAny_dict (Q := fun _ s'' => s'' = { s' with heap := s''.heap } ∧ Heap.FlyingW B (envOf name scope L a cd :: outer) e (.ref 58) (.ref t) s''.heap ∧ h₄.UpToSlots s''.heap) (ds_setFlight _ _) (wpAny_landsW hh fun h' x1 x2 => ⟨rfl, x1, x2⟩)) (fun _ s₅ hq => ?_) fun _ _ x => x.1
 obtain ⟨⟨hs, hfly, u₅⟩, dk⟩ := hq
 refine ee12 (dk e _ hoe) fun oe5 hoe5 hde5 => ?_
 rw [hs]
 generalize s₅.heap = h₅ at hfly u₅ hoe5
 have sm5 := (hsm.trans u₄).trans u₅
 refine ee13 (kts_ground K F hBG hfly.1 sm5) fun g₅ T₅ F₅ K₅ => ?_
 have X₅ : (KO w.params).In g₅ := XB.keeps K₅.stays
 have P₅ : TopRead viewE LOOSE mg mb g₅ := topRead_of (TB.keeps K₅.stays)
 refine ee12 hfly.there fun ob hob hobc => ?_
 obtain ⟨nm, q', N, bs, bm, hdct, sn, sub, ab, col, dd, k0, k1, k2, k3, k5, newId, hC, hbase, hbT⟩ := kts_cls X₅ q
 have hC₅ := F₅.keep _ _ hC
 refine wpAny_handleBy_cons (codeAny_handlers_test (name_K F₅ X₅ P₅ ex ?_ hk hx hd)) (by intro z; cases z)
 refine wpAny_excMatches_sub_self hC₅ hob hobc hbase (codeAny_handlers_suite_as ?_)
 refine wpAny_mono (wpAny_dict (Q := fun _ s'' => s'' = { s' with heap := s''.heap } ∧ Heap.FlyingW B (envOf name scope L a cd :: outer) e (.ref 58) (.ref t) s''.heap ∧ h₅.UpToSlots s''.heap) (ds_setFlight _ _) (lands_againW hfly fun h' x1 x2 => ⟨rfl, x1, x2⟩)) (fun _ s₆ hq => ?_) fun _ _ x => x.1
 obtain ⟨⟨hs6, hfl₆, u₆⟩, dk6⟩ := hq
 refine ee12 (dk6 e _ hoe5) fun oe6 hoe6 hde6 => ?_
 rw [hs6]
 generalize s₆.heap = h₆ at hfl₆ u₆ hoe6
 refine ee13 (kts_ground K F hBG hfl₆.1 (sm5.trans u₆)) fun g₆ T₆ F₆ K₆ => ?_
 refine ee24 hfl₆.first fun oe' ws hoe' hoec hoed hoe0 => ?_
 rw [hoe6] at hoe'
 obtain rfl := Option.some.inj hoe'
 have ne₆ : g₆.get? e = none := T₆.none_ _ (kts_fresh F hBG hfl₆.2.1 fun o ho mm => by
  obtain ⟨_, o', ho', hd⟩ := K.frames.mem mm
  rw [ho] at ho'
  obtain rfl := Option.some.inj ho'
  obtain ⟨sl, hs⟩ := (sm5.trans u₆) _ _ (F.keep _ _ ho) hd
  rw [hoe6] at hs
  cases hs
  exact hd _ hoed)
 have Nl : News g₆ L h₆ news := fun q hq => ⟨hfl₆.1 _ _ (hl q hq).1, (fun z => by have := (hl q hq).1; rw [z, hL] at this; exact nsE this), T₆.none_ _ (kts_none F.keep (hl q hq).2.1)⟩
 have N₆ := News.more F₆ Nl hoe6 (fun es n q => by rw [hoed] at q; cases q) ne₆
 refine stN F₆ N₆ (fun h₇ F₇ N₇ => ?_) hk hlo
 exact k h₇ g₆ _ oe6 _ T₆ F₇ N₇ hoec (hde6.trans (hde5.trans hde)) (fun c z => by rw [hoed] at z; cases z) (XB.keeps K₆.stays) (TB.keeps K₆.stays)
end
section
open Builtin Builtin.ObjectAttr
variable {w : World} {A : Around} {E : Value → Shared → Prop} {s : Shared} {x : Addr} {ox : Obj} {od : Option Obj} {name : Str} {expr : Bool} {Q : Value → Shared → Prop}
theorem get_exc {v : Value} (X : (KO w.params).In s.heap) (I : InstAt s.heap x ox 58 od) (hf : findObj (KO w.params) 58 od name = some (.value v)) (hh : handedIn v = true) (h : Q v { s with toks := s.toks + 1 }) : wpAny (model pw_nm0149_01 w) A (getAttr (.ref x) name expr) Q E s := by
 obtain ⟨hp, g, d, t, os⟩ := s
 have L0 := I.type (M := model pw_nm0149_01 w)
 have L1 : Looks (model pw_nm0149_01 w) hp (typeLookup (.ref 58) "__getattribute__") (some (.builtin "BaseException.__getattribute__")) := looks_findIn X (by kernel_rfl)
 have L2 : Looks (model pw_nm0149_01 w) hp (typeLookup (.ref 58) "__getattr__") none := looks_findIn X (by kernel_rfl)
 have L3 : Looks (model pw_nm0149_01 w) hp (isInstance (.ref x) (.type "BaseException")) true := L0.andThen (Looks.of_peek X (by kernel_rfl))
 have L4 := looks_find (M := model pw_nm0149_01 w) X I hf
 have hk : builtinKind "BaseException.__getattribute__" = some .slot := by decide +kernel
 have hsp : splitId "BaseException.__getattribute__" = some ("BaseException", "__getattribute__") := by decide +kernel
 have ne : (Value.builtin "BaseException.__getattribute__" == Value.builtin "object.__getattribute__") = false := by decide +kernel
 have hx1 : (onTheHeap (Value.ref 58) && Value.builtin "BaseException.__getattribute__" == Value.builtin "object.__getattribute__") = false := by rw [ne]; rfl
 unfold getAttr getAttrBy
 refine wpAny_bind (wpAny_mkText (wpAny_holding (wpAny_bind (L0.at (wpAny_bind (L1.at ?_))))))
 dsimp only
 rw [hx1, if_neg Bool.false_ne_true]
 unfold getAttrByItsOwn hookBefore
 have FB := PySem.F.attr_ValueError
 refine wpAny_bind ?_
 rw [if_pos (show onTheHeap (.ref 58) = true from rfl)]
 refine L2.at (wpAny_bind (wpAny_attempt (wpAny_holding ?_)))
 unfold callGetattribute
 rw [if_neg (by rw [show onTheHeap (Value.builtin "BaseException.__getattribute__") = false from rfl, Bool.and_false]; exact Bool.false_ne_true)]
 unfold boundAndCalled
 rw [FB.ga.bind (.ref x)]
 refine wpAny_bind (wpAny_pure (wpAny_call (codeAny_call_builtin FB.ga.plain PySem.F.entry_bexc_ga (@check_slot (model pw_nm0149_01 w) _ _ ⟨hp, g, d, t + 1, os⟩ "BaseException.__getattribute__" "BaseException" "__getattribute__" (.ref x) [.str name t] [] _ hk hsp L3 (PySem.F.args_bexc_ga _ _) ?_))))
 unfold Builtin.«object.__getattribute__»
 refine wpAny_bind (wpAny_pure (wpAny_bind ?_))
 unfold attrName
 refine wpAny_pure (wpAny_bind (L0.at (wpAny_bind (L4.at ?_))))
 dsimp only
 refine wpAny_pure ?_
 dsimp only
 rw [handedOut_of hh]
 exact wpAny_pure h
end
structure TopG (g : FG) : Prop where
 outer : g.outer = []
 cl : g.cl = []
 XB : (KO g.w.params).In g.base
 TB : Top viewE LOOSE g.mean g.mg g.mb g.base
def FnT (addr D : Nat) (f : FF) : Prop :=
 ∀ ns g W m μ s vs Vs R o μ' mr cs, TopG g → Stat g D → Rel g ns W ⟨m, μ⟩ s.heap mr cs → VRs g.w.params W vs Vs → f vs μ = some (o, μ') → PostR g ns W s R mr ⟨m, μ'⟩ o → codeAny (model pw_nm0149_01 g.w) g.A (.call (.ref addr) ⟨Vs, []⟩) R s
section
variable {F : FS}
def PostF (g : FG) (ns : List Str) (W : Wd) (s : Shared) (Q E : Value → Shared → Prop) (st : St) : Out MV → Prop
 | .val b => ∀ W' h' tk' m' cs' V, W.Le W' → Rel g ns W' st h' m' cs' → VR g.w.params W' b V → Q V (Sh s h' tk')
 | .bad why r c => ∀ W' h' tk' m' e, W.Le W' → FlyE g ns W' st e why r c m' h' → E (.ref e) (Sh s h' tk')
theorem meth_fly {o : PySem.Expr} {es : List PySem.Expr} {name : Str} {C addr D : Nat} {f : FF} {fo : MM MV} {fa : MM (List MV)} {apos pos : Pos} (ho : EvE F o fo) (ha : EvA F es fa) (hf : FnR addr D f) (hD : D ≤ F.D) (hok : ∀ P, methOk (KO P) name C addr = true) (hk : ∀ P, keepIn (KO P) (.ref addr) = true)
  (pl : Env → Sem Bool)
  (hpl : ∀ env, (backTo pos (starEach es env)).any (·.1) = false)
  (hs : ∀ env, eval (.Call (.Attribute o name apos) es [] pos) env = (do
   let ov ← eval o env
   standAt apos.atName
   let (f, first) ← holding [ov] (getMethod ov name (pl env))
   callWith pos f first (backTo pos (starEach es env)) []))
  {g : FG} {W : Wd} {st st1 st2 : St} {s : Shared} {Q E : Value → Shared → Prop} {ov : MV} {vs : List MV} {ob : Out MV} {μ3 : List MO} (hcs : CsE F g E) (S : Stat g F.D) (R : ∃ m cs, Rel g F.ns W st s.heap m cs)
  (e1 : fo st = some (.val ov, st1)) (e2 : clsM C ov st1 = some (.val (), st1)) (e3 : fa st1 = some (.val vs, st2)) (e4 : f ([ov] ++ vs) st2.μ = some (ob, μ3)) (hP : PostF g F.ns W s Q E ⟨st2.m, μ3⟩ ob) : wpAny (model pw_nm0149_01 g.w) g.A (eval (.Call (.Attribute o name apos) es [] pos) g.env) Q E s :=
 MethodCall_ (pl := pl g.env) (ho g W st s _ E ⟨hcs, S, R, _, _, e1, fun W1 h1 tk1 m1 cs1 O le1 R1 rO => op_meth hok rO ⟨hcs, S, ⟨_, _, R1⟩, _, _, e2, fun W2 h2 tk2 m2 cs2 x le2 R2 hx => by
  cases hx
  refine callWith_of (by rw [hpl]; rfl) (keeps_K (hk _)) (evalArgs_any (hpl _) (ha pos g W2 st1 _ _ E ⟨hcs, S, ⟨_, _, R2⟩, _, _, e3, fun W3 h3 tk3 m3 cs3 Vs le3 R3 rvs => ⟨S.X' R3.F, wpAny_call (hf F.ns g W3 st2.m st2.μ _ ([ov] ++ vs) _ _ ob μ3 m3 cs3 (S.le hD) R3 (.cons ((rO.mono le2).mono le3) rvs) e4 ?_)⟩⟩))
  have le : W.Le W3 := (le1.trans le2).trans le3
  cases ob with
  | val b => exact fun W' h' tk' cs' V l R r => hP W' h' tk' m3 cs' V (le.trans l) R r
  | bad w r c => exact fun W' h' tk' e l R => hP W' h' tk' m3 e (le.trans l) R⟩⟩) (hs _)
end
section
noncomputable def excOk (K : Frag) (name : Str) : Bool := hasDictIn K 58 && findIn K (.ref 58) name == some none
variable {w : World} {A : Around} {E : Value → Shared → Prop} {s : Shared} {h₀ : Heap} {L a e de : Addr} {m : Str → Option Value} {cn : Str} {cs : Scope} {ccd : Value} {oe : Obj} {news : List (Addr × Obj)} {ta tb tc twy trw tcl : Tok} {why : Str} {row col : Int}
set_option tactic.hygienic true in
theorem bad_attr {n name : Str} {p1 p2 : Pos} {V : Value} {Q : Value → Shared → Prop} (F : Fr h₀ L s.heap m) (X : (KO w.params).In h₀) (hv : m n = some (.ref e)) (N : News h₀ L s.heap news) (me : (e, oe) ∈ news) (md : (de, badD w.params ta tb tc why twy row trw col tcl) ∈ news)
  (hc : oe.cls = .ref 58) (hd : oe.dict = some de) (hno : ∀ c, oe.data ≠ .cls c) (ok : excOk (KO w.params) name = true)
  (hl : getL name [kv w.params "why" ta (.str why twy), kv w.params "row" tb (.int row trw), kv w.params "column" tc (.int col tcl)] = some (some V)) (hh : handedIn V = true) (hk : cs.kind = .function) (hlo : cs.names.lookup n = some .local) (hdb : (n == ("__debug__" : Str)) = false)
  (hQ : ∀ tk, Q V { s with toks := tk }) : wpAny (model pw_nm0149_01 w) A (eval (.Attribute (.Name n p1) name p2) (envX cn cs L a ccd [])) Q E s := by
 obtain ⟨a1, a2⟩ := Bool.and_eq_true_iff.mp ok
 refine Attribute_any_ (nameX_L F hv (get_exc (ox := oe) (od := some (badD w.params ta tb tc why twy row trw col tcl)) (X.keeps F.keep) ⟨(N _ me).1, hc, ?_, ?_⟩ (findObj_own (attr := none) a1 (beq_iff_eq.mp a2) rfl hl) hh (hQ _)) hk hlo hdb)
 ·unfold notCls
  split
  ·rename_i c h; exact absurd h (hno c)
  ·rfl
 ·rw [hd]; exact (N _ md).1
theorem bad_suite {n : Str} {p1 p2 p3 q1 q2 q3 t1 t2 rp : Pos} {k1 k2 : Nat} {Q : Flow → Shared → Prop} (F : Fr h₀ L s.heap m) (X : (KO w.params).In h₀) (hv : m n = some (.ref e)) (N : News h₀ L s.heap news) (me : (e, oe) ∈ news) (md : (de, badD w.params ta tb tc why twy row trw col tcl) ∈ news)
  (hc : oe.cls = .ref 58) (hd : oe.dict = some de) (hno : ∀ c, oe.data ≠ .cls c) (ok1 : excOk (KO w.params) "why" = true) (ok2 : excOk (KO w.params) "row" = true) (ok3 : excOk (KO w.params) "column" = true) (hk : cs.kind = .function) (hlo : cs.names.lookup n = some .local) (hdb : (n == ("__debug__" : Str)) = false)
  (hQ : ∀ h' tk T1 T2, Fr h₀ L h' m → News h₀ L h' ((T2, tupO [.str why twy, .ref T1]) :: (T1, tupO [.int row trw, .int col tcl]) :: news) → (∀ p ∈ news, p.1 < T1) → T1 < T2 → Q (.ret (.ref T2)) { s with heap := h', toks := tk }) :
  wpAny (model pw_nm0149_01 w) A (execs [.Return (some (.Tuple [.Attribute (.Name n p1) "why" q1, .Tuple [.Attribute (.Name n p2) "row" q2, .Attribute (.Name n p3) "column" q3] k1 t1] k2 t2)) rp] (envX cn cs L a ccd [])) Q E s := by
 refine wpAny_execs_cons (wpAny_Return_some (Tuple_ (args_cons (bad_attr F X hv N me md hc hd hno ok1 rfl rfl hk hlo hdb fun k1 => ?_) rfl)))
 refine args_cons (Tuple_ (args_cons (bad_attr F X hv N me md hc hd hno ok2 rfl rfl hk hlo hdb fun k2 => ?_) rfl)) rfl
 refine args_cons (bad_attr F X hv N me md hc hd hno ok3 rfl rfl hk hlo hdb fun k3 => ?_) rfl
 refine args_nil (kup_newTuple F N (fun T1 h1 F1 N1 lt1 => ?_) (by rw [sizeLine_eq]; exact Nat.le_of_ble_eq_true rfl))
 refine args_nil (kup_newTuple F1 N1 (fun T2 h2 F2 N2 lt2 => ?_) (by rw [sizeLine_eq]; exact Nat.le_of_ble_eq_true rfl))
 exact hQ h2 _ T1 T2 F2 N2 lt1 (lt2 _ (.head _))
end
def toldF (ft fu : FF) : FF := fun vs μ => match vs with
 | [.obj i, tx, at_] => match ft [tx] μ with
  | some (.val items, μ1) => match μ1[i]? with
   | some (.inst C fs) => match Nat.beq C 515 with
    | true => match fu [.obj i, items, at_] μ1 with
     | some (.val v, μ2) => some (.val v, μ2)
     | some (.bad w r c, μ2) => some (.val (.tup [.str w, .tup [.int r, .int c]]), μ2)
     | none => none
    | false => none
   | _ => none
  | _ => none
 | _ => none
noncomputable def badV : Out MV → MV
 | .val v => v
 | .bad w r c => .tup [.str w, .tup [.int r, .int c]]
theorem FnT.told {addr D Du Cu au : Nat} {f fu : FF} {f1 : MM MF} {fo : MM MV} {fa : MM (List MV)} {name qual mname : Str} {params : Arguments} {S1 : Stmt} {eo : PySem.Expr} {es : List PySem.Expr} {mp cp rp np p1 p2 p3 q1 q2 q3 t1 t2 rp2 hp tp : Pos} {k1 k2 : Nat} {scope : Scope} {dV kV doc pm cdv ct oc : Value} {od : Option Addr} {osl : Array (Option Value)} {an : Option Addr} {ns : List Str} {n : Nat} {init : List MV → List (Option MV)}
  (ho : ∀ P, (KO P).lookup addr = some ⟨oc, od, .func (fnOf name qual params [S1, .Try [.Return (some (.Call (.Attribute eo mname mp) es [] cp)) rp] [.ExceptHandler (some (.Name "BadText" np)) (some "fault") [.Return (some (.Tuple [.Attribute (.Name "fault" p1) "why" q1, .Tuple [.Attribute (.Name "fault" p2) "row" q2, .Attribute (.Name "fault" p3) "column" q3] k1 t1] k2 t2)) rp2] hp] [] [] tp] scope dV kV doc pm an cdv ct), osl⟩) (hcd : ∀ P, codeIn (KO P) cdv qual = true)
  (hbind : BindOk (fnOf name qual params [S1, .Try [.Return (some (.Call (.Attribute eo mname mp) es [] cp)) rp] [.ExceptHandler (some (.Name "BadText" np)) (some "fault") [.Return (some (.Tuple [.Attribute (.Name "fault" p1) "why" q1, .Tuple [.Attribute (.Name "fault" p2) "row" q2, .Attribute (.Name "fault" p3) "column" q3] k1 t1] k2 t2)) rp2] hp] [] [] tp] scope dV kV doc pm an cdv ct) n ns init)
  (hS : EvS ⟨scope, ns, D, false⟩ S1 f1) (heo : EvE ⟨scope, ns, D, false⟩ eo fo) (hes : EvA ⟨scope, ns, D, false⟩ es fa) (hu : FnR au Du fu) (hD : Du ≤ D) (hok : ∀ P, methOk (KO P) mname Cu au = true) (hkp : ∀ P, keepIn (KO P) (.ref au) = true) (pl : Env → Sem Bool)
  (hf : ∀ vs μ o μ', f vs μ = some (o, μ') → vs.length = n ∧ ∃ st1 ov vs' ob, f1 ⟨init vs, μ⟩ = some (.val .next, st1) ∧ fo st1 = some (.val ov, st1) ∧ clsM Cu ov st1 = some (.val (), st1) ∧ fa st1 = some (.val vs', st1) ∧ fu ([ov] ++ vs') st1.μ = some (ob, μ') ∧ o = .val (badV ob))
  (hco : scope.isCoroutine = false) (hgen : scope.isGenerator = false) (hk : scope.kind = .function) (hcell : ∀ x ∈ scope.names, x.2 ≠ .cell)
  (hl1 : scope.names.lookup ("fault" : Str) = some .local) (hl2 : scope.names.lookup ("BadText" : Str) = some .globalImplicit) (ex : ∀ P, nsIn (KO P) mainGlobals "BadText" = some (some (.ref 58))) (q : ∀ P, ktsIn (KO P) 58 "BaseException" = true)
  (ok1 : ∀ P, excOk (KO P) "why" = true) (ok2 : ∀ P, excOk (KO P) "row" = true) (ok3 : ∀ P, excOk (KO P) "column" = true)
  (hpl : ∀ env, (backTo cp (starEach es env)).any (·.1) = false := by intro _; rfl)
  (hs : ∀ env, eval (.Call (.Attribute eo mname mp) es [] cp) env = (do
   let ov ← eval eo env
   standAt mp.atName
   let (f, first) ← holding [ov] (getMethod ov mname (pl env))
   callWith cp f first (backTo cp (starEach es env)) []) := by intro _; rfl) : FnT addr (D + 1) f := by
 intro ns0 g W m μ s vs Vs R o μ' mr cs hT hSt hR hvs hfe hP
 obtain ⟨w, mean, mg, mb, A₀, base, outer, h₀, L, csc, A, cn, a, ccd, cl⟩ := g
 obtain ⟨x1, x2, XB, TB⟩ := hT
 dsimp only at x1 x2 XB TB
 subst x1 x2
 obtain ⟨hn, st1, ov, vs', ob, e1, e2, e3, e4, e5, rfl⟩ := hf _ _ _ _ hfe
 refine ee13 (hbind w s W vs Vs (hSt.X' hR.F) hvs hn) fun binds b1 b2 b3 => ?_
 refine code_defS0 (K := KO w.params) hSt.B hR.F hSt.X hR.N hSt.T hSt.fr (ho _) (hcd _) (by have := hSt.d; dsimp only at this ⊢; omega) b1 b2 (fun gh L' h₁ FG F' N' B' X' T' D' => ?_) hSt.K hco hgen hk hcell
 have St1 : Stat ⟨w, mean, mg, mb, A, base, [envOf cn csc L a ccd], gh, L', scope, A.deeper (envOf qual scope L' addr cdv), qual, addr, cdv, []⟩ D := by
  refine ⟨B', X', T', hk, ?_, hSt.hd, ?_, ?_⟩
  ·show Option.map _ A.frames = _
   have := hSt.fr
   dsimp only at this
   rw [this]; rfl
  ·have := hSt.d
   dsimp only at this
   show A.depth + 1 + D < recursionLimit
   omega
  ·have := hSt.u
   dsimp only at this
   show A.units + 3 + 40 * D < cLine
   omega
 refine wpAny_execs_cons (hS ⟨w, mean, mg, mb, A, base, [envOf cn csc L a ccd], gh, L', scope, A.deeper (envOf qual scope L' addr cdv), qual, addr, cdv, []⟩ W ⟨init vs, μ⟩ _ _ _ ⟨⟨rfl, fun _ _ => rfl, fun x q => absurd q (noCell hcell x), fun h => nomatch h⟩, St1, ⟨_, cs, ⟨F', N', hR.nd, b3, hR.cells, hR.sc.keep FG.keep⟩⟩, _, _, e1, fun W1 hh1 tk1 m1 cs1 fl le1 R1 hfl => ?_⟩)
 cases hfl
 refine wpAny_execs_cons (wpAny_Try_except (wpAny_execs_cons (wpAny_Return_some (meth_fly heo hes hu hD hok hkp pl hpl hs ⟨rfl, fun _ _ => rfl, fun x q => absurd q (noCell hcell x), fun h => nomatch h⟩ St1 ⟨_, _, R1⟩ e2 e3 e4 e5 ?_))))
 cases ob with
 | val b => exact fun W' h' tk' m' cs' V le R' rV => leaveS0_ R'.F R'.N KtsTurn.refl fun F2 N2 => hP W' h' tk' cs' V (le1.trans le) ⟨F2, N2, R'.nd, hR.loc.mono (le1.trans le), R'.cells, hR.sc.le (le1.trans le)⟩ rV
 | bad why r c =>
  rintro W' h' tk' m' e le ⟨cs2, G2, t2, de, ta, tb, tc, twy, trw, tcl, Y, RB2⟩
  refine caught_bad RB2 Y.F B' Y.U XB TB D' (ex _) (q _) (fun h7 g' tk oe E' T7 F7 N7 hc hd hno X7 T7' => ?_) hk hl1 hl2 (by decide)
  refine bad_suite F7 X7 (if_pos rfl) N7 (.head _) (.tail _ (.head _)) hc hd hno (ok1 _) (ok2 _) (ok3 _) hk hl1 (by decide) (fun h8 tk8 T1 T2 F8 N8 lt1 lt2 => ?_)
  refine name_goes F8 N8 (fun h9 m9 F9 N9 => ?_) hk hl1
  have lew : W.Le ⟨W'.ρ, (T2, tupO [.str (S why) twy, .ref T1]) :: (T1, tupO [.int r trw, .int c tcl]) :: W'.R, W'.sc, W'.pin⟩ := (le1.trans le).trans ⟨fun _ _ h => h, fun _ h => .tail _ (.tail _ h), rfl, rfl⟩
  have pm : (cs2 ++ (Wd.all ⟨W'.ρ, (T2, tupO [.str (S why) twy, .ref T1]) :: (T1, tupO [.int r trw, .int c tcl]) :: W'.R, W'.sc, W'.pin⟩)).Perm ((T2, tupO [.str (S why) twy, .ref T1]) :: (T1, tupO [.int r trw, .int c tcl]) :: (cs2 ++ W'.all)) := by
   show (cs2 ++ ((T2, _) :: (T1, _) :: (W'.R ++ W'.pin))).Perm _
   exact (List.perm_middle).trans (.cons _ List.perm_middle)
  refine leaveS0_ F9 N9 T7 fun F2 N2 => hP _ h9 _ cs2 (.ref T2) lew ⟨F2, fun p hp => ?_, ?_, hR.loc.mono lew, Y.cells.mono (W := W') (W' := ⟨W'.ρ, (T2, tupO [.str (S why) twy, .ref T1]) :: (T1, tupO [.int r trw, .int c tcl]) :: W'.R, W'.sc, W'.pin⟩) ⟨fun _ _ h => h, fun _ h => .tail _ (.tail _ h), rfl, rfl⟩, hR.sc.le lew⟩ ?_
  ·have := pm.mem_iff.mp hp
   apply mcE this
   ·exact N2 _ (.head _)
   ·intro this; rcases List.mem_cons.mp this with rfl | this
    ·exact N2 _ (.tail _ (.head _))
    ·exact N2 _ (.tail _ (.tail _ (.tail _ (.tail _ this))))
  ·refine ((pm.map (·.1)).nodup_iff).mpr ?_
   have nlt : ∀ p ∈ cs2 ++ W'.all, p.1 < T1 := fun p hp => lt1 p (.tail _ (.tail _ hp))
   refine List.nodup_cons.mpr ⟨fun hm => ?_, List.nodup_cons.mpr ⟨fun hm => ?_, Y.nd⟩⟩
   ·rcases List.mem_cons.mp hm with z | hm
    ·exact Nat.ne_of_gt lt2 z
    ·refine ee12 (List.mem_map.mp hm) fun p hp z => ?_
     have := nlt p hp
     rw [z] at this
     exact Nat.lt_irrefl _ (Nat.lt_trans this lt2)
   ·refine ee12 (List.mem_map.mp hm) fun p hp z => ?_
    have := nlt p hp
    rw [z] at this
    exact Nat.lt_irrefl _ this
  ·exact .tup (.head _) (Nat.le_of_ble_eq_true rfl) (.cons .str (.cons (.tup (.tail _ (.head _)) (Nat.le_of_ble_eq_true rfl) (.cons .int (.cons .int .nil))) .nil))
section
variable {F : FS}
theorem Ev.cellv {i : Nat} {x : Str} {pos : Pos} (hn : F.ns[i]? = some x) (hk : F.sc.names.lookup x = some .cell) (hd : (x == ("__debug__" : Str)) = false) : EvE F (.Name x pos) (getM i) := by
 intro g W st s Q E G
 refine G.oG fun hcs S m cs R o st' e hP => ?_
 unfold getM at e
 refine se1 e fun v hv e => ?_
 have hP := hP.eqs e
 refine ee12 (R.loc i x v hn hv) fun V hm hV => ?_
 rcases hm with ⟨h0, _⟩ | ⟨c, oc, hc, hmem, hdat⟩
 ·exact absurd h0 (hcs.cc x hk)
 ·exact nameX_C R.N hc (List.mem_append_right _ (W.mem hmem)) hdat (hP W s.heap s.toks m cs V .rfl' R hV) S.K (by show g.cs.names.lookup x = _; rw [hcs.eq]; exact hk) hd
def listK (f : MM MV) (k : List MV → MM MF) : MM MF := f.bind fun v => match v with
 | .obj i => withLock i k
 | _ => MM.fail
inductive SrcI (g : FG) (W : Wd) (news : List (Addr × Obj)) (h : Heap) (items : List MV) (I : Addr) : Prop
 | mk (fp : List Addr) (P : Nat → Value → Prop) (Sx : Nat → Heap → Prop) : Walks pw_nm0149_01 g.w g.A I fp [I] items.length P Sx → g.L ∉ fp → g.h₀.get? I = none → (∀ p ∈ news, p.1 ≠ I) → Sx 0 h → (∀ b ∈ fp, b ≠ I → g.h₀.get? b ≠ none ∨ ∃ o, (b, o) ∈ W.all) → (∀ i h, Sx i h → ∃ o fs, h.get? I = some o ∧ o.cls = .type "list_iterator" ∧ o.data = .fields fs) → (∀ i v, i < items.length → P i v → ∃ mv, items[i]? = some mv ∧ VR g.w.params W mv v) → SrcI g W news h items I
theorem SrcI.src {g : FG} {W : Wd} {news : List (Addr × Obj)} {h : Heap} {items : List MV} {I : Addr} (x : SrcI g W news h items I) : Src g W news h items I :=
 SrcI.casesOn x fun fp P Sx a b c d e f k l => ⟨fp, P, Sx, a, b, c, d, e, f, fun i h s => ee23 (k i h s) fun o _ q _ _ => ⟨o, q⟩, l⟩
theorem src_listI {e : PySem.Expr} {f : MM MV} (he : EvE F e f) :
  ∀ g W st s Q E (k : List MV → MM MF) (Qi : Value → Shared → Prop), Go F FlR g W st s (listK f k) Q E → (∀ W1 st1 h1 tk1 m cs items I, Rel g F.ns W1 st1 h1 m cs → SrcI g W1 (cs ++ W1.all) h1 items I → Go F FlR g W1 st1 (Sh s h1 tk1) (k items) Q E → Qi (.ref I) (Sh s h1 tk1)) →
   wpAny (model pw_nm0149_01 g.w) g.A (eval e g.env) (fun xv s1 => wpAny (model pw_nm0149_01 g.w) g.A (pyIter xv) Qi E s1) E s := by
 intro g W st s Q E k Qi G hq
 refine he.step G fun W1 st1 h1 tk1 v V le rv G1 => ?_
 refine sg5 G1 fun i qs0 G1 => ?_; subst qs0
 refine ee47 (G1.lock FlR.setPin) fun x vs ws kk hx hv hz hget hx0 hxL G2 => ?_
 apply rv.eObj; intro x' hx'
 rw [hx] at hx'; obtain rfl := Option.some.inj hx'
 refine G2.RE fun m cs R => ?_
 have hl : h1.IsList x ws.toArray := ⟨_, hget, rfl, _, rfl⟩
 refine wpAny_pyIter_list hl ?_
 have R2 := R.push (o := { cls := .type "list_iterator", data := .fields #[.ref x, .int 0 0] })
 refine hq _ _ _ _ m cs vs _ R2 ?_ (G2.move R2)
 have hlen := hv.length
 have hlt : x < h1.objs.size := Heap.lt_size hget
 refine ⟨[h1.objs.size, x], (fun i v => ws.toArray[i]? = some v), (fun i h => h.IsListIter h1.objs.size x i ∧ h.IsList x ws.toArray), by rw [hlen, ← List.size_toArray]; exact Walks.list G.S.hd _ x (Nat.ne_of_lt hlt) ws.toArray, ?_, R.newAddr, News.lt R.N, ⟨⟨_, Heap.get?_push_size _ rfl, rfl, rfl⟩, hl.at fun o e => Heap.get?_push_of_some _ e⟩, ?_, ?_, ?_⟩
 ·intro hmm
  rcases List.mem_cons.mp hmm with q | hmm
  ·exact absurd R.F.ns.lt (by rw [q]; exact Nat.lt_irrefl _)
  ·exact hxL (List.mem_singleton.mp hmm).symm
 ·intro b hb hne
  rcases List.mem_cons.mp hb with q | hb
  ·exact absurd q hne
  ·rw [List.mem_singleton.mp hb]
   exact .inr ⟨_, List.mem_append_right _ (.head _)⟩
 ·rintro i h ⟨⟨o, ho, hc, hd⟩, _⟩
  exact ⟨o, _, ho, hc, hd⟩
 ·intro i v hi hvv
  have hv' : ws[i]? = some v := by simpa using hvv
  obtain ⟨mv, hmv⟩ : ∃ mv, vs[i]? = some mv := ⟨_, List.getElem?_eq_getElem hi⟩
  refine ee12 (hv.get hmv) fun V hV rV => ?_
  rw [hv'] at hV
  obtain rfl := Option.some.inj hV
  exact ⟨mv, hmv, rV.weak Wd.wk_pins⟩
theorem src_list {e : PySem.Expr} {f : MM MV} (he : EvE F e f) :
  ∀ g W st s Q E (k : List MV → MM MF) (Qi : Value → Shared → Prop), Go F FlR g W st s (listK f k) Q E → (∀ W1 st1 h1 tk1 m cs items I, Rel g F.ns W1 st1 h1 m cs → Src g W1 (cs ++ W1.all) h1 items I → Go F FlR g W1 st1 (Sh s h1 tk1) (k items) Q E → Qi (.ref I) (Sh s h1 tk1)) →
   wpAny (model pw_nm0149_01 g.w) g.A (eval e g.env) (fun xv s1 => wpAny (model pw_nm0149_01 g.w) g.A (pyIter xv) Qi E s1) E s :=
 fun g W st s Q E k Qi G hq => src_listI he g W st s Q E k Qi G fun W1 st1 h1 tk1 m cs items I R S G1 => hq W1 st1 h1 tk1 m cs items I R S.src G1
end
def fnOutC (fb : MM MF) : FF := fun vs μ => match Nat.beq vs.length 2 with
 | true => match fb ⟨vs.map some, μ⟩ with
  | some (.val (.ret v), st) => some (.val v, st.μ)
  | some (.val .next, st) => some (.val .none, st.μ)
  | _ => none
 | false => none
theorem FnR.mkC {addr D : Nat} {name qual : Str} {params : Arguments} {body : List Stmt} {scope : Scope} {dV kV doc pm cdv ct oc : Value} {od : Option Addr} {osl : Array (Option Value)} {an : Option Addr} {x y : Str} {fb : MM MF}
  (ho : ∀ P, (KO P).lookup addr = some ⟨oc, od, .func (fnOf name qual params body scope dV kV doc pm an cdv ct), osl⟩) (hcd : ∀ P, codeIn (KO P) cdv qual = true)
  (hbind : ∀ (w : World) (s : Shared) (Vs : List Value), (KO w.params).In s.heap → Vs.length = 2 → BindsTo s (fnOf name qual params body scope dV kV doc pm an cdv ct) ⟨Vs, []⟩ ([x, y].zip Vs)) (hb : EvB ⟨scope, [x, y], D, true⟩ body fb)
  (hx : scope.names.lookup x = some .cell) (hy : scope.names.lookup y = some .local) (hne : y ≠ x) (hcf : ∀ k, cellsFrom k scope.names [] = [(x, k)]) (hce : ∀ z ∈ scope.names, z.2 = .cell → z.1 = x)
  (hco : scope.isCoroutine = false) (hgen : scope.isGenerator = false) (hk : scope.kind = .function) : FnR addr (D + 1) (fnOutC fb) := by
 have hcell : ∀ z, scope.names.lookup z = some .cell → z = x := fun z => by
  generalize scope.names = l at hce
  induction l with
  | nil => exact fun q => nomatch q
  | cons p r ih =>
   rw [List.lookup_cons]
   split
   ·rename_i hq
    exact fun q => (eq_of_beq hq).trans (hce p (.head _) (Option.some.inj q))
   ·exact ih fun x hx => hce x (.tail _ hx)
 intro ns0 g W m μ s vs Vs R o μ' mr cs hSt hR hvs hf hP
 unfold fnOutC at hf
 refine se3 hf fun hn hf => ?_
 have hn' := Nat.eq_of_beq_eq_true hn
 obtain ⟨v1, v2, rfl⟩ : ∃ v1 v2, vs = [v1, v2] := by
  match vs, hn' with
  | [a, b], _ => exact ⟨a, b, rfl⟩
 apply hvs.eCons; intro V1 _ r1 hvs
 apply hvs.eCons; intro V2 _ r2 hvs
 apply hvs.eNil
 refine code_defC (env := g.env) hSt.B hR.F hSt.X hR.N hSt.T hSt.fr rfl hSt.K (ho _) (hcd _) (by have := hSt.d; omega) (hbind g.w s [V1, V2] (hSt.X' hR.F) rfl) (by simp [hx, hy]) (by rw [hcf]; simp) (fun gh L' h₁ tk cells FG F' N' CA B' X' T' lt => ?_) hco hgen hk
 rw [hcf] at CA
 refine ee12 CA.one fun oC qe1 hoC => ?_; subst qe1
 have sc' : ScOk gh W := hR.sc.keep FG.keep
 have kx : (envOfC qual scope L' addr cdv).kindOf x = some .cell := hx
 have ky : (envOfC qual scope L' addr cdv).kindOf y = some .local := hy
 have hcx : oC.data = .cell (some V1) := by
  rw [hoC]
  congr 1
  simp [bindC, kx, ky]
 have leC : W.Le ⟨W.ρ, (L' + 1, oC) :: W.R, W.sc, W.pin⟩ := ⟨fun _ _ h => h, fun _ h => .tail _ h, rfl, rfl⟩
 have pm : (cs ++ Wd.all ⟨W.ρ, (L' + 1, oC) :: W.R, W.sc, W.pin⟩).Perm ((L' + 1, oC) :: (cs ++ W.all)) := by
  show (cs ++ ((L' + 1, oC) :: (W.R ++ W.pin))).Perm _
  exact List.perm_middle
 refine hb (g.call gh L' scope (g.A.deeper (envOfC qual scope L' addr cdv)) qual addr cdv (cellsFrom (L' + 1) scope.names [])) ⟨W.ρ, (L' + 1, oC) :: W.R, W.sc, W.pin⟩ ⟨[some v1, some v2], μ⟩ _ _ _ ⟨⟨rfl, fun z hz => ?_, fun z hz => ?_, fun _ => PassesOwn.leaving⟩, ⟨B', X', T', hk, ?_, hSt.hd, ?_, ?_⟩, ⟨_, cs, ⟨F', fun p hp => N' p (pm.mem_iff.mp hp), ?_, ?_, hR.cells.mono leC, sc'.le leC⟩⟩, ?_⟩
 ·show List.lookup z (cellsFrom (L' + 1) scope.names []) = none
  rw [hcf]
  have : z ≠ x := fun q => by rw [q, hx] at hz; cases hz
  rw [List.lookup_cons, beq_eq_false_iff_ne.mpr this]; rfl
 ·show List.lookup z (cellsFrom (L' + 1) scope.names []) ≠ none
  rw [hcf, hcell z hz]
  simp [List.lookup_cons]
 ·show Option.map _ g.A.frames = _
  rw [hSt.fr]; rfl
 ·have := hSt.d
  show g.A.depth + 1 + D < recursionLimit
  omega
 ·have := hSt.u
  show g.A.units + 3 + 40 * D < cLine
  omega
 ·refine ((pm.map (·.1)).nodup_iff).mpr (List.nodup_cons.mpr ⟨fun hm => ?_, hR.nd⟩)
  refine ee12 (List.mem_map.mp hm) fun p hp z => ?_
  have := lt p hp
  have z' : p.1 = L' + 1 := z
  rw [z'] at this
  exact absurd this (by show ¬ @LT.lt Nat _ (L' + 1) L'; omega)
 ·intro i z v hi hv
  match i, hi, hv with
  | 0, hi, hv =>
   obtain rfl := Option.some.inj hi; obtain rfl := Option.some.inj (Option.some.inj hv)
   exact ⟨V1, .inr ⟨L' + 1, oC, by show List.lookup _ (cellsFrom (L' + 1) scope.names []) = _; rw [hcf]; simp [List.lookup_cons], .head _, hcx⟩, r1.mono leC⟩
  | 1, hi, hv =>
   obtain rfl := Option.some.inj hi; obtain rfl := Option.some.inj (Option.some.inj hv)
   refine ⟨V2, .inl ⟨?_, ?_⟩, r2.mono leC⟩
   ·show List.lookup _ (cellsFrom (L' + 1) scope.names []) = _
    rw [hcf, List.lookup_cons, beq_eq_false_iff_ne.mpr hne]; rfl
   ·simp [bindL, kx, ky]
 ·have back : ∀ {W' : Wd} {h' : Heap} {tk' : Nat} {m' : Str → Option Value} {cs' : List (Addr × Obj)} {st' : St}, Wd.Le ⟨W.ρ, (L' + 1, oC) :: W.R, W.sc, W.pin⟩ W' → Rel (g.call gh L' scope (g.A.deeper (envOfC qual scope L' addr cdv)) qual addr cdv (cellsFrom (L' + 1) scope.names [])) [x, y] W' st' h' m' cs' →
    ∀ {V : Value}, (∀ cs, Rel g ns0 W' ⟨m, st'.μ⟩ h' mr cs → R (.ok (.ret V)) (Sh s h' tk')) → LeaveK g.h₀ g.L mr gh R V (Sh s h' tk') := by
   intro W' h' tk' m' cs' st' le R' V k
   exact leaveK_ R'.F R'.N fun F2 N2 => k cs' ⟨F2, N2, R'.nd, hR.loc.mono (leC.trans le), R'.cells, hR.sc.le (leC.trans le)⟩
  replace hf : (match fb ⟨[some v1, some v2], μ⟩ with
   | some (.val (.ret v), st) => some (.val v, st.μ)
   | some (.val .next, st) => some (.val .none, st.μ)
   | _ => none) = some (o, μ') := hf
  split at hf
  ·rename_i v st' e
   have hP := hP.eqs hf
   exact ⟨_, _, e, fun W' h' tk' m' cs' a le R' ha => by
    cases ha with
    | ret hv => exact back le R' fun cs R2 => hP W' h' tk' cs _ (leC.trans le) R2 hv⟩
  ·rename_i st' e
   have hP := hP.eqs hf
   exact ⟨_, _, e, fun W' h' tk' m' cs' a le R' ha => by
    cases ha with
    | next => exact back le R' fun cs R2 => hP W' h' tk' cs _ (leC.trans le) R2 .none⟩
  ·exact nsE hf
section
open PyProof.Rows.LCg
variable {F : FS}
noncomputable abbrev FS.nolp (F : FS) : FS := ⟨F.sc, F.ns, F.D, false⟩
structure InC (scope : Scope) (xs : List Str) (g : FG) (W : Wd) (vs : List MV) (C : Addr) (oC : Obj) (m₂ : Str → Option Value) (cl' : List (Str × Addr)) : Prop where
 mem : (C, oC) ∈ W.pin
 ns : NsObj oC m₂
 vals : ∀ (i : Nat) (x : Str) (v : MV), xs[i]? = some x → vs[i]? = some v → ∃ V, m₂ x = some V ∧ VR g.w.params W v V
 cl : ∀ x, scope.names.lookup x = some .free → cl'.lookup x = g.cl.lookup x
theorem InC.mono {scope : Scope} {xs : List Str} {g : FG} {W W' : Wd} {vs : List MV} {C : Addr} {oC : Obj} {m₂ : Str → Option Value} {cl' : List (Str × Addr)} (le : W.Le W') (h : InC scope xs g W vs C oC m₂ cl') : InC scope xs g W' vs C oC m₂ cl' :=
 ⟨le.pin ▸ h.mem, h.ns, fun i x v a b => let ⟨V, c, d⟩ := h.vals i x v a b; ⟨V, c, d.mono le⟩, h.cl⟩
def EvC (F : FS) (scope : Scope) (xs : List Str) (e : PySem.Expr) (fe : List MV → MM MV) : Prop :=
 ∀ g W st s vs (C : Addr) oC m₂ cl' Q E, InC scope xs g W vs C oC m₂ cl' → Go F.nolp VV g W st s (fe vs) Q E → wpAny (model pw_nm0149_01 g.w) g.A (eval e (compEnvC scope cl' C g.env)) Q E s
theorem EvC.step {γ α' : Type} {scope : Scope} {xs : List Str} {e : PySem.Expr} {fe : List MV → MM MV} {RR2 : Params → Wd → γ → α' → Prop} {g : FG} {W : Wd} {st : St} {s : Shared} {vs : List MV} {C : Addr} {oC : Obj} {m₂ : Str → Option Value} {cl' : List (Str × Addr)} {k : MV → MM γ} {Q : Value → Shared → Prop} {Q2 : α' → Shared → Prop} {E : Value → Shared → Prop}
  (hf : EvC F scope xs e fe) (I : InC scope xs g W vs C oC m₂ cl') (G : Go F.nolp RR2 g W st s ((fe vs).bind k) Q2 E) (h : ∀ W1 st1 h1 tk1 b a, W.Le W1 → VR g.w.params W1 b a → InC scope xs g W1 vs C oC m₂ cl' → Go F.nolp RR2 g W1 st1 (Sh s h1 tk1) (k b) Q2 E → Q a (Sh s h1 tk1)) :
  wpAny (model pw_nm0149_01 g.w) g.A (eval e (compEnvC scope cl' C g.env)) Q E s :=
 G.then (RR := VV) (hf g W st s vs C oC m₂ cl' Q E I) fun W1 st1 h1 tk1 b a le r G1 => h W1 st1 h1 tk1 b a le r (I.mono le) G1
def ownM (i : Nat) (vs : List MV) : MM MV := match vs[i]? with
 | some v => MM.pure v
 | none => MM.fail
theorem EvC.own {scope : Scope} {xs : List Str} {i : Nat} {x : Str} {pos : Pos} (hx : xs[i]? = some x) (hl : scope.names.lookup x = some .local) (hk : scope.kind = .function) (hd : (x == ("__debug__" : Str)) = false) : EvC F scope xs (.Name x pos) (ownM i) := by
 intro g W st s vs C oC m₂ cl' Q E I G
 unfold ownM at G
 refine sg6 G fun v hv G => ?_
 refine ee12 (I.vals i x v hx hv) fun V hm hV => ?_
 refine G.RE fun m cs R => ?_
 exact LCgL.ld_own R.N (List.mem_append_right _ (List.mem_append_right _ I.mem)) I.ns hm (G.ret hV) hk (lookup_relabel_local hl) hd
theorem lookup_relabel_cell {env : Env} (hk : env.scope.kind = .function) {x : Str} (hx : env.kindOf x = some .cell) : ∀ {names : List (Str × NameKind)}, names.lookup x = some .free →
  (names.map fun (n, k) => if (k == NameKind.free && env.scope.kind == .function && env.kindOf n == some .cell) then (n, NameKind.cell) else (n, k)).lookup x = some .cell
 | [], h => by simp at h
 | (n, k) :: r, h => by
  have ih := @lookup_relabel_cell env hk x hx r
  show List.lookup x ((if (k == NameKind.free && env.scope.kind == .function && env.kindOf n == some .cell) = true then (n, NameKind.cell) else (n, k)) :: _) = _
  cases hq : x == n with
  | true =>
   simp only [List.lookup_cons, hq] at h
   cases h
   have e := eq_of_beq hq
   subst e
   rw [if_pos (by rw [hx, hk]; rfl)]
   simp [List.lookup_cons]
  | false =>
   simp only [List.lookup_cons, hq] at h
   by_cases hc : (k == NameKind.free && env.scope.kind == .function && env.kindOf n == some .cell) = true
   ·rw [if_pos hc]; simp only [List.lookup_cons, hq]; exact ih h
   ·rw [if_neg hc]; simp only [List.lookup_cons, hq]; exact ih h
theorem lookup_relabel_glob {env : Env} : ∀ {names : List (Str × NameKind)} {x : Str}, names.lookup x = some .globalImplicit →
  (names.map fun (n, k) => if (k == NameKind.free && env.scope.kind == .function && env.kindOf n == some .cell) then (n, NameKind.cell) else (n, k)).lookup x = some .globalImplicit
 | [], x, h => by simp at h
 | (n, k) :: r, x, h => by
  have ih := @lookup_relabel_glob env r x
  show List.lookup x ((if (k == NameKind.free && env.scope.kind == .function && env.kindOf n == some .cell) = true then (n, NameKind.cell) else (n, k)) :: _) = _
  cases hq : x == n with
  | true =>
   simp only [List.lookup_cons, hq] at h
   cases h
   simp [List.lookup_cons, hq]
  | false =>
   simp only [List.lookup_cons, hq] at h
   by_cases hc : (k == NameKind.free && env.scope.kind == .function && env.kindOf n == some .cell) = true
   ·rw [if_pos hc]; simp only [List.lookup_cons, hq]; exact ih h
   ·rw [if_neg hc]; simp only [List.lookup_cons, hq]; exact ih h
theorem EvC.free {scope : Scope} {xs : List Str} {i : Nat} {x : Str} {pos : Pos} (hn : F.ns[i]? = some x) (hc : F.sc.names.lookup x = some .cell) (hl : scope.names.lookup x = some .free) (hk : scope.kind = .function) (hd : (x == ("__debug__" : Str)) = false) : EvC F scope xs (.Name x pos) (fun _ => getM i) := by
 intro g W st s vs C oC m₂ cl' Q E I G
 replace G : Go F.nolp VV g W st s (getM i) Q E := G
 refine G.oG fun hcs hSt m cs R o st' e hP => ?_
 unfold getM at e
 refine se1 e fun v hv e => ?_
 have hP := hP.eqs e
 refine ee12 (R.loc i x v hn hv) fun V hm hV => ?_
 rcases hm with ⟨h0, _⟩ | ⟨c, oc, hcc, hmem, hdat⟩
 ·exact absurd h0 (hcs.cc x hc)
 ·refine wpAny_Name (wpAny_loadName_cell (c := c) hk (lookup_relabel_cell hSt.K (by show g.cs.names.lookup x = _; rw [hcs.eq]; exact hc) hl) ((I.cl x hl).trans hcc) ⟨oc, (R.N _ (List.mem_append_right _ (W.mem hmem))).1, hdat⟩ ?_) hd
  exact hP W s.heap s.toks m cs V .rfl' R hV
theorem EvC.cnone {scope : Scope} {xs : List Str} {k : Nat} {pos : Pos} : EvC F scope xs (.Constant .none k pos) (fun _ => MM.pure .none) := fun _ _ _ _ _ _ _ _ _ _ _ _ G => wpAny_Constant_none (G.ret .none)
theorem EvC.cint {scope : Scope} {xs : List Str} {i : Int} {k : Nat} {pos : Pos} : EvC F scope xs (.Constant (.int i) k pos) (fun _ => MM.pure (.int i)) := fun _ _ _ _ _ _ _ _ _ _ _ _ G => wpAny_Constant_int (G.tk .int)
theorem EvC.item {scope : Scope} {xs : List Str} {value slice : PySem.Expr} {fv fi : List MV → MM MV} {pos : Pos} (hv : EvC F scope xs value fv) (hi : EvC F scope xs slice fi) (hs : ∀ o i, subscripted slice false o i = operate [o, i] (getItem o i) := by intro _ _; with_unfolding_all rfl) : EvC F scope xs (.Subscript value slice pos) (fun vs => (fv vs).bind fun a => (fi vs).bind fun b => itemM a b) := fun g W st s vs C oC m₂ cl' Q E I G =>
 Subscript_ (hv.step I G fun W1 st1 h1 tk1 a A le ra I1 G1 => hi.step I1 G1 fun W2 st2 h2 tk2 b B le2 rb I2 G2 => kba_turn (value' := .Name "" default) (fun _ => rfl) (op_item hs (ra.mono le2) rb G2))
theorem EvC.len {scope : Scope} {xs : List Str} {e : PySem.Expr} {fe : List MV → MM MV} {p pos : Pos} (he : EvC F scope xs e fe) (hk : scope.kind = .function) (hg : ∀ P, nsIn (KO P) mainGlobals "len" = some none) (hl : scope.names.lookup ("len" : Str) = some .globalImplicit)
  (hst : ∀ env, starEach [e] env = (false, eval e env) :: starEach [] env := by intro _; rfl) (hpl : ∀ env, (backTo pos (starEach [] env)).any (·.1) = false := by intro _; rfl)
  (hs : ∀ env, eval (.Call (.Name "len" p) [e] [] pos) env = (do callWith pos (← eval (.Name "len" p) env) [] (backTo pos (starEach [e] env)) (backToKw pos (keywordEach [] env))) := by intro _; rfl) : EvC F scope xs (.Call (.Name "len" p) [e] [] pos) (fun vs => (fe vs).bind lenM) := fun g W st s vs C oC m₂ cl' Q E I G => by
 refine G.RE fun m cs R => ?_
 have lg : (relabel scope g.env).names.lookup ("len" : Str) = some .globalImplicit := lookup_relabel_glob hl
 refine Call_ (LCgL.ld_built (v := .builtin "len") R.F G.S.X G.S.T (hg _) (by kernel_rfl) (by decide) (callWith_builtin1 (args_cons (he.step I G fun W1 st1 h1 tk1 a A le ra I1 G1 => args_nil (op_len ra G1)) (hst _)) (hst _) (hpl _)) rfl rfl hk lg (by decide)) (hs _)
theorem EvC.meth {scope : Scope} {xs : List Str} {o e : PySem.Expr} {name : Str} {C₀ addr D : Nat} {f : FF} {fo fe : List MV → MM MV} {apos pos : Pos} (ho : EvC F scope xs o fo) (he : EvC F scope xs e fe) (hf : FnR addr D f) (hD : D ≤ F.D) (hok : ∀ P, methOk (KO P) name C₀ addr = true) (hk : ∀ P, keepIn (KO P) (.ref addr) = true)
  (pl : Env → Sem Bool)
  (hst : ∀ env, starEach [e] env = (false, eval e env) :: starEach [] env := by intro _; rfl)
  (hpl : ∀ env, (backTo pos (starEach [e] env)).any (·.1) = false := by intro _; rfl)
  (hs : ∀ env, eval (.Call (.Attribute o name apos) [e] [] pos) env = (do
   let ov ← eval o env
   standAt apos.atName
   let (f, first) ← holding [ov] (getMethod ov name (pl env))
   callWith pos f first (backTo pos (starEach [e] env)) []) := by intro _; rfl) : EvC F scope xs (.Call (.Attribute o name apos) [e] [] pos) (fun vs => (fo vs).bind fun o => (clsM C₀ o).bind fun _ => (fe vs).bind fun v => callM f [o, v]) := fun g W st s vs C oC m₂ cl' Q E I G =>
 MethodCall_ (pl := pl _) (ho.step I G fun W1 st1 h1 tk1 o O le ro I1 G1 => G1.then (RR := QQ addr O) (op_meth hok ro) fun W2 st2 h2 tk2 _ x le2 hx G2 => by
  cases hx
  refine callWith_of (by rw [hpl]; rfl) (keeps_K (hk g.w.params)) (evalArgs_any (hpl _) (args_cons (he.step (I1.mono le2) G2 fun W3 st3 h3 tk3 v V le3 rv I3 G3 => args_nil ?_) (hst _)))
  refine G3.RE fun m cs R => ?_
  exact ⟨G.S.X' R.F, op_call (F := F.nolp) hf hD (.cons ((ro.mono le2).mono le3) (.cons rv .nil)) G3⟩) (hs _)
theorem EvC.tup3 {scope : Scope} {xs : List Str} {a b c : PySem.Expr} {fa fb fc : List MV → MM MV} {k : Nat} {pos : Pos} (ha : EvC F scope xs a fa) (hb : EvC F scope xs b fb) (hc : EvC F scope xs c fc)
  (h1 : ∀ env, starEach [a, b, c] env = (false, eval a env) :: starEach [b, c] env := by intro _; rfl) (h2 : ∀ env, starEach [b, c] env = (false, eval b env) :: starEach [c] env := by intro _; rfl) (h3 : ∀ env, starEach [c] env = (false, eval c env) :: starEach [] env := by intro _; rfl) :
  EvC F scope xs (.Tuple [a, b, c] k pos) (fun vs => (fa vs).bind fun x => (fb vs).bind fun y => (fc vs).bind fun z => tupM [x, y, z]) := fun g W st s vs C oC m₂ cl' Q E I G =>
 Tuple_ (args_cons (ha.step I G fun W1 st1 h1 tk1 x X le1 rx I1 G1 => args_cons (hb.step I1 G1 fun W2 st2 h2 tk2 y Y le2 ry I2 G2 => args_cons (hc.step I2 G2 fun W3 st3 h3 tk3 z Z le3 rz I3 G3 => args_nil (op_tup (.cons ((rx.mono le2).mono le3) (.cons (ry.mono le3) (.cons rz .nil))) G3)) (h3 _)) (h2 _)) (h1 _))
end
section
open PyProof.Rows.LCg
variable {F : FS}
def TgtOk (scope : Scope) (tgt : PySem.Expr) (xs : List Str) (fv : MV → Option (List MV)) : Prop :=
 ∀ (g : FG) (W : Wd) (s : Shared) (C : Addr) (cl' : List (Str × Addr)) (m' : Str → Option Value) (mv : MV) (v : Value) (vs : List MV) (cs : List (Addr × Obj)) (Q : Unit → Shared → Prop) (E : Value → Shared → Prop), g.A.handled = none → s.heap.Ns C m' → VR g.w.params W mv v → News g.h₀ g.L s.heap (cs ++ W.all) → fv mv = some vs →
  (∀ h' tk' m₂, h'.Ns C m₂ → (∀ b o, b ≠ C → s.heap.get? b = some o → h'.get? b = some o) → (∀ (i : Nat) (x : Str) (u : MV), xs[i]? = some x → vs[i]? = some u → ∃ V, m₂ x = some V ∧ VR g.w.params W u V) → Q () (Sh s h' tk')) →
  wpAny (model pw_nm0149_01 g.w) g.A (PySem.assign tgt (compEnvC scope cl' C g.env) v) Q E s
theorem TgtOk.name {scope : Scope} {x : Str} {px : Pos} (hx : scope.names.lookup x = some .local) (hk : scope.kind = .function) : TgtOk scope (.Name x px) [x] (fun v => some [v]) := by
 intro g W s C cl' m' mv v vs cs Q E hh hn rv N e h
 obtain rfl := Option.some.inj e
 refine wpAny_assign_Name (wpAny_storeName_local (lookup_relabel_local hx) hn (fun h₃ hn₃ hs₃ => ?_) (by simp [compEnvC, relabel, hk]))
 refine h h₃ _ _ hn₃ (fun b o hb e => hs₃.extBut b o hb e) fun i y u hy hu => ?_
 match i, hy, hu with
 | 0, hy, hu => obtain rfl := Option.some.inj hy; obtain rfl := Option.some.inj hu; exact ⟨v, if_pos rfl, rv⟩
noncomputable def pairV : MV → Option (List MV)
 | .tup [a, b] => some [a, b]
 | _ => none
theorem TgtOk.pair {scope : Scope} {x y : Str} {pa pb tp : Pos} {kk : Nat} (hx : scope.names.lookup x = some .local) (hy : scope.names.lookup y = some .local) (hk : scope.kind = .function) (hne : x ≠ y) : TgtOk scope (.Tuple [.Name x pa, .Name y pb] kk tp) [x, y] pairV := by
 intro g W s C cl' m' mv v vs cs Q E hh hn rv N e h
 unfold pairV at e
 refine se44 e fun a b qs0 e => ?_; subst qs0
 obtain rfl := Option.some.inj e
 apply rv.eTup; intro T ws ha hz hr
 obtain ⟨A, _, rfl, ra, hr⟩ := hr.iCons
 obtain ⟨B, _, rfl, rb, hr⟩ := hr.iCons
 obtain rfl := hr.iNil
 have ht : s.heap.IsTuple T #[A, B] := N.isTup (List.mem_append_right _ (W.mem ha))
 refine kcp_assign (m := m') hh ht (lookup_relabel_local hx) (lookup_relabel_local hy) (by simp [compEnvC, relabel, hk]) hn fun h' tk hn' hk' => ?_
 refine h h' tk _ hn' hk' fun i z u hz hu => ?_
 match i, hz, hu with
 | 0, hz, hu => obtain rfl := Option.some.inj hz; obtain rfl := Option.some.inj hu; exact ⟨A, (if_neg hne).trans (if_pos rfl), ra⟩
 | 1, hz, hu => obtain rfl := Option.some.inj hz; obtain rfl := Option.some.inj hu; exact ⟨B, if_pos rfl, rb⟩
def compG (fv : MV → Option (List MV)) (fe : List MV → MM MV) : List MV → List MV → MM MF
 | [], acc => fun st => match Nat.ble acc.length 1000 with
  | true => some (.val (.ret (.obj st.μ.length)), ⟨st.m, st.μ ++ [.list acc]⟩)
  | false => none
 | v :: r, acc => match fv v with
  | some vs => fun st => match fe vs st with
   | some (.val y, st1) => compG fv fe r (acc ++ [y]) st1
   | _ => none
  | none => fun _ => none
theorem compG_cons {fv : MV → Option (List MV)} {fe : List MV → MM MV} {v : MV} {l acc : List MV} {st : St} {r : Out MF × St} (h : compG fv fe (v :: l) acc st = some r) : ∃ vs y st1, fv v = some vs ∧ fe vs st = some (.val y, st1) ∧ compG fv fe l (acc ++ [y]) st1 = some r := by
 unfold compG at h
 cases hf : fv v with
 | none => rw [hf] at h; exact nsE h
 | some vs =>
  rw [hf] at h
  dsimp only at h
  cases hg : fe vs st with
  | none => rw [hg] at h; exact nsE h
  | some p =>
   obtain ⟨ob, st1⟩ := p
   rw [hg] at h
   cases ob with
   | val y => exact ⟨vs, y, st1, rfl, hg, h⟩
   | bad => exact nsE h
theorem compG_len {fv : MV → Option (List MV)} {fe : List MV → MM MV} : ∀ {l acc : List MV} {st : St} {r : Out MF × St}, compG fv fe l acc st = some r → acc.length ≤ 1000
 | [], acc, st, r, h => by
  unfold compG at h
  refine se3 h fun hz h => ?_
  exact Nat.le_of_ble_eq_true hz
 | v :: l, acc, st, r, h => by
  refine ee33 (compG_cons h) fun vs y st1 _ _ h' => ?_
  have := compG_len h'
  rw [List.length_append] at this
  omega
def unretM (f : MM MF) : MM MV := fun st => match f st with
 | some (.val (.ret v), st') => some (.val v, st')
 | _ => none
set_option tactic.hygienic true in
theorem Go.unret {g : FG} {W : Wd} {st : St} {s : Shared} {f : MM MF} {Q : Value → Shared → Prop} {E : Value → Shared → Prop} (G : Go F VV g W st s (unretM f) Q E) : Go F FlR g W st s f (fun fl s' => match fl with | .ret V => Q V s' | _ => True) E := by
 refine G.oF fun hcs hSt R o st' e hP => ?_
 unfold unretM at e
 split at e
 ·rename_i v st1 e1
  have hP := hP.eqs e
  exact ⟨hcs, hSt, R, _, _, e1, fun W' h' tk' m' cs' a le R' ra => by
   cases ra with
   | ret r => exact hP W' h' tk' m' cs' _ le R' r⟩
 ·exact nsE e
inductive CJ (ns : List Str) (g : FG) (W1 : Wd) (s : Shared) (items : List MV) (Sx : Nat → Heap → Prop) (fv : MV → Option (List MV)) (fe : List MV → MM MV) (I D : Addr) (r : Option (Out MF × St)) (k : Nat) (s' : Shared) : Prop
 | mk (h' : Heap) (tk i : Nat) (ys : List Value) (ms : List MV) (m' : Str → Option Value) (W2 : Wd) (st2 : St) (cs2 : List (Addr × Obj)) (mF : Str → Option Value) : s' = Sh s h' tk → i ≤ items.length → k = items.length + 1 - i → ys.length = i → Sx i h' → W1.Le W2 → Rel g ns W2 st2 h' mF cs2 → VRs g.w.params W2 ms ys → ms.length = i → h'.Ns (D + 1) m' → h'.get? D = some (lst ys) → (∀ p ∈ cs2 ++ W2.all, p.1 ≠ I ∧ @Ne Nat p.1 (D + 1) ∧ @Ne Nat p.1 D) → compG fv fe (items.drop i) ms st2 = r → CJ ns g W1 s items Sx fv fe I D r k s'
theorem comp_core {elt tgt iter : PySem.Expr} {scope : Scope} {pos : Pos} {xs : List Str} {fv : MV → Option (List MV)} {fe : List MV → MM MV} (ht : TgtOk scope tgt xs fv) (hel : EvC F scope xs elt fe) (hkind : scope.kind = .function) (hcell : ∀ y ∈ scope.names, y.2 ≠ .cell)
  {g : FG} {W1 : Wd} {st1 : St} {s : Shared} {h1 : Heap} {tk1 : Nat} {m : Str → Option Value} {cs : List (Addr × Obj)} {items : List MV} {I : Addr} {cl' : List (Str × Addr)} {Q : Value → Shared → Prop} {E : Value → Shared → Prop} (R1 : Rel g F.ns W1 st1 h1 m cs)
  {fp : List Addr} {P : Nat → Value → Prop} {Sx : Nat → Heap → Prop} (hW : Walks pw_nm0149_01 g.w g.A I fp [I] items.length P Sx) (hL : g.L ∉ fp) (hI : g.h₀.get? I = none) (hnw : ∀ p ∈ cs ++ W1.all, p.1 ≠ I) (hst : Sx 0 h1) (hfp : ∀ b ∈ fp, b ≠ I → g.h₀.get? b ≠ none ∨ ∃ o, (b, o) ∈ W1.all) (hob : ∀ i h, Sx i h → ∃ o, h.get? I = some o)
  (hP : ∀ i v, i < items.length → P i v → ∃ mv, items[i]? = some mv ∧ VR g.w.params W1 mv v)
  (hlet : ∀ i (s : Shared) v (Q : Unit → Shared → Prop) E, Sx i s.heap → Q () s → wpAny (model pw_nm0149_01 g.w) g.A (letOwnedTupleGo tgt (.ref I) v) Q E s)
  (hcl : ∀ x, scope.names.lookup x = some .free → cl'.lookup x = g.cl.lookup x)
  (G : Go F FlR g W1 st1 (Sh s h1 tk1) (compG fv fe items []) (fun fl s' => match fl with | .ret V => Q V s' | _ => True) E) :
  wpAny (model pw_nm0149_01 g.w) g.A (newList []) (fun acc s₃ => wpAny (model pw_nm0149_01 g.w) g.A (newFunctionEnv scope g.env.globals cl' [] g.env.qual none .none (some g.env)) (fun cenv s₄ =>
   codeAny (model pw_nm0149_01 g.w) g.A (.compStart (.ListComp elt [⟨tgt, iter, [], 0⟩] scope pos) 0 (.ref I) acc { cenv with scope := relabel scope g.env }) (compPost (model pw_nm0149_01 g.w) g.A E none Q acc cenv.locals) s₄) E s₃) E (Sh s h1 tk1) := by
 refine G.oF fun hcs hSt _ o st' eG hPost => ?_
 obtain ⟨oI0, hoI0⟩ := hob _ _ hst
 refine wpAny_newObj_type (wpAny_newFunctionEnv hcell (by intro y hy; simp at hy) (fun h₁ hns₁ hsb₁ => ?_) hkind)
 dsimp only at hns₁ hsb₁ ⊢
 have hDn : (h1.push { cls := .type "list", dict := none, data := .seq ([] : List Value).toArray }).get? h1.objs.size = some (lst []) := Heap.get?_push_size _ rfl
 have upD : ∀ b o, h1.get? b = some o → (h1.push { cls := .type "list", dict := none, data := .seq ([] : List Value).toArray }).get? b = some o := fun b o e => Heap.get?_push_of_some _ e
 have sD : (h1.push { cls := .type "list", dict := none, data := .seq ([] : List Value).toArray }).objs.size = h1.objs.size + 1 := Heap.size_push ..
 generalize h1.push { cls := .type "list", dict := none, data := .seq ([] : List Value).toArray } = H2 at hns₁ hsb₁ hDn upD sD ⊢
 have zlt : ∀ b o, h1.get? b = some o → @LT.lt Nat _ b h1.objs.size := fun b o e => Heap.lt_size e
 have Llt : @LT.lt Nat _ g.L h1.objs.size := R1.F.ns.lt
 generalize hDe : h1.objs.size = D at hDn sD zlt Llt ⊢
 generalize hCe : H2.objs.size = C at hns₁ hsb₁ sD ⊢
 subst sD
 have old : ∀ b o, h1.get? b = some o → h₁.get? b = some o := fun b o e => hsb₁.extBut b o (fun q => by have z := zlt b o e; have q' : @Eq Nat b (D + 1) := q; omega) (Heap.get?_push_of_some _ (upD b o e))
 have oldD : h₁.get? D = some (lst []) := hsb₁.extBut _ _ (Nat.ne_of_lt (Nat.lt_succ_self D)) (Heap.get?_push_of_some _ hDn)
 have fresh₀ : ∀ b : Nat, D ≤ b → g.h₀.get? b = none := fun b hb => by
  cases e : g.h₀.get? b with
  | none => rfl
  | some o' => have z := zlt b o' (R1.F.keep b o' e); omega
 have Ilt : @LT.lt Nat _ I D := zlt I _ hoI0
 have IneL : @Ne Nat I g.L := fun q => hL (q ▸ hW.sub I (.head _))
 have fpC : ∀ b ∈ fp, @LT.lt Nat _ b D := fun b hb => by
  by_cases hbI : b = I
  ·rw [hbI]; exact Ilt
  ·rcases hfp b hb hbI with z | ⟨o', z⟩
   ·cases e : g.h₀.get? b with
    | none => exact absurd e z
    | some o' => exact zlt b o' (R1.F.keep b o' e)
   ·exact zlt b o' (R1.N _ (List.mem_append_right _ z)).1
 have cEq : (CsE F.nolp g : (Value → Shared → Prop) → Prop) = fun _ => (CsE F.nolp g (fun _ _ => True)) := by
  funext E'
  exact propext ⟨fun h => ⟨h.eq, h.lc, h.cc, fun q => nomatch q⟩, fun h => ⟨h.eq, h.lc, h.cc, fun q => nomatch q⟩⟩
 have c0 : ∀ E', CsE F.nolp g E' := fun E' => ⟨hcs.eq, hcs.lc, hcs.cc, fun q => nomatch q⟩
 clear cEq
 have loop : ∀ s₃ : Shared, s₃ = { s with heap := h₁, toks := tk1 + ([] : List (Str × Value)).length } →
   codeAny (model pw_nm0149_01 g.w) g.A (.compLoop (.ListComp elt [⟨tgt, iter, [], 0⟩] scope pos) 0 (.ref I) (.ref D) (compEnvC scope cl' (D + 1) g.env))
    (compPost (model pw_nm0149_01 g.w) g.A E none Q (.ref D) (D + 1)) s₃ := by
  rintro s₃ rfl
  refine kcp_loop (CJ F.ns g W1 s items Sx fv fe I D (some (o, st'))) ?_ (items.length + 1) ⟨h₁, _, 0, [], [], _, W1, st1, cs, m, rfl, Nat.zero_le _, rfl, rfl, hW.frame _ _ _ hst fun b _ o e => old b o e, .rfl', R1.keeps old, .nil, rfl, hns₁, oldD, fun p hp => ?_, eG⟩
  ·rintro k s' ⟨h', tk, i, ys, ms, m', W2, st2, cs2, mF, rfl, hi, rfl, hyl, hst', le2, R2, hms, hml, hn', hD', hap, e2⟩
   by_cases hlt' : i < items.length
   ·refine hW.item i _ _ _ hlt' hst' fun v h₂ tk₂ hPv hst₂ hk₂ => ?_
    dsimp only
    refine ee12 (hP i v hlt' hPv) fun mv hmv hrv => ?_
    have hdrop : items.drop i = mv :: items.drop (i + 1) := by
     obtain ⟨hlt, he⟩ := List.getElem?_eq_some_iff.mp hmv
     rw [← he]; exact List.drop_eq_getElem_cons hlt
    rw [hdrop] at e2
    refine ee33 (compG_cons e2) fun vs y st3 hfv e3 e2 => ?_
    have nI : ∀ b : Addr, @Ne Nat b I → b ∉ [I] := fun b hb hm => hb (List.mem_singleton.mp hm)
    have R2' : Rel g F.ns W2 st2 h₂ mF cs2 := ⟨fr_but R2.F hk₂ (fun q => IneL q.symm) hI, news_but R2.N hk₂ fun p hp => (hap p hp).1, R2.nd, R2.loc, R2.cells, R2.sc⟩
    have hn₂ := hn'.at' fun o e => hk₂ _ o (nI (D + 1) (Nat.ne_of_gt (Nat.lt_succ_of_lt Ilt))) e
    refine hlet (i + 1) _ v _ _ hst₂ ?_
    refine ht g W2 _ (D + 1) cl' _ mv v vs cs2 _ _ hSt.hd hn₂ (hrv.mono le2) R2'.N hfv fun h₃ tk₃ m₂ hn₃ hk₃ hvals => ?_
    dsimp only at hk₃
    have hst₃ : Sx (i + 1) h₃ := hW.frame _ _ _ hst₂ fun b hb o e => hk₃ b o (fun q => by have z := fpC b hb; have q' : @Eq Nat b (D + 1) := q; omega) e
    obtain ⟨oI, heI⟩ := hob _ _ hst₃
    refine ee12 (ns_obj hn₃) fun oC heC hoC => ?_
    have heD : h₃.get? D = some (lst ys) := hk₃ _ _ (Nat.ne_of_lt (Nat.lt_succ_self D)) (hk₂ _ _ (nI D (Nat.ne_of_gt Ilt)) hD')
    have R3 : Rel g F.ns W2 st2 h₃ mF cs2 := ⟨⟨R2'.F.ns.at' fun o e => hk₃ _ o (Nat.ne_of_lt (Nat.lt_succ_of_lt Llt)) e, fun b o e => hk₃ b o (fun q => by rw [q, fresh₀ (D + 1) (Nat.le_succ D)] at e; exact nsE e) (R2'.F.keep b o e), R2'.F.above⟩, fun p hp => ⟨hk₃ _ _ (hap p hp).2.1 (R2'.N p hp).1, (R2'.N p hp).2⟩, R2'.nd, R2'.loc, R2'.cells, R2'.sc⟩
    have Rp := R3.pins (l := [(I, oI), (D + 1, oC), (D, lst ys)]) (fun p hp => by
     apply mcE hp
     ·exact ⟨heI, IneL, hI⟩
     ·intro hp; rcases List.mem_cons.mp hp with rfl | hp
      ·exact ⟨heC, Nat.ne_of_gt (Nat.lt_succ_of_lt Llt), fresh₀ (D + 1) (Nat.le_succ D)⟩
      ·rw [List.mem_singleton.mp hp]; exact ⟨heD, Nat.ne_of_gt Llt, fresh₀ D (Nat.le_refl _)⟩) (by
     have a1 : @Ne Nat I (D + 1) := Nat.ne_of_lt (Nat.lt_succ_of_lt Ilt)
     have a2 : @Ne Nat I D := Nat.ne_of_lt Ilt
     have a3 : @Ne Nat (D + 1) D := Nat.succ_ne_self D
     simp only [List.map_cons, List.map_nil, List.nodup_cons, List.mem_cons, List.not_mem_nil, or_false, not_or, not_false_eq_true, List.nodup_nil, and_true]
     exact ⟨⟨a1, a2⟩, a3⟩) (fun p hp q hq => by
     apply mcE hq
     ·exact (hap p hp).1
     ·intro hq; rcases List.mem_cons.mp hq with rfl | hq
      ·exact (hap p hp).2.1
      ·rw [List.mem_singleton.mp hq]; exact (hap p hp).2.2)
    refine hel g (W2.pins [(I, oI), (D + 1, oC), (D, lst ys)]) st2 (Sh s h₃ tk₃) vs (D + 1) oC m₂ cl' _ _ ⟨.tail _ (.head _), hoC, fun i x u a b => let ⟨V, c, d⟩ := hvals i x u a b; ⟨V, c, d.weak Wd.wk_pins⟩, hcl⟩ ⟨c0 _, hSt, ⟨_, _, Rp⟩, .val y, st3, e3, fun W' h₄ tk₄ m₄ cs₄ Y le4 R4 rY => ?_⟩
    have hpin : W'.pin = [(I, oI), (D + 1, oC), (D, lst ys)] ++ W2.pin := le4.pin
    obtain ⟨R5, hf5⟩ := R4.unpin hpin
    have inP : ∀ p ∈ [(I, oI), (D + 1, oC), (D, lst ys)], p ∈ cs₄ ++ W'.all := fun p hp => List.mem_append_right _ (List.mem_append_right _ (by rw [hpin]; exact List.mem_append_left _ hp))
    have zI := (R4.N _ (inP _ (.head _))).1
    have zC := (R4.N _ (inP _ (.tail _ (.head _)))).1
    have zD := (R4.N _ (inP _ (.tail _ (.tail _ (.head _))))).1
    have hst₄ : Sx (i + 1) h₄ := hW.frame _ _ _ hst₃ fun b hb o e => by
     by_cases hbI : b = I
     ·rw [hbI] at e ⊢; rw [heI] at e; obtain rfl := Option.some.inj e; exact zI
     ·rcases hfp b hb hbI with z | ⟨o', z⟩
      ·cases e' : g.h₀.get? b with
       | none => exact absurd e' z
       | some o' =>
        have := R3.F.keep b o' e'
        rw [e] at this; obtain rfl := Option.some.inj this
        exact R4.F.keep b o e'
      ·have h3 := (R1.N _ (List.mem_append_right _ z)).1
       have z2 : (b, o') ∈ W2.all := (List.mem_append.mp z).elim (fun q => List.mem_append_left _ (le2.R _ q)) fun q => List.mem_append_right _ (by rw [le2.pin]; exact q)
       have h4 := (R3.N _ (List.mem_append_right _ z2)).1
       have eo : some o' = some o := h4.symm.trans e
       rw [← eo]
       have z4 : (b, o') ∈ W'.all := (List.mem_append.mp z2).elim (fun q => List.mem_append_left _ (le4.R _ q)) fun q => List.mem_append_right _ (by rw [hpin]; exact List.mem_append_right _ q)
       exact (R4.N _ (List.mem_append_right _ z4)).1
    have hlen := hms.length
    refine append_at (hsz := by show ys.toArray.size ≤ sizeLine; rw [List.size_toArray, hyl, sizeLine_eq]; have hcl' := compG_len e2; rw [List.length_append, List.length_singleton] at hcl'; omega) zD fun h₅ hs₅ hD₅ => ?_
    have ap5 : ∀ p ∈ cs₄ ++ (W'.setPin W2.pin).all, p.1 ≠ I ∧ @Ne Nat p.1 (D + 1) ∧ @Ne Nat p.1 D := fun p hp => ⟨hf5 p hp _ (.head _), hf5 p hp _ (.tail _ (.head _)), hf5 p hp _ (.tail _ (.tail _ (.head _)))⟩
    have le5 : W1.Le (W'.setPin W2.pin) := ⟨fun j a q => le4.ρ j a (le2.ρ j a q), fun p hp => le4.R p (le2.R p hp), le4.sc.trans le2.sc, le2.pin⟩
    refine ⟨items.length + 1 - (i + 1), by omega, h₅, tk₄, i + 1, ys ++ [Y], ms ++ [y], _, W'.setPin W2.pin, st3, cs₄, m₄, rfl, hlt', rfl, by rw [List.length_append, List.length_singleton, hyl], hW.frame _ _ _ hst₄ fun b hb o e => hs₅.extBut b o (fun q => by have z := fpC b hb; have q' : @Eq Nat b D := q; omega) e, le5,
     ⟨R5.F.change hs₅ (Nat.ne_of_gt Llt) (fresh₀ D (Nat.le_refl _)), fun p hp => ⟨hs₅.extBut _ _ (ap5 p hp).2.2 (R5.N p hp).1, (R5.N p hp).2⟩, R5.nd, R5.loc, R5.cells, R5.sc⟩,
     (hms.weak (show W2.Wk (W'.setPin W2.pin) from ⟨le4.ρ, le4.R, le4.sc⟩)).append (.cons (rY.weak Wd.wk_setPin) .nil), by rw [List.length_append, hml]; rfl, (hoC.ns zC).sameBut hs₅ (Nat.succ_ne_self D), hD₅.trans (congrArg some (lst_snoc ys Y)), ap5, e2⟩
   ·obtain rfl : i = items.length := Nat.le_antisymm hi (Nat.not_lt.mp hlt')
    refine hW.done _ _ _ hst' fun h₂ tk₂ hk₂ => ?_
    dsimp only
    rw [List.drop_length] at e2
    unfold compG at e2
    split at e2
    case h_2 => exact nsE e2
    rename_i hz
    obtain ⟨rfl, rfl⟩ := spE e2
    have hz' := Nat.le_of_ble_eq_true hz
    have nI : ∀ b : Addr, @Ne Nat b I → b ∉ [I] := fun b hb hm => hb (List.mem_singleton.mp hm)
    have R2' : Rel g F.ns W2 st2 h₂ mF cs2 := ⟨fr_but R2.F hk₂ (fun q => IneL q.symm) hI, news_but R2.N hk₂ fun p hp => (hap p hp).1, R2.nd, R2.loc, R2.cells, R2.sc⟩
    refine ⟨m', hn'.at' fun o e => hk₂ _ o (nI (D + 1) (Nat.ne_of_gt (Nat.lt_succ_of_lt Ilt))) e, fun h'' hs'' => ?_⟩
    have hD2 : h''.get? D = some (lst ys) := hs''.extBut _ _ (Nat.ne_of_lt (Nat.lt_succ_self D)) (hk₂ _ _ (nI D (Nat.ne_of_gt Ilt)) hD')
    have R6 : Rel g F.ns W2 st2 h'' mF cs2 := ⟨R2'.F.change hs'' (Nat.ne_of_gt (Nat.lt_succ_of_lt Llt)) (fresh₀ (D + 1) (Nat.le_succ D)), fun p hp => ⟨hs''.extBut _ _ (hap p hp).2.1 (R2'.N p hp).1, (R2'.N p hp).2⟩, R2'.nd, R2'.loc, R2'.cells, R2'.sc⟩
    refine hPost (W2.snoc D) h'' tk₂ mF (cs2 ++ [(D, lst ys)]) (.ret (.ref D)) (le2.trans Wd.le_snoc) (R6.snoc (es := [(D, lst ys)]) R6.F (fun p hp => ?_) (by simp) (fun p hp q hq => by rw [List.mem_singleton.mp hq]; exact (hap p hp).2.2) (.list (hms.mono Wd.le_snoc) (by omega))) (.ret (.obj R6.idx))
    rcases List.mem_append.mp hp with hp | hp
    ·rw [List.mem_singleton.mp hp]; exact ⟨hD2, Nat.ne_of_gt Llt, fresh₀ D (Nat.le_refl _)⟩
    ·exact R6.N p hp
  ·have z := zlt p.1 p.2 (R1.N p hp).1
   exact ⟨hnw p hp, by omega, by omega⟩
 exact codeAny_compStart_list (loop _ rfl) (hW.self 0 _ _ _ (hW.frame _ _ _ hst fun b _ o e => old b o e) (loop _ rfl))
end
section
open PyProof.Rows.LCg
variable {F : FS}
abbrev SrcF (F : FS) (iter : PySem.Expr) (fsrc : (List MV → MM MF) → MM MF) : Prop :=
 ∀ g W st s Q E (k : List MV → MM MF) (Qi : Value → Shared → Prop), Go F FlR g W st s (fsrc k) Q E → (∀ W1 st1 h1 tk1 m cs items I, Rel g F.ns W1 st1 h1 m cs → Src g W1 (cs ++ W1.all) h1 items I → Go F FlR g W1 st1 (Sh s h1 tk1) (k items) Q E → Qi (.ref I) (Sh s h1 tk1)) →
   wpAny (model pw_nm0149_01 g.w) g.A (eval iter g.env) (fun xv s1 => wpAny (model pw_nm0149_01 g.w) g.A (pyIter xv) Qi E s1) E s
noncomputable def ClosOk (F : FS) (scope : Scope) : Prop := ∀ g E, CsE F g E → ∃ cl', closureFor scope g.env = pure cl' ∧ ∀ x, scope.names.lookup x = some .free → cl'.lookup x = g.cl.lookup x
theorem ClosOk.no {scope : Scope} (h : ∀ x ∈ scope.names, x.2 ≠ .free) (hc : ∀ env, closureFor scope env = pure [] := by intro _; rfl) : ClosOk F scope := fun g E _ => ⟨[], hc _, fun x hx => by
 exfalso
 revert hx h
 generalize scope.names = l
 intro h
 induction l with
 | nil => exact fun q => nomatch q
 | cons p r ih =>
  rw [List.lookup_cons]
  split
  ·exact fun q => h p (.head _) (Option.some.inj q)
  ·exact ih fun x hx => h x (.tail _ hx)⟩
theorem ClosOk.one {scope : Scope} {x : Str} (hx : F.sc.names.lookup x = some .cell) (h : ∀ z ∈ scope.names, z.2 = .free → z.1 = x) (hc : ∀ env, closureFor scope env = (do let c ← cellOf env x; pure [(x, c)]) := by intro _; rfl) : ClosOk F scope := fun g E hcs => by
 cases e : g.cl.lookup x with
 | none => exact absurd e (hcs.cc x hx)
 | some c =>
  refine ⟨[(x, c)], ?_, fun z hz => ?_⟩
  ·rw [hc]
   have : cellOf g.env x = pure c := by
    unfold cellOf
    rw [show g.env.cells.lookup x = some c from e]
   rw [this]; rfl
  ·have : z = x := by
    revert hz h
    generalize scope.names = l
    intro h
    induction l with
    | nil => exact fun q => nomatch q
    | cons p r ih =>
     rw [List.lookup_cons]
     split
     ·rename_i hq
      exact fun q => (eq_of_beq hq).trans (h p (.head _) (Option.some.inj q))
     ·exact ih fun x hx => h x (.tail _ hx)
   subst this
   rw [e]; simp [List.lookup_cons]
noncomputable def oneV (v : MV) : Option (List MV) := some [v]
theorem Ev.comp {elt iter : PySem.Expr} {x : Str} {px : Pos} {scope : Scope} {pos : Pos} {fe : List MV → MM MV} {fsrc : (List MV → MM MF) → MM MF} (hx : scope.names.lookup x = some .local) (hkind : scope.kind = .function) (hcell : ∀ y ∈ scope.names, y.2 ≠ .cell) (hnames : ∀ y ∈ scope.names, y.2 = .local → scope.names.lookup y.1 = some .local)
  (hclos : ClosOk F scope) (hsrc : SrcF F iter fsrc) (hel : EvC F scope [x] elt fe) (hs : ∀ env x, foldedSetIterable iter env x = pure x := by intro _ _; rfl) : EvE F (.ListComp elt [⟨.Name x px, iter, [], 0⟩] scope pos) (unretM (fsrc fun items => compG oneV fe items [])) := by
 intro g W st s Q E G
 have G' := G.unret
 refine ee12 (hclos g E G.cs) fun cl' hc1 hc2 => ?_
 dsimp only
 rw [eval_ListComp]
 refine wpAny_comprehension_free (use := none) rfl (hs _) hc1 hkind hnames (hsrc g W st s _ E _ _ G' fun W1 st1 h1 tk1 m cs items I R1 hS G1 => ?_)
 obtain ⟨fp, P, Sx, a1, a2, a3, a4, a5, a6, a7, a8⟩ := hS
 exact comp_core (fv := oneV) (TgtOk.name hx hkind) hel hkind hcell R1 a1 a2 a3 a4 a5 a6 a7 a8 (fun _ _ _ _ _ _ h => wpAny_pure h) hc2 G1
theorem Ev.compP {elt iter : PySem.Expr} {x y : Str} {pa pb tp : Pos} {kk : Nat} {scope : Scope} {pos : Pos} {fe : List MV → MM MV} {fi : MM MV} (hx : scope.names.lookup x = some .local) (hy : scope.names.lookup y = some .local) (hne : x ≠ y) (hkind : scope.kind = .function) (hcell : ∀ y ∈ scope.names, y.2 ≠ .cell) (hnames : ∀ y ∈ scope.names, y.2 = .local → scope.names.lookup y.1 = some .local)
  (hclos : ClosOk F scope) (hit : EvE F iter fi) (hel : EvC F scope [x, y] elt fe) (hs : ∀ env x, foldedSetIterable iter env x = pure x := by intro _ _; rfl) : EvE F (.ListComp elt [⟨.Tuple [.Name x pa, .Name y pb] kk tp, iter, [], 0⟩] scope pos) (unretM (listK fi fun items => compG pairV fe items [])) := by
 intro g W st s Q E G
 have G' := G.unret
 refine ee12 (hclos g E G.cs) fun cl' hc1 hc2 => ?_
 dsimp only
 rw [eval_ListComp]
 refine wpAny_comprehension_free (use := none) rfl (hs _) hc1 hkind hnames (src_listI hit g W st s _ E _ _ G' fun W1 st1 h1 tk1 m cs items I R1 hS G1 => ?_)
 obtain ⟨fp, P, Sx, a1, a2, a3, a4, a5, a6, a7, a8⟩ := hS
 refine comp_core (fv := pairV) (TgtOk.pair hx hy hkind hne) hel hkind hcell R1 a1 a2 a3 a4 a5 a6 (fun i h hs => let ⟨o, _, q, _⟩ := a7 i h hs; ⟨o, q⟩) a8 (fun i s v Q E hs h => ?_) hc2 G1
 refine ee23 (a7 _ _ hs) fun o fs ho hc hd => ?_
 unfold letOwnedTupleGo
 dsimp only
 split
 ·rename_i r' a' hr
  cases hr
  refine wpAny_bind (wpAny_load ho ?_)
  rw [hc, hd]
  dsimp only
  rw [if_neg (by rw [show (["enumerate", "zip", "dict_itemiterator", "dict_reverseitemiterator", "odict_iterator", "itertools.zip_longest", "itertools.pairwise"].contains "list_iterator") = false from by decide]; exact Bool.false_ne_true)]
  exact wpAny_pure h
 ·exact wpAny_pure h
end
section
variable {env : Env} {r : List PySem.Expr}
theorem star_Constant {c : Const} {k : Nat} {p : Pos} : starEach (.Constant c k p :: r) env = (false, eval (.Constant c k p) env) :: starEach r env := rfl
theorem star_Name {x : Str} {p : Pos} : starEach (.Name x p :: r) env = (false, eval (.Name x p) env) :: starEach r env := rfl
theorem clos_one {a b x : Str} {g c : Bool} {m : List (Str × Const)} (h : (x == x) = true := by simp) : closureFor ⟨.function, [(a, .local), (b, .local), (x, .free)], g, c, m⟩ env = (do let c ← cellOf env x; pure [(x, c)]) := by
 unfold closureFor
 simp
end
inductive Lit where
 | none | int (i : Int) | neg (i : Int) | str (x : List Nat) | tup (l : List Lit) | list (l : List Lit) | dict (r : List (List Nat × Int))
mutual
inductive LitR : PySem.Expr → Lit → Prop
 | none {k p} : LitR (.Constant .none k p) .none
 | int {i k p} : LitR (.Constant (.int i) k p) (.int i)
 | neg {i k p q} : LitR (.UnaryOp .USub (.Constant (.int i) k p) q) (.neg i)
 | str {x xs k p} : x = S xs → LitR (.Constant (.str x) k p) (.str xs)
 | tup {es l k p} : LitsR es l → LitR (.Tuple es k p) (.tup l)
 | list {es l p} : LitsR es l → LitR (.List es p) (.list l)
 | dict {ks vs r p} : DispR ks vs r → ks ≠ [] → ks.length ≤ 15 → (r.map (fun p => S p.1)).Nodup → LitR (.Dict ks vs p) (.dict r)
 | dict0 {p} : LitR (.Dict [] [] p) (.dict [])
inductive LitsR : List PySem.Expr → List Lit → Prop
 | nil : LitsR [] []
 | cons {e es l ls} : LitR e l → LitsR es ls → LitsR (e :: es) (l :: ls)
end
mutual
noncomputable def litM : Lit → MM MV
 | .none => MM.pure .none
 | .int i => MM.pure (.int i)
 | .neg i => (MM.pure (.int i)).bind negM
 | .str x => MM.pure (.str x)
 | .tup l => (litsM l).bind tupM
 | .list l => (litsM l).bind listM
 | .dict r => dictM r
noncomputable def litsM : List Lit → MM (List MV)
 | [] => MM.pure []
 | a :: r => (litM a).bind fun v => (litsM r).bind fun vs => MM.pure (v :: vs)
end
structure EvX (F : FS) (e : PySem.Expr) (f : MM MV) : Prop where
 run : EvE F e f
structure EvAX (F : FS) (e : List PySem.Expr) (f : MM (List MV)) : Prop where
 run : EvA F e f
theorem LitR.star {e : PySem.Expr} {l : Lit} {r : List PySem.Expr} (h : LitR e l) (env : Env) : starEach (e :: r) env = (false, eval e env) :: starEach r env := by
 cases h <;> rfl
theorem LitR.ev {F : FS} {e : PySem.Expr} {l : Lit} (r : LitR e l) : EvX F e (litM l) :=
 LitR.rec (motive_1 := fun e l _ => EvX F e (litM l)) (motive_2 := fun e l _ => EvAX F e (litsM l)) ⟨Ev.cnone⟩ ⟨Ev.cint⟩ ⟨Ev.neg Ev.cint⟩ (fun h => ⟨Ev.cstr h⟩) (fun _ h => ⟨Ev.tup h.run⟩) (fun _ h => ⟨Ev.list h.run⟩) (fun h h0 hz nd => ⟨Ev.dict h h0 hz nd⟩) ⟨Ev.dict0⟩ ⟨EvA.nil⟩ (fun h _ a b => ⟨EvA.cons a.run b.run h.star⟩) r
theorem FnR.lit {addr D : Nat} {name qual : Str} {params : Arguments} {e : PySem.Expr} {pos : Pos} {l : Lit} {scope : Scope} {dV kV doc pm cdv ct oc : Value} {od : Option Addr} {osl : Array (Option Value)} {an : Option Addr}
  (ho : ∀ P, (KO P).lookup addr = some ⟨oc, od, .func (fnOf name qual params [.Return (some e) pos] scope dV kV doc pm an cdv ct), osl⟩) (hcd : ∀ P, codeIn (KO P) cdv qual = true)
  (hbind : BindOk (fnOf name qual params [.Return (some e) pos] scope dV kV doc pm an cdv ct) 0 [] (initM [] 0)) (hl : LitR e l)
  (hco : scope.isCoroutine = false) (hgen : scope.isGenerator = false) (hk : scope.kind = .function) (hcell : ∀ x ∈ scope.names, x.2 ≠ .cell) : FnR addr (D + 1) (fnOut 0 (initM [] 0) (seqM ((litM l).bind fun v => MM.pure (.ret v)) (MM.pure .next))) :=
 FnR.mk ho hcd hbind (EvB.cons (EvS.ret hl.ev.run) EvB.nil) hco hgen hk hcell
section
variable {F : FS}
set_option tactic.hygienic true in
theorem Go.uncut {g : FG} {W : Wd} {st : St} {s : Shared} {f : MM MF} {Q : Flow → Shared → Prop} {E : Value → Shared → Prop} (G : Go F FlR g W st s (cutM f) Q E) : Go F FlR g W st s f Q E := by
 refine G.oG fun hcs hS m cs R o st' e hP => ?_
 unfold cutM at e
 split at e
 ·rename_i st1 e1
  refine se3 e fun hc e => ?_
  have hP := hP.eqs e
  refine ⟨hcs, hS, ⟨m, cs, R⟩, _, _, e1, fun W' h' tk' m' cs' a le R' ra => ?_⟩
  cases ra
  obtain ⟨cs2, R2⟩ := R'.cut hc rfl
  refine hP ⟨W'.ρ.take st.μ.length, W'.R, W'.sc, W'.pin⟩ h' tk' m' cs2 _ ⟨fun i x hx => ?_, le.R, le.sc, le.pin⟩ R2 .next
  have hl := R.cells.len
  have : i < st.μ.length := by
   rw [hl]
   exact (List.getElem?_eq_some_iff.mp hx).1
  show (W'.ρ.take st.μ.length)[i]? = some x
  rw [List.getElem?_take_of_lt this]
  exact le.ρ i x hx
 ·exact ⟨hcs, hS, ⟨m, cs, R⟩, _, _, e, hP⟩
theorem Go.imp {α β : Type} {RR : Params → Wd → β → α → Prop} {g : FG} {W : Wd} {st : St} {s : Shared} {f : MM β} {Q Q' : α → Shared → Prop} {E : Value → Shared → Prop} (G : Go F RR g W st s f Q E) (h : ∀ a s, Q a s → Q' a s) : Go F RR g W st s f Q' E := by
 refine G.oF fun hcs hS R o st' e hP => ?_
 refine ⟨hcs, hS, R, o, st', e, ?_⟩
 cases o with
 | val b => exact fun W' h' tk' m' cs' a le R' ra => h _ _ (hP W' h' tk' m' cs' a le R' ra)
 | bad => exact hP
structure TopB (F : FS) (b : List Stmt) (f : MM MF) : Prop where
 run : ∀ g W st s Q E, TopG g → Go F FlR g W st s f Q E → wpAny (model pw_nm0149_01 g.w) g.A (execs b g.env) Q E s
structure TopS (F : FS) (t : Stmt) (f : MM MF) : Prop where
 run : ∀ g W st s Q E, TopG g → Go F FlR g W st s f Q E → wpAny (model pw_nm0149_01 g.w) g.A (exec t g.env) Q E s
structure TokB (F : FS) (b : List Stmt) (f : MM MF) : Prop where
 run : ∀ g W st s Q E, TopG g → 1 ≤ s.toks → Go F FlR g W st s f (fun a s' => 1 ≤ s'.toks → Q a s') E → wpAny (model pw_nm0149_01 g.w) g.A (execs b g.env) Q E s
structure TokS (F : FS) (t : Stmt) (f : MM MF) : Prop where
 run : ∀ g W st s Q E, TopG g → 1 ≤ s.toks → Go F FlR g W st s f Q E → wpAny (model pw_nm0149_01 g.w) g.A (exec t g.env) Q E s
theorem TopB.nil : TopB F [] (MM.pure .next) := ⟨fun _ _ _ _ _ _ _ G => wpAny_execs_nil (G.ret .next)⟩
theorem TokB.nil : TokB F [] (MM.pure .next) := ⟨fun _ _ _ _ _ _ _ hk G => wpAny_execs_nil (G.ret .next hk)⟩
theorem TopS.of {t : Stmt} {f : MM MF} (h : EvS F t f) : TopS F t f := ⟨fun g W st s Q E _ G => h g W st s Q E G⟩
theorem TokS.of {t : Stmt} {f : MM MF} (h : EvS F t f) : TokS F t f := ⟨fun g W st s Q E _ _ G => h g W st s Q E G⟩
theorem TopB.cons {t : Stmt} {r : List Stmt} {f k : MM MF} (h : TopS F t f) (hr : TopB F r k) : TopB F (t :: r) (seqM f k) := ⟨fun g W st s Q E hT G =>
 wpAny_execs_cons (G.then (RR := FlR) (fun G' => h.run g W st s _ E hT G') fun W1 st1 h1 tk1 b a le hb G1 => by
  cases hb with
  | next => exact hr.run _ _ _ _ _ _ hT G1
  | ret hv => exact G1.ret (.ret hv)
  | brk => exact G1.ret .brk
  | cont => exact G1.ret .cont)⟩
theorem TokB.cons {t : Stmt} {r : List Stmt} {f k : MM MF} (h : TokS F t f) (hr : TokB F r k) : TokB F (t :: r) (seqM f k) := ⟨fun g W st s Q E hT hk G =>
 wpAny_execs_cons (wpAny_toks hk (G.then (RR := FlR) (fun G' => h.run g W st s _ E hT hk G') fun W1 st1 h1 tk1 b a le hb G1 => by
  intro hk1
  cases hb with
  | next => exact hr.run _ _ _ _ _ _ hT hk1 G1
  | ret hv => exact G1.ret (.ret hv) hk1
  | brk => exact G1.ret .brk hk1
  | cont => exact G1.ret .cont hk1))⟩
theorem TopB.bump {t : Stmt} {r : List Stmt} {f k : MM MF} {n : Nat} (h : EvS F t f) (hb : ∀ env, bumps n (exec t env) = true) (hr : TokB F r k) : TopB F (t :: r) (seqM f k) := ⟨fun g W st s Q E hT G =>
 wpAny_execs_cons (wpAny_bumps (hb _) (G.then (RR := FlR) (fun G' => h g W st s _ E G') fun W1 st1 h1 tk1 b a le hb G1 => by
  intro hk1
  cases hb with
  | next => exact hr.run _ _ _ _ _ _ hT hk1 (G1.imp fun _ _ h _ => h)
  | ret hv => exact G1.ret (.ret hv)
  | brk => exact G1.ret .brk
  | cont => exact G1.ret .cont))⟩
theorem TopB.cut {b : List Stmt} {f : MM MF} (h : TopB F b f) : TopB F b (cutM f) := ⟨fun g W st s Q E hT G => h.run g W st s Q E hT G.uncut⟩
def repM (v : MV) : MM MV := match v with
 | .str xs => match Nat.ble xs.length 1000 with
  | true => MM.pure (.str (cutC 64 xs))
  | false => MM.fail
 | _ => MM.fail
theorem op_rep {g : FG} {W : Wd} {st : St} {s : Shared} {Q E : Value → Shared → Prop} {v : MV} {V : Value} {u1 u2 : Tok} (rv : VR g.w.params W v V) (hu : u1 ≠ 0) (hv : u2 ≠ 0) (huv : u1 ≠ u2) (G : Go F VV g W st s (repM v) Q E) : wpAny (model pw_nm0149_01 g.w) g.A (call (.builtin "str.replace") [V, .str (Str.ofString "@") u1, .str (Str.ofString "") u2]) Q E s := by
 unfold repM at G
 refine sg29 G fun xs qs0 G => ?_; subst qs0
 refine sg7 G fun h G => ?_
 have h' := Nat.le_of_ble_eq_true h
 apply rv.eStr; intro _
 refine PySem.SC.replaceW hu hv huv (by decide) (by rw [S_len]; omega) (by decide) fun t' k => ?_
 rw [show Str.ofString "@" = S [64] from by decide +kernel, show Str.ofString "" = S [] from by decide +kernel, replace_is]
 exact G.tk .str
set_option tactic.hygienic true in
theorem op_callT {addr D : Nat} {f : FF} {g : FG} {W : Wd} {st : St} {s : Shared} {Q : Value → Shared → Prop} {E : Value → Shared → Prop} {vs : List MV} {Vs : List Value} (hT : TopG g) (hf : FnT addr D f) (hD : D ≤ F.D) (hvs : VRs g.w.params W vs Vs) (G : Go F VV g W st s (callM f vs) Q E) :
  wpAny (model pw_nm0149_01 g.w) g.A (call (.ref addr) Vs) Q E s := by
 refine G.oG fun hcs hS mr cs hR o st' e hP => ?_
 unfold callM at e
 split at e
 ·rename_i o' μ' e'
  cases e
  refine wpAny_call (hf F.ns g W st.m st.μ s vs Vs _ o μ' mr cs hT (hS.le hD) hR hvs e' ?_)
  cases o with
  | val b => exact fun W' h' tk' cs' V le R r => hP W' h' tk' mr cs' V le R r
  | bad w r c => exact fun W' h' tk' e le R => hP W' h' tk' mr e le R.rel
 ·exact nsE e
theorem TokS.told {fe eSp eTx eAt eDue : PySem.Expr} {addr D : Nat} {ft : FF} {fsp ftx fat fdue : MM MV} {fa fb : MM MF} {a b : List Stmt} {k1 k2 : Nat} {rp1 rp c1 c2 cp p1 pos : Pos} (hfe : EvE F fe (MM.pure (.con (.ref addr)))) (hsp : EvE F eSp fsp) (htx : EvE F eTx ftx) (hat : EvE F eAt fat) (hdue : EvE F eDue fdue) (hft : FnT addr D ft) (hD : D ≤ F.D) (hk : ∀ P, keepIn (KO P) (.ref addr) = true) (ha : EvB F a fa) (hb : EvB F b fb) (hmk : behindInMarks .NotEq eDue = false)
  (pl : Env → Sem Bool)
  (h1 : ∀ env, starEach [eSp, .Call (.Attribute eTx "replace" rp1) [.Constant (.str "@") k1 c1, .Constant (.str "") k2 c2] [] rp, eAt] env = (false, eval eSp env) :: starEach [.Call (.Attribute eTx "replace" rp1) [.Constant (.str "@") k1 c1, .Constant (.str "") k2 c2] [] rp, eAt] env := by intro _; rfl)
  (h2 : ∀ env, starEach [.Call (.Attribute eTx "replace" rp1) [.Constant (.str "@") k1 c1, .Constant (.str "") k2 c2] [] rp, eAt] env = (false, eval (.Call (.Attribute eTx "replace" rp1) [.Constant (.str "@") k1 c1, .Constant (.str "") k2 c2] [] rp) env) :: starEach [eAt] env := by intro _; rfl)
  (h3 : ∀ env, starEach [eAt] env = (false, eval eAt env) :: starEach [] env := by intro _; rfl)
  (hpl : ∀ env, (backTo cp (starEach [eSp, .Call (.Attribute eTx "replace" rp1) [.Constant (.str "@") k1 c1, .Constant (.str "") k2 c2] [] rp, eAt] env)).any (·.1) = false := by intro _; rfl)
  (hs : ∀ env, eval (.Call fe [eSp, .Call (.Attribute eTx "replace" rp1) [.Constant (.str "@") k1 c1, .Constant (.str "") k2 c2] [] rp, eAt] [] cp) env = (do callWith cp (← eval fe env) [] (backTo cp (starEach [eSp, .Call (.Attribute eTx "replace" rp1) [.Constant (.str "@") k1 c1, .Constant (.str "") k2 c2] [] rp, eAt] env)) (backToKw cp (keywordEach [] env))) := by intro _; rfl)
  (hs2 : ∀ env, eval (.Call (.Attribute eTx "replace" rp1) [.Constant (.str "@") k1 c1, .Constant (.str "") k2 c2] [] rp) env = (do
   let ov ← eval eTx env
   standAt rp1.atName
   let (f, first) ← holding [ov] (getMethod ov "replace" (pl env))
   callWith rp f first (backTo rp (starEach [.Constant (.str "@") k1 c1, .Constant (.str "") k2 c2] env)) []) := by intro _; rfl) :
  TokS F (.If (.Compare (.Call fe [eSp, .Call (.Attribute eTx "replace" rp1) [.Constant (.str "@") k1 c1, .Constant (.str "") k2 c2] [] rp, eAt] [] cp) [.NotEq] [eDue] p1) a b pos)
   (fsp.bind fun sp => ftx.bind fun tx => (repM tx).bind fun r => fat.bind fun at_ => (callM ft [sp, r, at_]).bind fun v => fdue.bind fun d => (neTM F.D v d).bind fun x => (truthM x).bind fun c => match c with | true => fa | false => fb) := ⟨fun g W st s Q E hT htk G => by
 refine wpAny_If (wpAny_isTrue_Compare1 (Call_ (wpAny_toks htk (hfe.stepE (k := fun _ => (fsp.bind fun sp => ftx.bind fun tx => (repM tx).bind fun r => fat.bind fun at_ => (callM ft [sp, r, at_]).bind fun v => fdue.bind fun d => (neTM F.D v d).bind fun x => (truthM x).bind fun c => match c with | true => fa | false => fb)) G fun W1 st1 hh1 tk1 v V le rv ev G1 => fun ht1 => ?_)) (hs _)) hmk)
 cases ev
 apply rv.eCon
 refine callWith_of (by rw [hpl]; rfl) (keeps_K (hk g.w.params)) (evalArgs_any (hpl _) (args_cons (wpAny_toks ht1 (hsp.step G1 fun W2 st2 hh2 tk2 sp SP le2 rsp G2 => fun ht2 => args_cons (MethodCall_ (pl := pl _) (wpAny_toks ht2 (htx.step G2 fun W3 st3 hh3 tk3 tx TX le3 rtx G3 => fun ht3 => ?_)) (hs2 _)) (h2 _))) (h1 _)))
 have gm : ∀ {Q' : Value × List Value → Shared → Prop} {s' : Shared}, Q' (.builtin "str.replace", [TX]) s' → wpAny (model pw_nm0149_01 g.w) g.A (getMethod TX "replace" (pl g.env)) Q' E s' := fun {Q' s'} h => by
  refine G3.oF fun _ _ _ o st' e _ => ?_
  unfold repM at e
  cases tx with
  | str xs => obtain ⟨_, rfl⟩ := rtx.iStr; exact PySem.GM.replace h
  | _ => exact nsE e
 refine gm (callWith_method1 (args_cons (wpAny_Constant_str (args_cons (wpAny_Constant_str (args_nil ?_)) rfl)) rfl) rfl rfl)
 refine G3.RE fun m3 cs3 R3 => ?_
 have G3' := G3.move (h' := hh3) (tk' := tk3 + 1 + 1) R3
 refine G3'.then (RR := VV) (op_rep rtx (by show tk3 ≠ 0; have : 1 ≤ tk3 := ht3; omega) (by show tk3 + 1 ≠ 0; omega) (by show tk3 ≠ tk3 + 1; omega)) fun W4 st4 hh4 tk4 r RV le4 rr G4 => ?_
 refine args_cons (hat.step G4 fun W5 st5 hh5 tk5 at_ AV le5 rat G5 => args_nil ?_) (h3 _)
 refine G5.RE fun m5 cs5 R5 => ?_
 refine ⟨G.S.X' R5.F, ?_⟩
 refine G5.then (RR := VV) (op_callT hT hft hD (.cons (((rsp.mono le3).mono le4).mono le5) (.cons (rr.mono le5) (.cons rat .nil)))) fun W6 st6 hh6 tk6 v VV' le6 rv G6 => ?_
 refine hdue.step G6 fun W7 st7 hh7 tk7 d DV le7 rd G7 => ?_
 refine G7.then (RR := VV) (op_neT (rv.mono le7) rd) fun W8 st8 hh8 tk8 x XV le8 rx G8 => ?_
 refine G8.then (RR := BB) (op_truth rx) fun W9 st9 hh9 tk9 c CV le9 rc G9 => ?_
 cases rc
 cases c with
 | true => exact ha _ _ _ _ _ _ G9
 | false => exact hb _ _ _ _ _ _ G9⟩
end
def R315 : {f : FF // FnR 315 2 f} := ⟨_, FnR.mk (addr := 315) (D := 1) (n := 2) (ns := ["self", "text"]) (init := initM [] 0) (fun P => rfl) (fun P => by kernel_rfl)
 (by exact BindOk.mk ["self", "text"] [] [] [] 0)
 (EvB.cons (Ev.assignAttr (Cs := [116, 396]) (c := 5) (Ev.loc (i := 1)) (Ev.loc (i := 0)))
  (EvB.cons (Ev.assignAttr (Cs := [269, 396]) (c := 1) Ev.cint (Ev.loc (i := 0)))
  (EvB.cons (Ev.assignAttr (Cs := [269, 116, 144, 396]) (c := 2) Ev.cint (Ev.loc (i := 0)))
  (EvB.cons (Ev.assignAttr (Cs := [269, 116, 144, 396]) (c := 3) Ev.cint (Ev.loc (i := 0)))
  (EvB.cons (Ev.assignAttr (Cs := [396]) (c := 11) (Ev.list EvA.nil) (Ev.loc (i := 0)))
  EvB.nil)))))⟩
def R113 : {f : FF // FnR 113 2 f} := ⟨_, FnR.mk (addr := 113) (D := 1) (n := 6) (ns := ["self", "sort", "text", "value", "row", "column"]) (init := initM [] 0) (fun P => rfl) (fun P => by kernel_rfl)
 (by exact BindOk.mk ["self", "sort", "text", "value", "row", "column"] [] [] [] 0)
 (EvB.cons (Ev.assignAttr (Cs := [116]) (c := 4) (Ev.loc (i := 1)) (Ev.loc (i := 0)))
  (EvB.cons (Ev.assignAttr (Cs := [116, 396]) (c := 5) (Ev.loc (i := 2)) (Ev.loc (i := 0)))
  (EvB.cons (Ev.assignAttr (Cs := [116]) (c := 6) (Ev.loc (i := 3)) (Ev.loc (i := 0)))
  (EvB.cons (Ev.assignAttr (Cs := [269, 116, 144, 396]) (c := 2) (Ev.loc (i := 4)) (Ev.loc (i := 0)))
  (EvB.cons (Ev.assignAttr (Cs := [269, 116, 144, 396]) (c := 3) (Ev.loc (i := 5)) (Ev.loc (i := 0)))
  EvB.nil)))))⟩
def R322 : {f : FF // FnR 322 2 f} := ⟨_, FnR.mk (addr := 322) (D := 1) (n := 1) (ns := ["self"]) (init := initM [] 0) (fun P => rfl) (fun P => by kernel_rfl)
 (by exact BindOk.mk ["self"] [] [] [] 0)
 (EvB.cons (EvS.ret (Ev.sliceMidS (Ev.attr (Cs := [116, 396]) (c := 5) (Ev.loc (i := 0))) (Ev.attr (Cs := [269, 396]) (c := 1) (Ev.loc (i := 0))) (Ev.bin (Ev.attr (Cs := [269, 396]) (c := 1) (Ev.loc (i := 0))) Ev.cint op_add)))
  EvB.nil)⟩
def R329 : {f : FF // FnR 329 2 f} := ⟨_, FnR.mk (addr := 329) (D := 1) (n := 2) (ns := ["self", "word"]) (init := initM [] 0) (fun P => rfl) (fun P => by kernel_rfl)
 (by exact BindOk.mk ["self", "word"] [] [] [] 0)
 (EvB.cons (EvS.ret (Ev.cmp (Ev.sliceMidS (Ev.attr (Cs := [116, 396]) (c := 5) (Ev.loc (i := 0))) (Ev.attr (Cs := [269, 396]) (c := 1) (Ev.loc (i := 0))) (Ev.bin (Ev.attr (Cs := [269, 396]) (c := 1) (Ev.loc (i := 0))) (Ev.callB Ev.bltn (EvA.cons (Ev.loc (i := 1)) EvA.nil) op_len1) op_add)) (Ev.loc (i := 1)) op_eq))
  EvB.nil)⟩
def R336 : {f : FF // FnR 336 5 f} := ⟨_, FnR.mk (addr := 336) (D := 4) (n := 2) (ns := ["self", "why"]) (init := initM [] 0) (fun P => rfl) (fun P => by kernel_rfl)
 (by exact BindOk.mk ["self", "why"] [] [] [] 0)
 (EvB.cons (EvS.raise (Ev.glob (v := .ref 58)) (EvA.cons (Ev.loc (i := 1)) (EvA.cons (Ev.attr (Cs := [269, 116, 144, 396]) (c := 2) (Ev.loc (i := 0))) (EvA.cons (Ev.attr (Cs := [269, 116, 144, 396]) (c := 3) (Ev.loc (i := 0))) EvA.nil))) (by decide) (fun P => by kernel_rfl) (fun P => by kernel_rfl) (fun P => by kernel_rfl))
  EvB.nil)⟩
def R344x1 : {f : FF // FnR 344 3 f} := ⟨_, FnR.mk (addr := 344) (D := 2) (n := 1) (ns := ["self", "many", "turn", "sign"]) (init := initM [.int 1] 2) (fun P => rfl) (fun P => by kernel_rfl)
 (by exact BindOk.mk ["self", "many"] ["turn", "sign"] [.int 1] [.int 1 649] 2 (fun w s Vs X h => by obtain ⟨a0, rfl⟩ := len1 h; exact binds_K X rfl rfl rfl rfl rfl) (fun _ _ => .cons (.int) (.nil)))
 (EvB.cons (EvS.for (i := 2) (by kernel_rfl) (by kernel_rfl) rfl (src_range Ev.bltn (Ev.loc (i := 1))) (EvB.cons (EvS.assign (i := 3) (Ev.item (Ev.attr (Cs := [116, 396]) (c := 5) (Ev.loc (i := 0))) (Ev.attr (Cs := [269, 396]) (c := 1) (Ev.loc (i := 0)))))
  (EvB.cons (Ev.assignAttr (Cs := [269, 396]) (c := 1) (Ev.bin (Ev.attr (Cs := [269, 396]) (c := 1) (Ev.loc (i := 0))) Ev.cint op_add) (Ev.loc (i := 0)))
  (EvB.cons (EvS.if (EvW.t (EvW.or (EvT.cmp (Ev.loc (i := 3)) (Ev.cstr (xs := [10])) op_eq) (EvW.or (EvW.t (EvW.and (EvT.cmp (Ev.loc (i := 3)) (Ev.cstr (xs := [13])) op_eq) (EvW.and (EvT.cmp (Ev.meth (C := 396) (Ev.loc (i := 0)) EvA.nil R322.2 (pl := _)) (Ev.cstr (xs := [10])) op_ne) EvW.andNil))) EvW.orNil))) (EvB.cons (Ev.assignAttr (Cs := [269, 116, 144, 396]) (c := 2) (Ev.bin (Ev.attr (Cs := [269, 116, 144, 396]) (c := 2) (Ev.loc (i := 0))) Ev.cint op_add) (Ev.loc (i := 0)))
  (EvB.cons (Ev.assignAttr (Cs := [269, 116, 144, 396]) (c := 3) Ev.cint (Ev.loc (i := 0)))
  EvB.nil)) (EvB.cons (Ev.assignAttr (Cs := [269, 116, 144, 396]) (c := 3) (Ev.bin (Ev.attr (Cs := [269, 116, 144, 396]) (c := 3) (Ev.loc (i := 0))) Ev.cint op_add) (Ev.loc (i := 0)))
  EvB.nil))
  EvB.nil))))
  EvB.nil)⟩
def R287 : {f : FF // FnR 287 2 f} := ⟨_, FnR.mk (addr := 287) (D := 1) (n := 2) (ns := ["text", "base", "digits", "found", "was_digit", "sign"]) (init := initM [] 4) (fun P => rfl) (fun P => by kernel_rfl)
 (by exact BindOk.mk ["text", "base"] ["digits", "found", "was_digit", "sign"] [] [] 4)
 (EvB.cons (EvS.unpack (names := ["digits", "found", "was_digit"]) (is := [2, 3, 4]) (Ev.tup (EvA.cons (Ev.ifexp (EvT.cmp (Ev.loc (i := 1)) Ev.cint op_eq) (Ev.globS (X := "0123456789abcdefABCDEF") (t := 311) (xs := [48, 49, 50, 51, 52, 53, 54, 55, 56, 57, 97, 98, 99, 100, 101, 102, 65, 66, 67, 68, 69, 70]) (fun P => by kernel_rfl) (by decide +kernel) (by kernel_rfl) (by kernel_rfl)) (Ev.globS (X := "0123456789") (t := 309) (xs := [48, 49, 50, 51, 52, 53, 54, 55, 56, 57]) (fun P => by kernel_rfl) (by decide +kernel) (by kernel_rfl) (by kernel_rfl))) (EvA.cons Ev.cint (EvA.cons Ev.cbool EvA.nil)))) rfl (by decide +kernel) (fun _ => rfl) (fun g hg => by obtain ⟨⟩ := g; subst hg; rfl))
  (EvB.cons (EvS.for (i := 5) (by kernel_rfl) (by kernel_rfl) rfl (src_str (Ev.loc (i := 0))) (EvB.cons (EvS.if (EvT.cmp (Ev.loc (i := 5)) (Ev.cstr (xs := [95])) op_eq) (EvB.cons (EvS.if (Ev.isNot (EvT.plain (Ev.loc (i := 4)))) (EvB.cons (EvS.ret Ev.cnone)
  EvB.nil) EvB.nil)
  (EvB.cons (EvS.assign (i := 4) Ev.cbool)
  EvB.nil)) (EvB.cons (EvS.if (EvT.cmp (Ev.loc (i := 5)) (Ev.loc (i := 2)) op_inS) (EvB.cons (EvS.assign (i := 3) (Ev.bin (Ev.bin (Ev.loc (i := 3)) (Ev.loc (i := 1)) op_mul) (Ev.strMeth1 (Ev.globS (X := "0123456789abcdefABCDEF") (t := 311) (xs := [48, 49, 50, 51, 52, 53, 54, 55, 56, 57, 97, 98, 99, 100, 101, 102, 65, 66, 67, 68, 69, 70]) (fun P => by kernel_rfl) (by decide +kernel) (by kernel_rfl) (by kernel_rfl)) (EvA.cons (Ev.strMeth0 (Ev.loc (i := 5)) sm_lower op_lower _) EvA.nil) sm_index op_index _) op_add))
  (EvB.cons (EvS.assign (i := 4) Ev.cbool)
  EvB.nil)) (EvB.cons (EvS.ret Ev.cnone)
  EvB.nil))
  EvB.nil))
  EvB.nil))
  (EvB.cons (EvS.ret (Ev.ifexp (EvT.plain (Ev.loc (i := 4))) (Ev.loc (i := 3)) Ev.cnone))
  EvB.nil)))⟩
def R294 : {f : FF // FnR 294 3 f} := ⟨_, FnR.mk (addr := 294) (D := 2) (n := 1) (ns := ["text", "body", "found"]) (init := initM [] 2) (fun P => rfl) (fun P => by kernel_rfl)
 (by exact BindOk.mk ["text"] ["body", "found"] [] [] 2)
 (EvB.cons (EvS.assign (i := 1) (Ev.ifexp (EvT.cmp (Ev.sliceToS (Ev.loc (i := 0)) Ev.cint) (Ev.tup (EvA.cons (Ev.cstr (xs := [43])) (EvA.cons (Ev.cstr (xs := [45])) EvA.nil))) (op_inT (by decide))) (Ev.sliceFromS (Ev.loc (i := 0)) Ev.cint) (Ev.loc (i := 0))))
  (EvB.cons (EvS.assign (i := 2) (Ev.ifexp (EvT.cmp (Ev.sliceToS (Ev.loc (i := 1)) Ev.cint) (Ev.cstr (xs := [48, 120])) op_eq) (Ev.call (Ev.glob (v := .ref 287)) (EvA.cons (Ev.sliceFromS (Ev.loc (i := 1)) Ev.cint) (EvA.cons Ev.cint EvA.nil)) R287.2) (Ev.call (Ev.glob (v := .ref 287)) (EvA.cons (Ev.loc (i := 1)) (EvA.cons Ev.cint EvA.nil)) R287.2)))
  (EvB.cons (EvS.ret (Ev.ifexp (EvT.cmp (Ev.loc (i := 2)) Ev.cnone op_is) Ev.cnone (Ev.ifexp (EvT.cmp (Ev.sliceToS (Ev.loc (i := 0)) Ev.cint) (Ev.cstr (xs := [45])) op_eq) (Ev.neg (Ev.loc (i := 2))) (Ev.loc (i := 2)))))
  EvB.nil)))⟩
def R301 : {f : FF // FnR 301 4 f} := ⟨_, FnR.mk (addr := 301) (D := 3) (n := 1) (ns := ["text", "number"]) (init := initM [] 1) (fun P => rfl) (fun P => by kernel_rfl)
 (by exact BindOk.mk ["text"] ["number"] [] [] 1)
 (EvB.cons (EvS.assign (i := 1) (Ev.call (Ev.glob (v := .ref 294)) (EvA.cons (Ev.loc (i := 0)) EvA.nil) R294.2))
  (EvB.cons (EvS.if (EvT.cmp (Ev.loc (i := 1)) Ev.cnone op_isnot) (EvB.cons (EvS.ret (Ev.tup (EvA.cons (Ev.cstr (xs := [105, 110, 116])) (EvA.cons (Ev.loc (i := 1)) EvA.nil))))
  EvB.nil) EvB.nil)
  (EvB.cons (EvS.if (EvW.t (EvW.and (EvT.cmp (Ev.item (Ev.loc (i := 0)) Ev.cint) (Ev.cstr (xs := [36])) op_eq) (EvW.and (EvT.cmp (Ev.callB Ev.bltn (EvA.cons (Ev.loc (i := 0)) EvA.nil) op_len1) Ev.cint op_gt) EvW.andNil))) (EvB.cons (EvS.ret (Ev.tup (EvA.cons (Ev.cstr (xs := [105, 100])) (EvA.cons (Ev.loc (i := 0)) EvA.nil))))
  EvB.nil) EvB.nil)
  (EvB.cons (EvS.if (EvT.cmp (Ev.item (Ev.loc (i := 0)) Ev.cint) (Ev.globS (X := "abcdefghijklmnopqrstuvwxyz") (t := 313) (xs := [97, 98, 99, 100, 101, 102, 103, 104, 105, 106, 107, 108, 109, 110, 111, 112, 113, 114, 115, 116, 117, 118, 119, 120, 121, 122]) (fun P => by kernel_rfl) (by decide +kernel) (by kernel_rfl) (by kernel_rfl)) op_inS) (EvB.cons (EvS.ret (Ev.tup (EvA.cons (Ev.cstr (xs := [119, 111, 114, 100])) (EvA.cons (Ev.loc (i := 0)) EvA.nil))))
  EvB.nil) EvB.nil)
  (EvB.cons (EvS.ret (Ev.tup (EvA.cons (Ev.cstr (xs := [114, 101, 115, 101, 114, 118, 101, 100])) (EvA.cons (Ev.loc (i := 0)) EvA.nil))))
  EvB.nil)))))⟩
def R386 : {f : FF // FnR 386 5 f} := ⟨_, FnR.mk (addr := 386) (D := 4) (n := 1) (ns := ["self", "begin", "row", "column", "octets", "strings", "is_string", "text", "sort", "value"]) (init := initM [] 9) (fun P => rfl) (fun P => by kernel_rfl)
 (by exact BindOk.mk ["self"] ["begin", "row", "column", "octets", "strings", "is_string", "text", "sort", "value"] [] [] 9)
 (EvB.cons (EvS.unpackF (nps := [("begin", ⟨249, 8, 249, 13⟩), ("row", ⟨249, 15, 249, 18⟩), ("column", ⟨249, 20, 249, 26⟩), ("octets", ⟨249, 28, 249, 34⟩), ("strings", ⟨249, 36, 249, 43⟩)]) (is := [1, 2, 3, 4, 5]) (Ev.tup (EvA.cons (Ev.attr (Cs := [269, 396]) (c := 1) (Ev.loc (i := 0))) (EvA.cons (Ev.attr (Cs := [269, 116, 144, 396]) (c := 2) (Ev.loc (i := 0))) (EvA.cons (Ev.attr (Cs := [269, 116, 144, 396]) (c := 3) (Ev.loc (i := 0))) (EvA.cons Ev.cbytes (EvA.cons Ev.cint EvA.nil)))))) rfl (by decide +kernel) (fun _ => rfl) (fun _ => rfl) (fun _ => rfl) (fun _ => rfl))
  (EvB.cons (EvS.while (EvW.t (EvW.and (EvT.cmp (Ev.meth (C := 396) (Ev.loc (i := 0)) EvA.nil R322.2 (pl := _)) (Ev.cstr (xs := [])) op_ne) (EvW.and (EvW.t (EvW.or (EvT.cmp (Ev.meth (C := 396) (Ev.loc (i := 0)) EvA.nil R322.2 (pl := _)) (Ev.cstr (xs := [34])) op_eq) (EvW.or (EvT.cmp (Ev.meth (C := 396) (Ev.loc (i := 0)) EvA.nil R322.2 (pl := _)) (Ev.globS (X := "0123456789abcdefghijklmnopqrstuvwxyzABCDEFGHIJKLMNOPQRSTUVWXYZ!#$%&'*+-./:<=>?@\\^_`|~") (t := 320) (xs := [48, 49, 50, 51, 52, 53, 54, 55, 56, 57, 97, 98, 99, 100, 101, 102, 103, 104, 105, 106, 107, 108, 109, 110, 111, 112, 113, 114, 115, 116, 117, 118, 119, 120, 121, 122, 65, 66, 67, 68, 69, 70, 71, 72, 73, 74, 75, 76, 77, 78, 79, 80, 81, 82, 83, 84, 85, 86, 87, 88, 89, 90, 33, 35, 36, 37, 38, 39, 42, 43, 45, 46, 47, 58, 60, 61, 62, 63, 64, 92, 94, 95, 96, 124, 126]) (fun P => by kernel_rfl) (by decide +kernel) (by kernel_rfl) (by kernel_rfl)) op_inS) EvW.orNil))) EvW.andNil))) (EvB.cons (EvS.if (EvT.cmp (Ev.meth (C := 396) (Ev.loc (i := 0)) EvA.nil R322.2 (pl := _)) (Ev.cstr (xs := [34])) op_eq) (EvB.cons EvS.no (EvB.cons EvS.no EvB.nil)) (EvB.cons (EvS.expr (Ev.meth (C := 396) (Ev.loc (i := 0)) EvA.nil R344x1.2 (pl := _)))
  (EvB.cons (EvS.assign (i := 6) Ev.cbool)
  EvB.nil)))
  EvB.nil) rfl 400)
  (EvB.cons (EvS.assign (i := 7) (Ev.sliceMidS (Ev.attr (Cs := [116, 396]) (c := 5) (Ev.loc (i := 0))) (Ev.loc (i := 1)) (Ev.attr (Cs := [269, 396]) (c := 1) (Ev.loc (i := 0)))))
  (EvB.cons (EvS.unpack2 (i := 8) (j := 9) (Ev.ifexp (EvW.t (EvW.and (EvT.cmp (Ev.loc (i := 5)) Ev.cint op_eq) (EvW.and (EvT.plain (Ev.loc (i := 6))) EvW.andNil))) (Ev.tup (EvA.cons (Ev.cstr (xs := [115, 116, 114, 105, 110, 103])) (EvA.cons (Ev.loc (i := 4)) EvA.nil))) (Ev.tup (EvA.cons (Ev.cstr (xs := [114, 101, 115, 101, 114, 118, 101, 100])) (EvA.cons (Ev.loc (i := 7)) EvA.nil)))) (by kernel_rfl) (by kernel_rfl) (by kernel_rfl) (by kernel_rfl) (fun _ => rfl) (fun _ => rfl))
  (EvB.cons (EvS.if (EvT.cmp (Ev.loc (i := 5)) Ev.cint op_eq) (EvB.cons (EvS.unpack2 (i := 8) (j := 9) (Ev.call (Ev.glob (v := .ref 301)) (EvA.cons (Ev.loc (i := 7)) EvA.nil) R301.2) (by kernel_rfl) (by kernel_rfl) (by kernel_rfl) (by kernel_rfl) (fun _ => rfl) (fun _ => rfl))
  EvB.nil) (EvB.cons (EvS.if (EvW.t (EvW.and (EvT.cmp (Ev.loc (i := 8)) (Ev.cstr (xs := [115, 116, 114, 105, 110, 103])) op_eq) (EvW.and (EvT.cmp (Ev.item (Ev.loc (i := 7)) Ev.cint) (Ev.cstr (xs := [34])) op_ne) EvW.andNil))) (EvB.cons (EvS.unpack (names := ["sort", "value"]) (is := [8, 9]) (Ev.tup (EvA.cons (Ev.cstr (xs := [114, 101, 115, 101, 114, 118, 101, 100])) (EvA.cons (Ev.loc (i := 7)) EvA.nil))) rfl (by decide +kernel) (fun _ => rfl) (fun g hg => by obtain ⟨⟩ := g; subst hg; rfl))
  EvB.nil) EvB.nil)
  EvB.nil))
  (EvB.cons (EvS.expr (Ev.listMeth (Ev.attr (Cs := [396]) (c := 11) (Ev.loc (i := 0))) (EvA.cons (Ev.frz (Ev.new (Ev.glob (v := .ref 116)) (EvA.cons (Ev.loc (i := 8)) (EvA.cons (Ev.loc (i := 7)) (EvA.cons (Ev.loc (i := 9)) (EvA.cons (Ev.loc (i := 2)) (EvA.cons (Ev.loc (i := 3)) EvA.nil))))) R113.2)) EvA.nil) PySem.F.slot_list_append PySem.F.type_list_append op_append _))
  EvB.nil))))))⟩
def R393 : {f : FF // FnR 393 6 f} := ⟨_, FnR.mk (addr := 393) (D := 5) (n := 1) (ns := ["self", "sign"]) (init := initM [] 1) (fun P => rfl) (fun P => by kernel_rfl)
 (by exact BindOk.mk ["self"] ["sign"] [] [] 1)
 (EvB.cons (EvS.while (EvT.cmp (Ev.attr (Cs := [269, 396]) (c := 1) (Ev.loc (i := 0))) (Ev.callB Ev.bltn (EvA.cons (Ev.attr (Cs := [116, 396]) (c := 5) (Ev.loc (i := 0))) EvA.nil) op_len1) op_lt) (EvB.cons (EvS.assign (i := 1) (Ev.meth (C := 396) (Ev.loc (i := 0)) EvA.nil R322.2 (pl := _)))
  (EvB.cons (EvS.if (EvT.cmp (Ev.loc (i := 1)) (Ev.globS (X := " \t\n\x0d") (t := 324) (xs := [32, 9, 10, 13]) (fun P => by kernel_rfl) (by decide +kernel) (by kernel_rfl) (by kernel_rfl)) op_inS) (EvB.cons (EvS.expr (Ev.meth (C := 396) (Ev.loc (i := 0)) EvA.nil R344x1.2 (pl := _)))
  EvB.nil) (EvB.cons (EvS.if (EvT.plain (Ev.meth (C := 396) (Ev.loc (i := 0)) (EvA.cons (Ev.cstr (xs := [59, 59])) EvA.nil) R329.2 (pl := _))) (EvB.cons EvS.no
  EvB.nil) (EvB.cons (EvS.if (EvT.plain (Ev.meth (C := 396) (Ev.loc (i := 0)) (EvA.cons (Ev.cstr (xs := [40, 59])) EvA.nil) R329.2 (pl := _))) (EvB.cons EvS.no
  EvB.nil) (EvB.cons (EvS.if (EvT.cmp (Ev.loc (i := 1)) (Ev.cstr (xs := [40, 41])) op_inS) (EvB.cons (EvS.expr (Ev.listMeth (Ev.attr (Cs := [396]) (c := 11) (Ev.loc (i := 0))) (EvA.cons (Ev.frz (Ev.new (Ev.glob (v := .ref 116)) (EvA.cons (Ev.loc (i := 1)) (EvA.cons (Ev.loc (i := 1)) (EvA.cons (Ev.loc (i := 1)) (EvA.cons (Ev.attr (Cs := [269, 116, 144, 396]) (c := 2) (Ev.loc (i := 0))) (EvA.cons (Ev.attr (Cs := [269, 116, 144, 396]) (c := 3) (Ev.loc (i := 0))) EvA.nil))))) R113.2)) EvA.nil) PySem.F.slot_list_append PySem.F.type_list_append op_append _))
  (EvB.cons (EvS.expr (Ev.meth (C := 396) (Ev.loc (i := 0)) EvA.nil R344x1.2 (pl := _)))
  EvB.nil)) (EvB.cons (EvS.if (EvT.cmp (Ev.loc (i := 1)) (Ev.globS (X := ",;[]{}") (t := 322) (xs := [44, 59, 91, 93, 123, 125]) (fun P => by kernel_rfl) (by decide +kernel) (by kernel_rfl) (by kernel_rfl)) op_inS) (EvB.cons (EvS.expr (Ev.listMeth (Ev.attr (Cs := [396]) (c := 11) (Ev.loc (i := 0))) (EvA.cons (Ev.frz (Ev.new (Ev.glob (v := .ref 116)) (EvA.cons (Ev.cstr (xs := [114, 101, 115, 101, 114, 118, 101, 100])) (EvA.cons (Ev.loc (i := 1)) (EvA.cons (Ev.loc (i := 1)) (EvA.cons (Ev.attr (Cs := [269, 116, 144, 396]) (c := 2) (Ev.loc (i := 0))) (EvA.cons (Ev.attr (Cs := [269, 116, 144, 396]) (c := 3) (Ev.loc (i := 0))) EvA.nil))))) R113.2)) EvA.nil) PySem.F.slot_list_append PySem.F.type_list_append op_append _))
  (EvB.cons (EvS.expr (Ev.meth (C := 396) (Ev.loc (i := 0)) EvA.nil R344x1.2 (pl := _)))
  EvB.nil)) (EvB.cons (EvS.if (EvW.t (EvW.or (EvT.cmp (Ev.loc (i := 1)) (Ev.cstr (xs := [34])) op_eq) (EvW.or (EvT.cmp (Ev.loc (i := 1)) (Ev.globS (X := "0123456789abcdefghijklmnopqrstuvwxyzABCDEFGHIJKLMNOPQRSTUVWXYZ!#$%&'*+-./:<=>?@\\^_`|~") (t := 320) (xs := [48, 49, 50, 51, 52, 53, 54, 55, 56, 57, 97, 98, 99, 100, 101, 102, 103, 104, 105, 106, 107, 108, 109, 110, 111, 112, 113, 114, 115, 116, 117, 118, 119, 120, 121, 122, 65, 66, 67, 68, 69, 70, 71, 72, 73, 74, 75, 76, 77, 78, 79, 80, 81, 82, 83, 84, 85, 86, 87, 88, 89, 90, 33, 35, 36, 37, 38, 39, 42, 43, 45, 46, 47, 58, 60, 61, 62, 63, 64, 92, 94, 95, 96, 124, 126]) (fun P => by kernel_rfl) (by decide +kernel) (by kernel_rfl) (by kernel_rfl)) op_inS) EvW.orNil))) (EvB.cons (EvS.expr (Ev.meth (C := 396) (Ev.loc (i := 0)) EvA.nil R386.2 (pl := _)))
  EvB.nil) (EvB.cons (EvS.expr (Ev.meth (C := 396) (Ev.loc (i := 0)) (EvA.cons (Ev.cstr (xs := [105, 108, 108, 101, 103, 97, 108, 32, 99, 104, 97, 114, 97, 99, 116, 101, 114])) EvA.nil) R336.2 (pl := _)))
  EvB.nil))
  EvB.nil))
  EvB.nil))
  EvB.nil))
  EvB.nil))
  EvB.nil))
  EvB.nil)) rfl 400)
  (EvB.cons (EvS.ret (Ev.attr (Cs := [396]) (c := 11) (Ev.loc (i := 0))))
  EvB.nil))⟩
def R407 : {f : FF // FnR 407 7 f} := ⟨_, FnR.mk (addr := 407) (D := 6) (n := 1) (ns := ["text"]) (init := initM [] 0) (fun P => rfl) (fun P => by kernel_rfl)
 (by exact BindOk.mk ["text"] [] [] [] 0)
 (EvB.cons (EvS.ret (Ev.frz (Ev.meth (C := 396) (Ev.new (Ev.glob (v := .ref 396)) (EvA.cons (Ev.loc (i := 0)) EvA.nil) R315.2) EvA.nil R393.2 (pl := _))))
  EvB.nil)⟩
def R185 : {f : FF // FnR 185 2 f} := ⟨_, FnR.mk (addr := 185) (D := 1) (n := 1) (ns := ["self"]) (init := initM [] 0) (fun P => rfl) (fun P => by kernel_rfl)
 (by exact BindOk.mk ["self"] [] [] [] 0)
 (EvB.cons (EvS.ret (Ev.cmp (Ev.attr (Cs := [269, 396]) (c := 1) (Ev.loc (i := 0))) (Ev.callB Ev.bltn (EvA.cons (Ev.attr (Cs := [269, 144]) (c := 0) (Ev.loc (i := 0))) EvA.nil) op_len1) op_eq))
  EvB.nil)⟩
def R192 : {f : FF // FnR 192 3 f} := ⟨_, FnR.mk (addr := 192) (D := 2) (n := 1) (ns := ["self"]) (init := initM [] 0) (fun P => rfl) (fun P => by kernel_rfl)
 (by exact BindOk.mk ["self"] [] [] [] 0)
 (EvB.cons (EvS.ret (Ev.ifexp (EvT.plain (Ev.meth (C := 269) (Ev.loc (i := 0)) EvA.nil R185.2 (pl := _))) Ev.cnone (Ev.item (Ev.attr (Cs := [269, 144]) (c := 0) (Ev.loc (i := 0))) (Ev.attr (Cs := [269, 396]) (c := 1) (Ev.loc (i := 0))))))
  EvB.nil)⟩
def R216x1 : {f : FF // FnR 216 5 f} := ⟨_, FnR.mk (addr := 216) (D := 4) (n := 1) (ns := ["self", "why", "item"]) (init := initM [.str [117, 110, 101, 120, 112, 101, 99, 116, 101, 100, 32, 116, 111, 107, 101, 110]] 1) (fun P => rfl) (fun P => by kernel_rfl)
 (by exact BindOk.mk ["self", "why"] ["item"] [.str [117, 110, 101, 120, 112, 101, 99, 116, 101, 100, 32, 116, 111, 107, 101, 110]] [.str (Str.ofString "unexpected token") 495] 1 (fun w s Vs X h => by obtain ⟨a0, rfl⟩ := len1 h; exact binds_K X rfl rfl rfl rfl rfl) (fun _ _ => .cons (VR.strE (by decide +kernel)) (.nil)))
 (EvB.cons (EvS.assign (i := 2) (Ev.meth (C := 269) (Ev.loc (i := 0)) EvA.nil R192.2 (pl := _)))
  (EvB.cons (EvS.if (EvT.cmp (Ev.loc (i := 2)) Ev.cnone op_is) (EvB.cons (EvS.raise (Ev.glob (v := .ref 58)) (EvA.cons (Ev.loc (i := 1)) (EvA.cons (Ev.attr (Cs := [269, 116, 144, 396]) (c := 2) (Ev.loc (i := 0))) (EvA.cons (Ev.attr (Cs := [269, 116, 144, 396]) (c := 3) (Ev.loc (i := 0))) EvA.nil))) (by decide) (fun P => by kernel_rfl) (fun P => by kernel_rfl) (fun P => by kernel_rfl))
  EvB.nil) EvB.nil)
  (EvB.cons (EvS.raise (Ev.glob (v := .ref 58)) (EvA.cons (Ev.loc (i := 1)) (EvA.cons (Ev.attr (Cs := [269, 116, 144, 396]) (c := 2) (Ev.loc (i := 2))) (EvA.cons (Ev.attr (Cs := [269, 116, 144, 396]) (c := 3) (Ev.loc (i := 2))) EvA.nil))) (by decide) (fun P => by kernel_rfl) (fun P => by kernel_rfl) (fun P => by kernel_rfl))
  EvB.nil)))⟩
def R223 : {f : FF // FnR 223 6 f} := ⟨_, FnR.mk (addr := 223) (D := 5) (n := 1) (ns := ["self"]) (init := initM [] 0) (fun P => rfl) (fun P => by kernel_rfl)
 (by exact BindOk.mk ["self"] [] [] [] 0)
 (EvB.cons (EvS.if (EvT.plain (Ev.meth (C := 269) (Ev.loc (i := 0)) EvA.nil R185.2 (pl := _))) (EvB.cons (EvS.expr (Ev.meth (C := 269) (Ev.loc (i := 0)) EvA.nil R216x1.2 (pl := _)))
  EvB.nil) EvB.nil)
  (EvB.cons (Ev.assignAttr (Cs := [269, 396]) (c := 1) (Ev.bin (Ev.attr (Cs := [269, 396]) (c := 1) (Ev.loc (i := 0))) Ev.cint op_add) (Ev.loc (i := 0)))
  (EvB.cons (EvS.ret (Ev.item (Ev.attr (Cs := [269, 144]) (c := 0) (Ev.loc (i := 0))) (Ev.bin (Ev.attr (Cs := [269, 396]) (c := 1) (Ev.loc (i := 0))) Ev.cint op_sub)))
  EvB.nil)))⟩
def R164 : {f : FF // FnR 164 2 f} := ⟨_, FnR.mk (addr := 164) (D := 1) (n := 3) (ns := ["item", "sort", "text"]) (init := initM [] 0) (fun P => rfl) (fun P => by kernel_rfl)
 (by exact BindOk.mk ["item", "sort", "text"] [] [] [] 0 (fun w s Vs X h => by refine ee31 (len3 h) fun a0 a1 a2 qe3 => ?_; subst qe3; exact binds_K X rfl rfl rfl rfl rfl) (fun _ _ => .nil))
 (EvB.cons (EvS.ret (Ev.and (Ev.callB Ev.bltn (EvA.cons (Ev.loc (i := 0)) (EvA.cons (Ev.glob (v := .ref 116)) EvA.nil)) op_isin) (Ev.and (Ev.cmp (Ev.attr (Cs := [116]) (c := 4) (Ev.loc (i := 0))) (Ev.loc (i := 1)) op_eq) (Ev.one (Ev.or (Ev.cmp (Ev.loc (i := 2)) Ev.cnone op_is) (Ev.one (Ev.cmp (Ev.attr (Cs := [116, 396]) (c := 5) (Ev.loc (i := 0))) (Ev.loc (i := 2)) op_eq)))))))
  EvB.nil)⟩
def R208x2 : {f : FF // FnR 208 4 f} := ⟨_, FnR.mk (addr := 208) (D := 3) (n := 2) (ns := ["self", "sort", "text"]) (init := initM [.none] 0) (fun P => rfl) (fun P => by kernel_rfl)
 (by exact BindOk.mk ["self", "sort", "text"] [] [.none] [.none] 0 (fun w s Vs X h => by refine ee21 (len2 h) fun a0 a1 qe2 => ?_; subst qe2; exact binds_K X rfl rfl rfl rfl rfl) (fun _ _ => .cons (.none) (.nil)))
 (EvB.cons (EvS.ret (Ev.call (Ev.glob (v := .ref 164)) (EvA.cons (Ev.meth (C := 269) (Ev.loc (i := 0)) EvA.nil R192.2 (pl := _)) (EvA.cons (Ev.loc (i := 1)) (EvA.cons (Ev.loc (i := 2)) EvA.nil))) R164.2))
  EvB.nil)⟩
def R245 : {f : FF // FnR 245 7 f} := ⟨_, FnR.mk (addr := 245) (D := 6) (n := 1) (ns := ["self"]) (init := initM [] 0) (fun P => rfl) (fun P => by kernel_rfl)
 (by exact BindOk.mk ["self"] [] [] [] 0)
 (EvB.cons (EvS.ret (Ev.ifexp (EvT.plain (Ev.meth (C := 269) (Ev.loc (i := 0)) (EvA.cons (Ev.cstr (xs := [105, 100])) EvA.nil) R208x2.2 (pl := _))) (Ev.meth (C := 269) (Ev.loc (i := 0)) EvA.nil R223.2 (pl := _)) Ev.cnone))
  EvB.nil)⟩
def R259 : {f : FF // FnR 259 2 f} := ⟨_, FnR.mk (addr := 259) (D := 1) (n := 1) (ns := ["self", "found"]) (init := initM [] 1) (fun P => rfl) (fun P => by kernel_rfl)
 (by exact BindOk.mk ["self"] ["found"] [] [] 1)
 (EvB.cons (EvS.assign (i := 1) (Ev.sliceFrom (Ev.attr (Cs := [269, 144]) (c := 0) (Ev.loc (i := 0))) (Ev.attr (Cs := [269, 396]) (c := 1) (Ev.loc (i := 0)))))
  (EvB.cons (Ev.assignAttr (Cs := [269, 396]) (c := 1) (Ev.callB Ev.bltn (EvA.cons (Ev.attr (Cs := [269, 144]) (c := 0) (Ev.loc (i := 0))) EvA.nil) op_len1) (Ev.loc (i := 0)))
  (EvB.cons (EvS.ret (Ev.loc (i := 1)))
  EvB.nil)))⟩
def R266 : {f : FF // FnR 266 6 f} := ⟨_, FnR.mk (addr := 266) (D := 5) (n := 1) (ns := ["self"]) (init := initM [] 0) (fun P => rfl) (fun P => by kernel_rfl)
 (by exact BindOk.mk ["self"] [] [] [] 0)
 (EvB.cons (EvS.if (Ev.isNot (EvT.plain (Ev.meth (C := 269) (Ev.loc (i := 0)) EvA.nil R185.2 (pl := _)))) (EvB.cons (EvS.expr (Ev.meth (C := 269) (Ev.loc (i := 0)) EvA.nil R216x1.2 (pl := _)))
  EvB.nil) EvB.nil)
  EvB.nil)⟩
def R178 : {f : FF // FnR 178 2 f} := ⟨_, FnR.mk (addr := 178) (D := 1) (n := 4) (ns := ["self", "items", "row", "column"]) (init := initM [] 0) (fun P => rfl) (fun P => by kernel_rfl)
 (by exact BindOk.mk ["self", "items", "row", "column"] [] [] [] 0)
 (EvB.cons (Ev.assignAttr (Cs := [269, 144]) (c := 0) (Ev.loc (i := 1)) (Ev.loc (i := 0)))
  (EvB.cons (Ev.assignAttr (Cs := [269, 396]) (c := 1) Ev.cint (Ev.loc (i := 0)))
  (EvB.cons (Ev.assignAttr (Cs := [269, 116, 144, 396]) (c := 2) (Ev.loc (i := 2)) (Ev.loc (i := 0)))
  (EvB.cons (Ev.assignAttr (Cs := [269, 116, 144, 396]) (c := 3) (Ev.loc (i := 3)) (Ev.loc (i := 0)))
  EvB.nil))))⟩
def R280 : {f : FF // FnR 280 4 f} := ⟨_, FnR.mk (addr := 280) (D := 3) (n := 1) (ns := ["branch"]) (init := initM [] 0) (fun P => rfl) (fun P => by kernel_rfl)
 (by exact BindOk.mk ["branch"] [] [] [] 0)
 (EvB.cons (EvS.ret (Ev.new (Ev.glob (v := .ref 269)) (EvA.cons (Ev.sliceFrom (Ev.attr (Cs := [269, 144]) (c := 0) (Ev.loc (i := 0))) Ev.cint) (EvA.cons (Ev.attr (Cs := [269, 116, 144, 396]) (c := 2) (Ev.loc (i := 0))) (EvA.cons (Ev.attr (Cs := [269, 116, 144, 396]) (c := 3) (Ev.loc (i := 0))) EvA.nil))) R178.2))
  EvB.nil)⟩
def R444 : {f : FF // FnR 444 5 f} := ⟨_, FnR.mk (addr := 444) (D := 4) (n := 2) (ns := ["why", "item"]) (init := initM [] 0) (fun P => rfl) (fun P => by kernel_rfl)
 (by exact BindOk.mk ["why", "item"] [] [] [] 0)
 (EvB.cons (EvS.if (EvW.t (EvW.and (EvT.cmp (Ev.loc (i := 0)) (Ev.cstr (xs := [117, 110, 101, 120, 112, 101, 99, 116, 101, 100, 32, 116, 111, 107, 101, 110])) op_eq) (EvW.and (Ev.isNot (EvT.plain (Ev.callB Ev.bltn (EvA.cons (Ev.loc (i := 1)) (EvA.cons (Ev.glob (v := .ref 144)) EvA.nil)) op_isin))) (EvW.and (EvT.cmp (Ev.attr (Cs := [116]) (c := 4) (Ev.loc (i := 1))) (Ev.cstr (xs := [114, 101, 115, 101, 114, 118, 101, 100])) op_eq) EvW.andNil)))) (EvB.cons (EvS.raise (Ev.glob (v := .ref 58)) (EvA.cons (Ev.cstr (xs := [117, 110, 107, 110, 111, 119, 110, 32, 111, 112, 101, 114, 97, 116, 111, 114])) (EvA.cons (Ev.attr (Cs := [269, 116, 144, 396]) (c := 2) (Ev.loc (i := 1))) (EvA.cons (Ev.attr (Cs := [269, 116, 144, 396]) (c := 3) (Ev.loc (i := 1))) EvA.nil))) (by decide) (fun P => by kernel_rfl) (fun P => by kernel_rfl) (fun P => by kernel_rfl))
  EvB.nil) EvB.nil)
  (EvB.cons (EvS.raise (Ev.glob (v := .ref 58)) (EvA.cons (Ev.loc (i := 0)) (EvA.cons (Ev.attr (Cs := [269, 116, 144, 396]) (c := 2) (Ev.loc (i := 1))) (EvA.cons (Ev.attr (Cs := [269, 116, 144, 396]) (c := 3) (Ev.loc (i := 1))) EvA.nil))) (by decide) (fun P => by kernel_rfl) (fun P => by kernel_rfl) (fun P => by kernel_rfl))
  EvB.nil))⟩
def R451 : {f : FF // FnR 451 6 f} := ⟨_, FnR.mk (addr := 451) (D := 5) (n := 1) (ns := ["item", "kind"]) (init := initM [] 1) (fun P => rfl) (fun P => by kernel_rfl)
 (by exact BindOk.mk ["item"] ["kind"] [] [] 1)
 (EvB.cons (EvS.if (EvW.t (EvW.or (EvT.plain (Ev.callB Ev.bltn (EvA.cons (Ev.loc (i := 0)) (EvA.cons (Ev.glob (v := .ref 144)) EvA.nil)) op_isin)) (EvW.or (EvT.cmp (Ev.attr (Cs := [116]) (c := 4) (Ev.loc (i := 0))) (Ev.cstr (xs := [119, 111, 114, 100])) op_ne) EvW.orNil))) (EvB.cons (EvS.expr (Ev.call (Ev.glob (v := .ref 444)) (EvA.cons (Ev.cstr (xs := [117, 110, 101, 120, 112, 101, 99, 116, 101, 100, 32, 116, 111, 107, 101, 110])) (EvA.cons (Ev.loc (i := 0)) EvA.nil)) R444.2))
  EvB.nil) EvB.nil)
  (EvB.cons (EvS.if (EvT.plain (Ev.callO (Ev.glob (v := .ref 437)) (EvA.cons (Ev.attr (Cs := [116, 396]) (c := 5) (Ev.loc (i := 0))) EvA.nil) (op_isLeft (by decide)) (fun P => by kernel_rfl))) (EvB.cons EvS.no
  EvB.nil) EvB.nil)
  (EvB.cons (EvS.assign (i := 1) (Ev.callO (Ev.glob (v := .ref 430)) (EvA.cons (Ev.attr (Cs := [116, 396]) (c := 5) (Ev.loc (i := 0))) EvA.nil) (op_kindOf (by decide)) (fun P => by kernel_rfl)))
  (EvB.cons (EvS.if (EvT.cmp (Ev.loc (i := 1)) Ev.cnone op_is) (EvB.cons (EvS.expr (Ev.call (Ev.glob (v := .ref 444)) (EvA.cons (Ev.cstr (xs := [117, 110, 101, 120, 112, 101, 99, 116, 101, 100, 32, 116, 111, 107, 101, 110])) (EvA.cons (Ev.loc (i := 0)) EvA.nil)) R444.2))
  EvB.nil) EvB.nil)
  (EvB.cons (EvS.ret (Ev.loc (i := 1)))
  EvB.nil)))))⟩
def R458 : {f : FF // FnR 458 8 f} := ⟨_, FnR.mk (addr := 458) (D := 7) (n := 3) (ns := ["branch", "ids", "many", "inner", "token", "kind"]) (init := initM [] 3) (fun P => rfl) (fun P => by kernel_rfl)
 (by exact BindOk.mk ["branch", "ids", "many"] ["inner", "token", "kind"] [] [] 3)
 (EvB.cons (EvS.assign (i := 3) (Ev.call (Ev.glob (v := .ref 280)) (EvA.cons (Ev.loc (i := 0)) EvA.nil) R280.2))
  (EvB.cons (EvS.assign (i := 4) (Ev.meth (C := 269) (Ev.loc (i := 3)) EvA.nil R245.2 (pl := _)))
  (EvB.cons (EvS.if (EvT.cmp (Ev.loc (i := 4)) Ev.cnone op_is) (EvB.cons (EvS.ret (Ev.compF (addr := 451) (Ev.meth (C := 269) (Ev.loc (i := 3)) EvA.nil R259.2 (pl := _)) R451.2 (by decide) (by decide) (by decide) rfl (by decide) (by kernel_rfl) (by kernel_rfl) (fun P => by kernel_rfl) (fun P => by kernel_rfl) (by kernel_rfl) (by kernel_rfl) (fun _ _ _ _ _ _ _ => rfl)))
  EvB.nil) EvB.nil)
  (EvB.cons (EvS.if (EvT.cmp (Ev.loc (i := 1)) Ev.cnone op_isnot) (EvB.cons (EvS.if (EvT.cmp (Ev.attr (Cs := [116, 396]) (c := 5) (Ev.loc (i := 4))) (Ev.loc (i := 1)) (op_inD true) (by kernel_rfl)) (EvB.cons (EvS.raise (Ev.glob (v := .ref 58)) (EvA.cons (Ev.bin (Ev.cstr (xs := [100, 117, 112, 108, 105, 99, 97, 116, 101, 32, 108, 111, 99, 97, 108, 32])) (Ev.attr (Cs := [116, 396]) (c := 5) (Ev.loc (i := 4))) op_add) (EvA.cons (Ev.attr (Cs := [269, 116, 144, 396]) (c := 2) (Ev.loc (i := 4))) (EvA.cons (Ev.attr (Cs := [269, 116, 144, 396]) (c := 3) (Ev.loc (i := 4))) EvA.nil))) (by decide) (fun P => by kernel_rfl) (fun P => by kernel_rfl) (fun P => by kernel_rfl))
  EvB.nil) EvB.nil)
  (EvB.cons (EvS.assignItem (Ev.loc (i := 2)) (Ev.loc (i := 1)) (Ev.attr (Cs := [116, 396]) (c := 5) (Ev.loc (i := 4))))
  EvB.nil)) EvB.nil)
  (EvB.cons (EvS.assign (i := 5) (Ev.call (Ev.glob (v := .ref 451)) (EvA.cons (Ev.meth (C := 269) (Ev.loc (i := 3)) EvA.nil R223.2 (pl := _)) EvA.nil) R451.2))
  (EvB.cons (EvS.expr (Ev.meth (C := 269) (Ev.loc (i := 3)) EvA.nil R266.2 (pl := _)))
  (EvB.cons (EvS.ret (Ev.list (EvA.cons (Ev.loc (i := 5)) EvA.nil)))
  EvB.nil)))))))⟩
def R141 : {f : FF // FnR 141 2 f} := ⟨_, FnR.mk (addr := 141) (D := 1) (n := 1) (ns := ["self", "first"]) (init := initM [] 1) (fun P => rfl) (fun P => by kernel_rfl)
 (by exact BindOk.mk ["self"] ["first"] [] [] 1)
 (EvB.cons (EvS.assign (i := 1) (Ev.ifexp (EvT.cmp (Ev.callB Ev.bltn (EvA.cons (Ev.attr (Cs := [269, 144]) (c := 0) (Ev.loc (i := 0))) EvA.nil) op_len1) Ev.cint op_gt) (Ev.item (Ev.attr (Cs := [269, 144]) (c := 0) (Ev.loc (i := 0))) Ev.cint) Ev.cnone))
  (EvB.cons (EvS.ret (Ev.ifexp (EvW.t (EvW.and (EvT.plain (Ev.callB Ev.bltn (EvA.cons (Ev.loc (i := 1)) (EvA.cons (Ev.glob (v := .ref 116)) EvA.nil)) op_isin)) (EvW.and (EvT.cmp (Ev.attr (Cs := [116]) (c := 4) (Ev.loc (i := 1))) (Ev.cstr (xs := [119, 111, 114, 100])) op_eq) EvW.andNil))) (Ev.attr (Cs := [116, 396]) (c := 5) (Ev.loc (i := 1))) (Ev.cstr (xs := []))))
  EvB.nil))⟩
def R156 : {f : FF // FnR 156 3 f} := ⟨_, FnR.mk (addr := 156) (D := 2) (n := 2) (ns := ["item", "head"]) (init := initM [] 0) (fun P => rfl) (fun P => by kernel_rfl)
 (by exact BindOk.mk ["item", "head"] [] [] [] 0 (fun w s Vs X h => by refine ee21 (len2 h) fun a0 a1 qe2 => ?_; subst qe2; exact binds_K X rfl rfl rfl rfl rfl) (fun _ _ => .nil))
 (EvB.cons (EvS.ret (Ev.and (Ev.callB Ev.bltn (EvA.cons (Ev.loc (i := 0)) (EvA.cons (Ev.glob (v := .ref 144)) EvA.nil)) op_isin) (Ev.one (Ev.or (Ev.cmp (Ev.loc (i := 1)) Ev.cnone op_is) (Ev.one (Ev.cmp (Ev.meth (C := 144) (Ev.loc (i := 0)) EvA.nil R141.2 (pl := _)) (Ev.loc (i := 1)) op_eq))))))
  EvB.nil)⟩
def R200 : {f : FF // FnR 200 4 f} := ⟨_, FnR.mk (addr := 200) (D := 3) (n := 2) (ns := ["self", "head"]) (init := initM [] 0) (fun P => rfl) (fun P => by kernel_rfl)
 (by exact BindOk.mk ["self", "head"] [] [] [] 0 (fun w s Vs X h => by refine ee21 (len2 h) fun a0 a1 qe2 => ?_; subst qe2; exact binds_K X rfl rfl rfl rfl rfl) (fun _ _ => .nil))
 (EvB.cons (EvS.ret (Ev.call (Ev.glob (v := .ref 156)) (EvA.cons (Ev.meth (C := 269) (Ev.loc (i := 0)) EvA.nil R192.2 (pl := _)) (EvA.cons (Ev.loc (i := 1)) EvA.nil)) R156.2))
  EvB.nil)⟩
def R463 : {f : FF // FnR 463 9 f} := ⟨_, FnR.mk (addr := 463) (D := 8) (n := 2) (ns := ["items", "ids", "params", "results"]) (init := initM [] 2) (fun P => rfl) (fun P => by kernel_rfl)
 (by exact BindOk.mk ["items", "ids"] ["params", "results"] [] [] 2)
 (EvB.cons (EvS.unpack (names := ["params", "results"]) (is := [2, 3]) (Ev.tup (EvA.cons (Ev.list EvA.nil) (EvA.cons (Ev.list EvA.nil) EvA.nil))) rfl (by decide +kernel) (fun _ => rfl) (fun g hg => by obtain ⟨⟩ := g; subst hg; rfl))
  (EvB.cons (EvS.while (EvT.plain (Ev.meth (C := 269) (Ev.loc (i := 0)) (EvA.cons (Ev.cstr (xs := [112, 97, 114, 97, 109])) EvA.nil) R200.2 (pl := _))) (EvB.cons (EvS.expr (Ev.listMeth (Ev.loc (i := 2)) (EvA.cons (Ev.call (Ev.glob (v := .ref 458)) (EvA.cons (Ev.meth (C := 269) (Ev.loc (i := 0)) EvA.nil R223.2 (pl := _)) (EvA.cons (Ev.loc (i := 1)) (EvA.cons (Ev.callB Ev.bltn (EvA.cons (Ev.loc (i := 2)) EvA.nil) op_len1) EvA.nil))) R458.2) EvA.nil) PySem.F.slot_list_extend PySem.F.type_list_extend op_extend _))
  EvB.nil) rfl 40)
  (EvB.cons (EvS.while (EvT.plain (Ev.meth (C := 269) (Ev.loc (i := 0)) (EvA.cons (Ev.cstr (xs := [114, 101, 115, 117, 108, 116])) EvA.nil) R200.2 (pl := _))) (EvB.cons (EvS.expr (Ev.listMeth (Ev.loc (i := 3)) (EvA.cons (Ev.compF (addr := 451) (Ev.meth (C := 269) (Ev.call (Ev.glob (v := .ref 280)) (EvA.cons (Ev.meth (C := 269) (Ev.loc (i := 0)) EvA.nil R223.2 (pl := _)) EvA.nil) R280.2) EvA.nil R259.2 (pl := _)) R451.2 (by decide) (by decide) (by decide) rfl (by decide) (by kernel_rfl) (by kernel_rfl) (fun P => by kernel_rfl) (fun P => by kernel_rfl) (by kernel_rfl) (by kernel_rfl) (fun _ _ _ _ _ _ _ => rfl)) EvA.nil) PySem.F.slot_list_extend PySem.F.type_list_extend op_extend _))
  EvB.nil) rfl 40)
  (EvB.cons (EvS.ret (Ev.tup (EvA.cons (Ev.callT Ev.bltn (EvA.cons (Ev.loc (i := 2)) EvA.nil) op_tupOf) (EvA.cons (Ev.callT Ev.bltn (EvA.cons (Ev.loc (i := 3)) EvA.nil) op_tupOf) EvA.nil))))
  EvB.nil))))⟩
def R477 : {f : FF // FnR 477 2 f} := ⟨_, FnR.mk (addr := 477) (D := 1) (n := 1) (ns := ["self", "space"]) (init := initM [] 1) (fun P => rfl) (fun P => by kernel_rfl)
 (by exact BindOk.mk ["self"] ["space"] [] [] 1)
 (EvB.cons (Ev.assignAttr (Cs := [515]) (c := 8) Ev.dict0 (Ev.loc (i := 0)))
  (EvB.cons (Ev.assignAttr (Cs := [515]) (c := 9) Ev.dict0 (Ev.loc (i := 0)))
  (EvB.cons (Ev.assignAttr (Cs := [515]) (c := 10) (Ev.list EvA.nil) (Ev.loc (i := 0)))
  (EvB.cons (EvS.for (i := 1) (by kernel_rfl) (by kernel_rfl) rfl (src_spaces (Ev.glob (v := .ref 452))) (EvB.cons (EvS.assignItem Ev.dict0 (Ev.attr (Cs := [515]) (c := 8) (Ev.loc (i := 0))) (Ev.loc (i := 1)))
  (EvB.cons (EvS.assignItem Ev.cint (Ev.attr (Cs := [515]) (c := 9) (Ev.loc (i := 0))) (Ev.loc (i := 1)))
  EvB.nil)))
  EvB.nil))))⟩
def R484 : {f : FF // FnR 484 5 f} := ⟨_, FnR.mk (addr := 484) (D := 4) (n := 3) (ns := ["self", "space", "token", "number"]) (init := initM [] 1) (fun P => rfl) (fun P => by kernel_rfl)
 (by exact BindOk.mk ["self", "space", "token"] ["number"] [] [] 1)
 (EvB.cons (EvS.assign (i := 3) (Ev.item (Ev.attr (Cs := [515]) (c := 9) (Ev.loc (i := 0))) (Ev.loc (i := 1))))
  (EvB.cons (EvS.if (EvT.cmp (Ev.loc (i := 2)) Ev.cnone op_isnot) (EvB.cons (EvS.if (EvT.cmp (Ev.attr (Cs := [116, 396]) (c := 5) (Ev.loc (i := 2))) (Ev.item (Ev.attr (Cs := [515]) (c := 8) (Ev.loc (i := 0))) (Ev.loc (i := 1))) (op_inD true) (by kernel_rfl)) (EvB.cons (EvS.raise (Ev.glob (v := .ref 58)) (EvA.cons (Ev.bin (Ev.bin (Ev.bin (Ev.cstr (xs := [100, 117, 112, 108, 105, 99, 97, 116, 101, 32])) (Ev.loc (i := 1)) op_add) (Ev.cstr (xs := [32])) op_add) (Ev.attr (Cs := [116, 396]) (c := 5) (Ev.loc (i := 2))) op_add) (EvA.cons (Ev.attr (Cs := [269, 116, 144, 396]) (c := 2) (Ev.loc (i := 2))) (EvA.cons (Ev.attr (Cs := [269, 116, 144, 396]) (c := 3) (Ev.loc (i := 2))) EvA.nil))) (by decide) (fun P => by kernel_rfl) (fun P => by kernel_rfl) (fun P => by kernel_rfl))
  EvB.nil) EvB.nil)
  (EvB.cons (EvS.assignItem (Ev.loc (i := 3)) (Ev.item (Ev.attr (Cs := [515]) (c := 8) (Ev.loc (i := 0))) (Ev.loc (i := 1))) (Ev.attr (Cs := [116, 396]) (c := 5) (Ev.loc (i := 2))))
  EvB.nil)) EvB.nil)
  (EvB.cons (EvS.assignItem (Ev.bin (Ev.loc (i := 3)) Ev.cint op_add) (Ev.attr (Cs := [515]) (c := 9) (Ev.loc (i := 0))) (Ev.loc (i := 1)))
  (EvB.cons (EvS.ret (Ev.loc (i := 3)))
  EvB.nil))))⟩
def R164x2 : {f : FF // FnR 164 2 f} := ⟨_, FnR.mk (addr := 164) (D := 1) (n := 2) (ns := ["item", "sort", "text"]) (init := initM [.none] 0) (fun P => rfl) (fun P => by kernel_rfl)
 (by exact BindOk.mk ["item", "sort", "text"] [] [.none] [.none] 0 (fun w s Vs X h => by refine ee21 (len2 h) fun a0 a1 qe2 => ?_; subst qe2; exact binds_K X rfl rfl rfl rfl rfl) (fun _ _ => .cons (.none) (.nil)))
 (EvB.cons (EvS.ret (Ev.and (Ev.callB Ev.bltn (EvA.cons (Ev.loc (i := 0)) (EvA.cons (Ev.glob (v := .ref 116)) EvA.nil)) op_isin) (Ev.and (Ev.cmp (Ev.attr (Cs := [116]) (c := 4) (Ev.loc (i := 0))) (Ev.loc (i := 1)) op_eq) (Ev.one (Ev.or (Ev.cmp (Ev.loc (i := 2)) Ev.cnone op_is) (Ev.one (Ev.cmp (Ev.attr (Cs := [116, 396]) (c := 5) (Ev.loc (i := 0))) (Ev.loc (i := 2)) op_eq)))))))
  EvB.nil)⟩
def R421 : {f : FF // FnR 421 5 f} := ⟨_, FnR.mk (addr := 421) (D := 4) (n := 1) (ns := ["token"]) (init := initM [] 0) (fun P => rfl) (fun P => by kernel_rfl)
 (by exact BindOk.mk ["token"] [] [] [] 0)
 (EvB.cons (EvS.if (EvW.t (EvW.or (Ev.isNot (EvT.plain (Ev.call (Ev.glob (v := .ref 164)) (EvA.cons (Ev.loc (i := 0)) (EvA.cons (Ev.cstr (xs := [105, 110, 116])) EvA.nil)) R164x2.2))) (EvW.or (EvT.cmp (Ev.item (Ev.attr (Cs := [116, 396]) (c := 5) (Ev.loc (i := 0))) Ev.cint) (Ev.cstr (xs := [43, 45])) op_inS) EvW.orNil))) (EvB.cons (EvS.raise (Ev.glob (v := .ref 58)) (EvA.cons (Ev.cstr (xs := [117, 110, 101, 120, 112, 101, 99, 116, 101, 100, 32, 116, 111, 107, 101, 110])) (EvA.cons (Ev.attr (Cs := [269, 116, 144, 396]) (c := 2) (Ev.loc (i := 0))) (EvA.cons (Ev.attr (Cs := [269, 116, 144, 396]) (c := 3) (Ev.loc (i := 0))) EvA.nil))) (by decide) (fun P => by kernel_rfl) (fun P => by kernel_rfl) (fun P => by kernel_rfl))
  EvB.nil) EvB.nil)
  (EvB.cons (EvS.if (EvT.cmp (Ev.attr (Cs := [116]) (c := 6) (Ev.loc (i := 0))) (Ev.bin Ev.cint Ev.cint op_pow) op_ge) (EvB.cons (EvS.raise (Ev.glob (v := .ref 58)) (EvA.cons (Ev.cstr (xs := [105, 51, 50, 32, 99, 111, 110, 115, 116, 97, 110, 116, 32, 111, 117, 116, 32, 111, 102, 32, 114, 97, 110, 103, 101])) (EvA.cons (Ev.attr (Cs := [269, 116, 144, 396]) (c := 2) (Ev.loc (i := 0))) (EvA.cons (Ev.attr (Cs := [269, 116, 144, 396]) (c := 3) (Ev.loc (i := 0))) EvA.nil))) (by decide) (fun P => by kernel_rfl) (fun P => by kernel_rfl) (fun P => by kernel_rfl))
  EvB.nil) EvB.nil)
  (EvB.cons (EvS.ret (Ev.attr (Cs := [116]) (c := 6) (Ev.loc (i := 0))))
  EvB.nil)))⟩
def R491 : {f : FF // FnR 491 6 f} := ⟨_, FnR.mk (addr := 491) (D := 5) (n := 3) (ns := ["self", "space", "token"]) (init := initM [] 0) (fun P => rfl) (fun P => by kernel_rfl)
 (by exact BindOk.mk ["self", "space", "token"] [] [] [] 0)
 (EvB.cons (EvS.if (Ev.isNot (EvT.plain (Ev.call (Ev.glob (v := .ref 164)) (EvA.cons (Ev.loc (i := 2)) (EvA.cons (Ev.cstr (xs := [105, 100])) EvA.nil)) R164x2.2))) (EvB.cons (EvS.ret (Ev.call (Ev.glob (v := .ref 421)) (EvA.cons (Ev.loc (i := 2)) EvA.nil) R421.2))
  EvB.nil) EvB.nil)
  (EvB.cons (EvS.if (EvT.cmp (Ev.attr (Cs := [116, 396]) (c := 5) (Ev.loc (i := 2))) (Ev.item (Ev.attr (Cs := [515]) (c := 8) (Ev.loc (i := 0))) (Ev.loc (i := 1))) (op_inD false) (by kernel_rfl)) (EvB.cons (EvS.raise (Ev.glob (v := .ref 58)) (EvA.cons (Ev.bin (Ev.bin (Ev.bin (Ev.cstr (xs := [117, 110, 107, 110, 111, 119, 110, 32])) (Ev.spname (Ev.glob (v := .ref 453)) (Ev.loc (i := 1))) op_add) (Ev.cstr (xs := [32])) op_add) (Ev.attr (Cs := [116, 396]) (c := 5) (Ev.loc (i := 2))) op_add) (EvA.cons (Ev.attr (Cs := [269, 116, 144, 396]) (c := 2) (Ev.loc (i := 2))) (EvA.cons (Ev.attr (Cs := [269, 116, 144, 396]) (c := 3) (Ev.loc (i := 2))) EvA.nil))) (by decide) (fun P => by kernel_rfl) (fun P => by kernel_rfl) (fun P => by kernel_rfl))
  EvB.nil) EvB.nil)
  (EvB.cons (EvS.ret (Ev.item (Ev.item (Ev.attr (Cs := [515]) (c := 8) (Ev.loc (i := 0))) (Ev.loc (i := 1))) (Ev.attr (Cs := [116, 396]) (c := 5) (Ev.loc (i := 2)))))
  EvB.nil)))⟩
def R498 : {f : FF // FnR 498 2 f} := ⟨_, FnR.mk (addr := 498) (D := 1) (n := 2) (ns := ["self", "kind", "number", "other"]) (init := initM [] 2) (fun P => rfl) (fun P => by kernel_rfl)
 (by exact BindOk.mk ["self", "kind"] ["number", "other"] [] [] 2)
 (EvB.cons (EvS.for2 (i := 2) (j := 3) (by kernel_rfl) (by kernel_rfl) (by kernel_rfl) (by kernel_rfl) rfl (src_enum Ev.bltn (Ev.attr (Cs := [515]) (c := 10) (Ev.loc (i := 0)))) (EvB.cons (EvS.if (EvT.cmp (Ev.loc (i := 3)) (Ev.loc (i := 1)) op_eq) (EvB.cons (EvS.ret (Ev.loc (i := 2)))
  EvB.nil) EvB.nil)
  EvB.nil))
  (EvB.cons (EvS.expr (Ev.listMeth (Ev.attr (Cs := [515]) (c := 10) (Ev.loc (i := 0))) (EvA.cons (Ev.loc (i := 1)) EvA.nil) PySem.F.slot_list_append PySem.F.type_list_append op_append _))
  (EvB.cons (EvS.assignItem (Ev.callB Ev.bltn (EvA.cons (Ev.attr (Cs := [515]) (c := 10) (Ev.loc (i := 0))) EvA.nil) op_len1) (Ev.attr (Cs := [515]) (c := 9) (Ev.loc (i := 0))) (Ev.cstr (xs := [116, 121, 112, 101])))
  (EvB.cons (EvS.ret (Ev.bin (Ev.callB Ev.bltn (EvA.cons (Ev.attr (Cs := [515]) (c := 10) (Ev.loc (i := 0))) EvA.nil) op_len1) Ev.cint op_sub))
  EvB.nil))))⟩
def R505 : {f : FF // FnR 505 10 f} := ⟨_, FnR.mk (addr := 505) (D := 9) (n := 3) (ns := ["self", "items", "at", "row", "column", "walk", "ids", "told", "inner", "kind"]) (init := initM [] 7) (fun P => rfl) (fun P => by kernel_rfl)
 (by exact BindOk.mk ["self", "items", "at"] ["row", "column", "walk", "ids", "told", "inner", "kind"] [] [] 7)
 (EvB.cons (EvS.unpack2 (i := 3) (j := 4) (Ev.ifexp (EvT.cmp (Ev.loc (i := 2)) (Ev.callB Ev.bltn (EvA.cons (Ev.loc (i := 1)) EvA.nil) op_len1) op_lt) (Ev.tup (EvA.cons (Ev.attr (Cs := [269, 116, 144, 396]) (c := 2) (Ev.item (Ev.loc (i := 1)) (Ev.loc (i := 2)))) (EvA.cons (Ev.attr (Cs := [269, 116, 144, 396]) (c := 3) (Ev.item (Ev.loc (i := 1)) (Ev.loc (i := 2)))) EvA.nil))) (Ev.tup (EvA.cons Ev.cint (EvA.cons Ev.cint EvA.nil)))) (by kernel_rfl) (by kernel_rfl) (by kernel_rfl) (by kernel_rfl) (fun _ => rfl) (fun _ => rfl))
  (EvB.cons (EvS.unpack (names := ["walk", "ids", "told"]) (is := [5, 6, 7]) (Ev.tup (EvA.cons (Ev.new (Ev.glob (v := .ref 269)) (EvA.cons (Ev.loc (i := 1)) (EvA.cons (Ev.loc (i := 3)) (EvA.cons (Ev.loc (i := 4)) EvA.nil))) R178.2) (EvA.cons Ev.dict0 (EvA.cons Ev.cnone EvA.nil)))) rfl (by decide +kernel) (fun _ => rfl) (fun g hg => by obtain ⟨⟩ := g; subst hg; rfl))
  (EvB.cons (Ev.assignAttr (Cs := [269, 396]) (c := 1) (Ev.loc (i := 2)) (Ev.loc (i := 5)))
  (EvB.cons (EvS.if (EvT.plain (Ev.meth (C := 269) (Ev.loc (i := 5)) (EvA.cons (Ev.cstr (xs := [116, 121, 112, 101])) EvA.nil) R200.2 (pl := _))) (EvB.cons (EvS.assign (i := 8) (Ev.call (Ev.glob (v := .ref 280)) (EvA.cons (Ev.meth (C := 269) (Ev.loc (i := 5)) EvA.nil R223.2 (pl := _)) EvA.nil) R280.2))
  (EvB.cons (EvS.assign (i := 7) (Ev.meth (C := 515) (Ev.loc (i := 0)) (EvA.cons (Ev.cstr (xs := [116, 121, 112, 101])) (EvA.cons (Ev.meth (C := 269) (Ev.loc (i := 8)) EvA.nil R223.2 (pl := _)) EvA.nil)) R491.2 (pl := _)))
  (EvB.cons (EvS.expr (Ev.meth (C := 269) (Ev.loc (i := 8)) EvA.nil R266.2 (pl := _)))
  EvB.nil))) EvB.nil)
  (EvB.cons (EvS.assign (i := 9) (Ev.call (Ev.glob (v := .ref 463)) (EvA.cons (Ev.loc (i := 5)) (EvA.cons (Ev.loc (i := 6)) EvA.nil)) R463.2))
  (EvB.cons (EvS.if (EvT.cmp (Ev.loc (i := 7)) Ev.cnone op_is) (EvB.cons (EvS.ret (Ev.tup (EvA.cons (Ev.meth (C := 515) (Ev.loc (i := 0)) (EvA.cons (Ev.loc (i := 9)) EvA.nil) R498.2 (pl := _)) (EvA.cons (Ev.loc (i := 6)) (EvA.cons (Ev.attr (Cs := [269, 396]) (c := 1) (Ev.loc (i := 5))) EvA.nil)))))
  EvB.nil) EvB.nil)
  (EvB.cons (EvS.if (EvT.cmp (Ev.loc (i := 9)) (Ev.tup (EvA.cons (Ev.tup EvA.nil) (EvA.cons (Ev.tup EvA.nil) EvA.nil))) op_ne) (EvB.cons (EvS.if (EvT.cmp (Ev.loc (i := 7)) (Ev.callB Ev.bltn (EvA.cons (Ev.attr (Cs := [515]) (c := 10) (Ev.loc (i := 0))) EvA.nil) op_len1) op_ge) (EvB.cons (EvS.raise (Ev.glob (v := .ref 58)) (EvA.cons (Ev.bin (Ev.cstr (xs := [117, 110, 107, 110, 111, 119, 110, 32, 116, 121, 112, 101, 32])) (Ev.callT (Ev.bltn (v := .type "str")) (EvA.cons (Ev.loc (i := 7)) EvA.nil) op_strOf) op_add) (EvA.cons (Ev.loc (i := 3)) (EvA.cons (Ev.loc (i := 4)) EvA.nil))) (by decide) (fun P => by kernel_rfl) (fun P => by kernel_rfl) (fun P => by kernel_rfl))
  EvB.nil) EvB.nil)
  (EvB.cons (EvS.if (EvT.cmp (Ev.item (Ev.attr (Cs := [515]) (c := 10) (Ev.loc (i := 0))) (Ev.loc (i := 7))) (Ev.loc (i := 9)) op_ne) (EvB.cons (EvS.raise (Ev.glob (v := .ref 58)) (EvA.cons (Ev.cstr (xs := [105, 110, 108, 105, 110, 101, 32, 102, 117, 110, 99, 116, 105, 111, 110, 32, 116, 121, 112, 101])) (EvA.cons (Ev.loc (i := 3)) (EvA.cons (Ev.loc (i := 4)) EvA.nil))) (by decide) (fun P => by kernel_rfl) (fun P => by kernel_rfl) (fun P => by kernel_rfl))
  EvB.nil) EvB.nil)
  EvB.nil)) EvB.nil)
  (EvB.cons (EvS.ret (Ev.tup (EvA.cons (Ev.loc (i := 7)) (EvA.cons (Ev.loc (i := 6)) (EvA.cons (Ev.attr (Cs := [269, 396]) (c := 1) (Ev.loc (i := 5))) EvA.nil)))))
  EvB.nil))))))))⟩
def R512 : {f : FF // FnR 512 2 f} := ⟨_, FnR.mk (addr := 512) (D := 1) (n := 2) (ns := ["self", "number"]) (init := initM [] 0) (fun P => rfl) (fun P => by kernel_rfl)
 (by exact BindOk.mk ["self", "number"] [] [] [] 0)
 (EvB.cons (EvS.ret (Ev.ifexp (EvT.cmp (Ev.loc (i := 1)) (Ev.callB Ev.bltn (EvA.cons (Ev.attr (Cs := [515]) (c := 10) (Ev.loc (i := 0))) EvA.nil) op_len1) op_lt) (Ev.callB Ev.bltn (EvA.cons (Ev.item (Ev.item (Ev.attr (Cs := [515]) (c := 10) (Ev.loc (i := 0))) (Ev.loc (i := 1))) Ev.cint) EvA.nil) op_len1) Ev.cint))
  EvB.nil)⟩
def R134 : {f : FF // FnR 134 2 f} := ⟨_, FnR.mk (addr := 134) (D := 1) (n := 4) (ns := ["self", "items", "row", "column"]) (init := initM [] 0) (fun P => rfl) (fun P => by kernel_rfl)
 (by exact BindOk.mk ["self", "items", "row", "column"] [] [] [] 0)
 (EvB.cons (Ev.assignAttr (Cs := [269, 144]) (c := 0) (Ev.loc (i := 1)) (Ev.loc (i := 0)))
  (EvB.cons (Ev.assignAttr (Cs := [269, 116, 144, 396]) (c := 2) (Ev.loc (i := 2)) (Ev.loc (i := 0)))
  (EvB.cons (Ev.assignAttr (Cs := [269, 116, 144, 396]) (c := 3) (Ev.loc (i := 3)) (Ev.loc (i := 0)))
  EvB.nil)))⟩
def R414 : {f : FF // FnR 414 8 f} := ⟨_, FnR.mk (addr := 414) (D := 7) (n := 1) (ns := ["text", "found", "opened", "token", "item", "goal"]) (init := initM [] 5) (fun P => rfl) (fun P => by kernel_rfl)
 (by exact BindOk.mk ["text"] ["found", "opened", "token", "item", "goal"] [] [] 5)
 (EvB.cons (EvS.unpack (names := ["found", "opened"]) (is := [1, 2]) (Ev.tup (EvA.cons (Ev.list EvA.nil) (EvA.cons (Ev.list EvA.nil) EvA.nil))) rfl (by decide +kernel) (fun _ => rfl) (fun g hg => by obtain ⟨⟩ := g; subst hg; rfl))
  (EvB.cons (EvS.for (i := 3) (by kernel_rfl) (by kernel_rfl) rfl (src_trees (Ev.call (Ev.glob (v := .ref 407)) (EvA.cons (Ev.loc (i := 0)) EvA.nil) (FnR.frame R407.2))) (EvB.cons (EvS.if (EvT.cmp (Ev.attr (Cs := [116]) (c := 4) (Ev.loc (i := 3))) (Ev.cstr (xs := [40])) op_eq) (EvB.cons (EvS.expr (Ev.listMeth (Ev.loc (i := 2)) (EvA.cons (Ev.new (Ev.glob (v := .ref 144)) (EvA.cons (Ev.list EvA.nil) (EvA.cons (Ev.attr (Cs := [269, 116, 144, 396]) (c := 2) (Ev.loc (i := 3))) (EvA.cons (Ev.attr (Cs := [269, 116, 144, 396]) (c := 3) (Ev.loc (i := 3))) EvA.nil))) R134.2) EvA.nil) PySem.F.slot_list_append PySem.F.type_list_append op_append _))
  EvB.nil) (EvB.cons (EvS.assign (i := 4) (Ev.loc (i := 3)))
  (EvB.cons (EvS.if (EvT.cmp (Ev.attr (Cs := [116]) (c := 4) (Ev.loc (i := 3))) (Ev.cstr (xs := [41])) op_eq) (EvB.cons (EvS.if (EvT.cmp (Ev.callB Ev.bltn (EvA.cons (Ev.loc (i := 2)) EvA.nil) op_len1) Ev.cint op_eq) (EvB.cons (EvS.raise (Ev.glob (v := .ref 58)) (EvA.cons (Ev.cstr (xs := [117, 110, 101, 120, 112, 101, 99, 116, 101, 100, 32, 116, 111, 107, 101, 110])) (EvA.cons (Ev.attr (Cs := [269, 116, 144, 396]) (c := 2) (Ev.loc (i := 3))) (EvA.cons (Ev.attr (Cs := [269, 116, 144, 396]) (c := 3) (Ev.loc (i := 3))) EvA.nil))) (by decide) (fun P => by kernel_rfl) (fun P => by kernel_rfl) (fun P => by kernel_rfl))
  EvB.nil) EvB.nil)
  (EvB.cons (EvS.assign (i := 4) (Ev.frzB (Ev.listMeth0 (Ev.loc (i := 2)) PySem.F.slot_list_pop PySem.F.type_list_pop op_pop _)))
  EvB.nil)) EvB.nil)
  (EvB.cons (EvS.assign (i := 5) (Ev.ifexp (EvT.cmp (Ev.callB Ev.bltn (EvA.cons (Ev.loc (i := 2)) EvA.nil) op_len1) Ev.cint op_gt) (Ev.attr (Cs := [269, 144]) (c := 0) (Ev.item (Ev.loc (i := 2)) (Ev.neg Ev.cint))) (Ev.loc (i := 1))))
  (EvB.cons (EvS.expr (Ev.listMeth (Ev.loc (i := 5)) (EvA.cons (Ev.loc (i := 4)) EvA.nil) PySem.F.slot_list_append PySem.F.type_list_append op_append _))
  EvB.nil)))))
  EvB.nil))
  (EvB.cons (EvS.if (EvT.cmp (Ev.callB Ev.bltn (EvA.cons (Ev.loc (i := 2)) EvA.nil) op_len1) Ev.cint op_gt) (EvB.cons (EvS.raise (Ev.glob (v := .ref 58)) (EvA.cons (Ev.cstr (xs := [117, 110, 101, 120, 112, 101, 99, 116, 101, 100, 32, 101, 110, 100])) (EvA.cons (Ev.attr (Cs := [269, 116, 144, 396]) (c := 2) (Ev.item (Ev.loc (i := 2)) (Ev.neg Ev.cint))) (EvA.cons (Ev.attr (Cs := [269, 116, 144, 396]) (c := 3) (Ev.item (Ev.loc (i := 2)) (Ev.neg Ev.cint))) EvA.nil))) (by decide) (fun P => by kernel_rfl) (fun P => by kernel_rfl) (fun P => by kernel_rfl))
  EvB.nil) EvB.nil)
  (EvB.cons (EvS.ret (Ev.frz (Ev.loc (i := 1))))
  EvB.nil))))⟩
def R526 : {f : FF // FnR 526 2 f} := ⟨_, FnR.mk (addr := 526) (D := 1) (n := 2) (ns := ["script", "at"]) (init := initM [] 0) (fun P => rfl) (fun P => by kernel_rfl)
 (by exact BindOk.mk ["script", "at"] [] [] [] 0)
 (EvB.cons (EvS.ret (Ev.ifexp (EvT.cmp (Ev.loc (i := 1)) (Ev.callB Ev.bltn (EvA.cons (Ev.loc (i := 0)) EvA.nil (fun _ => star_Name)) op_len1) op_lt) (Ev.item (Ev.loc (i := 0)) (Ev.loc (i := 1))) Ev.cint))
  EvB.nil)⟩
def R533 : {f : FF // FnR 533 2 f} := ⟨_, FnR.lit (addr := 533) (D := 1) (fun P => rfl) (fun P => by kernel_rfl)
 (by exact BindOk.mk [] [] [] [] 0)
 (.list (.cons (.tup (.cons (.tup .nil) (.cons (.tup .nil) .nil))) (.cons (.tup (.cons (.tup (.cons .neg .nil)) (.cons (.tup (.cons .neg .nil)) .nil))) (.cons (.tup (.cons (.tup (.cons .neg .nil)) (.cons (.tup (.cons .neg .nil)) .nil))) (.cons (.tup (.cons (.tup (.cons .neg (.cons .neg .nil))) (.cons (.tup .nil) .nil))) .nil))))) rfl rfl rfl (by decide)⟩
def R540 : {f : FF // FnR 540 2 f} := ⟨_, FnR.lit (addr := 540) (D := 1) (fun P => rfl) (fun P => by kernel_rfl)
 (by exact BindOk.mk [] [] [] [] 0)
 (.list (.cons (.tup (.cons (.str (xs := []) (by decide +kernel)) (.cons (.tup (.cons .int (.cons .dict0 (.cons .int .nil)))) (.cons .none .nil)))) (.cons (.tup (.cons (.str (xs := [40, 112, 97, 114, 97, 109, 32, 105, 51, 50, 41, 32, 40, 114, 101, 115, 117, 108, 116, 32, 105, 54, 52, 41]) (by decide +kernel)) (.cons (.tup (.cons .int (.cons .dict0 (.cons .int .nil)))) (.cons .none .nil)))) (.cons (.tup (.cons (.str (xs := [40, 112, 97, 114, 97, 109, 32, 36, 120, 32, 105, 51, 50, 41, 32, 40, 114, 101, 115, 117, 108, 116, 32, 105, 54, 52, 41]) (by decide +kernel)) (.cons (.tup (.cons .int (.cons (.dict (r := [([36, 120], 0)]) (.cons (by decide +kernel) .nil) (fun h => nomatch h) (by decide) (by decide +kernel)) (.cons .int .nil)))) (.cons .none .nil)))) (.cons (.tup (.cons (.str (xs := [40, 116, 121, 112, 101, 32, 36, 98, 41]) (by decide +kernel)) (.cons (.tup (.cons .int (.cons .dict0 (.cons .int .nil)))) (.cons .none .nil)))) (.cons (.tup (.cons (.str (xs := [40, 116, 121, 112, 101, 32, 50, 41]) (by decide +kernel)) (.cons (.tup (.cons .int (.cons .dict0 (.cons .int .nil)))) (.cons .none .nil)))) (.cons (.tup (.cons (.str (xs := [40, 116, 121, 112, 101, 32, 50, 41, 32, 40, 112, 97, 114, 97, 109, 32, 36, 121, 32, 105, 51, 50, 41, 32, 40, 114, 101, 115, 117, 108, 116, 32, 105, 54, 52, 41]) (by decide +kernel)) (.cons (.tup (.cons .int (.cons (.dict (r := [([36, 121], 0)]) (.cons (by decide +kernel) .nil) (fun h => nomatch h) (by decide) (by decide +kernel)) (.cons .int .nil)))) (.cons .none .nil)))) (.cons (.tup (.cons (.str (xs := [40, 116, 121, 112, 101, 32, 36, 99, 41, 32, 40, 112, 97, 114, 97, 109, 32, 102, 117, 110, 99, 114, 101, 102, 41, 32, 40, 112, 97, 114, 97, 109, 32, 36, 122, 32, 101, 120, 116, 101, 114, 110, 114, 101, 102, 41]) (by decide +kernel)) (.cons (.tup (.cons .int (.cons (.dict (r := [([36, 122], 1)]) (.cons (by decide +kernel) .nil) (fun h => nomatch h) (by decide) (by decide +kernel)) (.cons .int .nil)))) (.cons .none .nil)))) (.cons (.tup (.cons (.str (xs := [40, 116, 121, 112, 101, 32, 57, 57, 41]) (by decide +kernel)) (.cons (.tup (.cons .int (.cons .dict0 (.cons .int .nil)))) (.cons .none .nil)))) (.cons (.tup (.cons (.str (xs := [40, 116, 121, 112, 101, 32, 52, 41]) (by decide +kernel)) (.cons (.tup (.cons .int (.cons .dict0 (.cons .int .nil)))) (.cons .none .nil)))) (.cons (.tup (.cons (.str (xs := [40, 116, 121, 112, 101, 32, 48, 120, 48, 41, 32, 40, 112, 97, 114, 97, 109, 41, 32, 40, 114, 101, 115, 117, 108, 116, 41]) (by decide +kernel)) (.cons (.tup (.cons .int (.cons .dict0 (.cons .int .nil)))) (.cons .none .nil)))) (.cons (.tup (.cons (.str (xs := [40, 116, 121, 112, 101, 32, 57, 57, 41, 32, 40, 112, 97, 114, 97, 109, 41]) (by decide +kernel)) (.cons (.tup (.cons .int (.cons .dict0 (.cons .int .nil)))) (.cons .none .nil)))) (.cons (.tup (.cons (.str (xs := [40, 112, 97, 114, 97, 109, 32, 36, 120, 32, 105, 51, 50, 41, 32, 40, 112, 97, 114, 97, 109, 32, 36, 121, 32, 105, 54, 52, 41, 32, 40, 112, 97, 114, 97, 109, 32, 101, 120, 116, 101, 114, 110, 114, 101, 102, 41, 32, 40, 112, 97, 114, 97, 109, 32, 36, 122, 32, 105, 51, 50, 41]) (by decide +kernel)) (.cons (.tup (.cons .int (.cons (.dict (r := [([36, 120], 0), ([36, 121], 1), ([36, 122], 3)]) (.cons (by decide +kernel) (.cons (by decide +kernel) (.cons (by decide +kernel) .nil))) (fun h => nomatch h) (by decide) (by decide +kernel)) (.cons .int .nil)))) (.cons (.tup (.cons (.tup (.cons .neg (.cons .neg (.cons .neg (.cons .neg .nil))))) (.cons (.tup .nil) .nil))) .nil)))) (.cons (.tup (.cons (.str (xs := [40, 114, 101, 115, 117, 108, 116, 32, 105, 54, 52, 41, 32, 40, 112, 97, 114, 97, 109, 32, 105, 51, 50, 41]) (by decide +kernel)) (.cons (.tup (.cons .int (.cons .dict0 (.cons .int .nil)))) (.cons (.tup (.cons (.tup .nil) (.cons (.tup (.cons .neg .nil)) .nil))) .nil)))) (.cons (.tup (.cons (.str (xs := [40, 112, 97, 114, 97, 109, 32, 105, 51, 50, 41, 32, 40, 116, 121, 112, 101, 32, 49, 41]) (by decide +kernel)) (.cons (.tup (.cons .int (.cons .dict0 (.cons .int .nil)))) (.cons (.tup (.cons (.tup (.cons .neg .nil)) (.cons (.tup .nil) .nil))) .nil)))) (.cons (.tup (.cons (.str (xs := [40, 112, 97, 114, 97, 109, 32, 102, 117, 110, 99, 114, 101, 102, 32, 101, 120, 116, 101, 114, 110, 114, 101, 102, 41, 32, 40, 114, 101, 115, 117, 108, 116, 41, 32, 40, 114, 101, 115, 117, 108, 116, 32, 105, 51, 50, 32, 105, 51, 50, 41]) (by decide +kernel)) (.cons (.tup (.cons .int (.cons .dict0 (.cons .int .nil)))) (.cons (.tup (.cons (.tup (.cons .neg (.cons .neg .nil))) (.cons (.tup (.cons .neg (.cons .neg .nil))) .nil))) .nil)))) (.cons (.tup (.cons (.str (xs := [40, 114, 101, 115, 117, 108, 116, 41]) (by decide +kernel)) (.cons (.tup (.cons .int (.cons .dict0 (.cons .int .nil)))) (.cons .none .nil)))) .nil))))))))))))))))) rfl rfl rfl (by decide)⟩
def R547 : {f : FF // FnR 547 2 f} := ⟨_, FnR.lit (addr := 547) (D := 1) (fun P => rfl) (fun P => by kernel_rfl)
 (by exact BindOk.mk [] [] [] [] 0)
 (.list (.cons (.tup (.cons (.str (xs := [64, 40, 116, 121, 112, 101, 32, 52, 41, 32, 40, 112, 97, 114, 97, 109, 32, 105, 51, 50, 41]) (by decide +kernel)) (.cons (.str (xs := [117, 110, 107, 110, 111, 119, 110, 32, 116, 121, 112, 101, 32, 52]) (by decide +kernel)) .nil))) (.cons (.tup (.cons (.str (xs := [64, 40, 116, 121, 112, 101, 32, 48, 41, 32, 40, 112, 97, 114, 97, 109, 32, 105, 51, 50, 41]) (by decide +kernel)) (.cons (.str (xs := [105, 110, 108, 105, 110, 101, 32, 102, 117, 110, 99, 116, 105, 111, 110, 32, 116, 121, 112, 101]) (by decide +kernel)) .nil))) (.cons (.tup (.cons (.str (xs := [64, 40, 116, 121, 112, 101, 32, 57, 57, 41, 32, 40, 114, 101, 115, 117, 108, 116, 32, 105, 54, 52, 41]) (by decide +kernel)) (.cons (.str (xs := [117, 110, 107, 110, 111, 119, 110, 32, 116, 121, 112, 101, 32, 57, 57]) (by decide +kernel)) .nil))) (.cons (.tup (.cons (.str (xs := [64, 40, 116, 121, 112, 101, 32, 49, 41, 32, 40, 112, 97, 114, 97, 109, 32, 105, 51, 50, 41]) (by decide +kernel)) (.cons (.str (xs := [105, 110, 108, 105, 110, 101, 32, 102, 117, 110, 99, 116, 105, 111, 110, 32, 116, 121, 112, 101]) (by decide +kernel)) .nil))) (.cons (.tup (.cons (.str (xs := [64, 40, 116, 121, 112, 101, 32, 36, 98, 41, 32, 40, 114, 101, 115, 117, 108, 116, 32, 105, 54, 52, 41]) (by decide +kernel)) (.cons (.str (xs := [105, 110, 108, 105, 110, 101, 32, 102, 117, 110, 99, 116, 105, 111, 110, 32, 116, 121, 112, 101]) (by decide +kernel)) .nil))) (.cons (.tup (.cons (.str (xs := [64, 40, 116, 121, 112, 101, 32, 49, 41, 32, 40, 112, 97, 114, 97, 109, 32, 105, 54, 52, 41, 32, 40, 114, 101, 115, 117, 108, 116, 32, 105, 54, 52, 41]) (by decide +kernel)) (.cons (.str (xs := [105, 110, 108, 105, 110, 101, 32, 102, 117, 110, 99, 116, 105, 111, 110, 32, 116, 121, 112, 101]) (by decide +kernel)) .nil))) (.cons (.tup (.cons (.str (xs := [40, 116, 121, 112, 101, 32, 64, 36, 110, 111, 110, 101, 41]) (by decide +kernel)) (.cons (.str (xs := [117, 110, 107, 110, 111, 119, 110, 32, 116, 121, 112, 101, 32, 36, 110, 111, 110, 101]) (by decide +kernel)) .nil))) (.cons (.tup (.cons (.str (xs := [40, 116, 121, 112, 101, 32, 64, 120, 41]) (by decide +kernel)) (.cons (.str (xs := [117, 110, 101, 120, 112, 101, 99, 116, 101, 100, 32, 116, 111, 107, 101, 110]) (by decide +kernel)) .nil))) (.cons (.tup (.cons (.str (xs := [40, 116, 121, 112, 101, 32, 48, 32, 64, 48, 41]) (by decide +kernel)) (.cons (.str (xs := [117, 110, 101, 120, 112, 101, 99, 116, 101, 100, 32, 116, 111, 107, 101, 110]) (by decide +kernel)) .nil))) (.cons (.tup (.cons (.str (xs := [64, 40, 116, 121, 112, 101, 41]) (by decide +kernel)) (.cons (.str (xs := [117, 110, 101, 120, 112, 101, 99, 116, 101, 100, 32, 116, 111, 107, 101, 110]) (by decide +kernel)) .nil))) (.cons (.tup (.cons (.str (xs := [40, 116, 121, 112, 101, 32, 64, 40, 48, 41, 41]) (by decide +kernel)) (.cons (.str (xs := [117, 110, 101, 120, 112, 101, 99, 116, 101, 100, 32, 116, 111, 107, 101, 110]) (by decide +kernel)) .nil))) (.cons (.tup (.cons (.str (xs := [40, 116, 121, 112, 101, 32, 64, 43, 49, 41]) (by decide +kernel)) (.cons (.str (xs := [117, 110, 101, 120, 112, 101, 99, 116, 101, 100, 32, 116, 111, 107, 101, 110]) (by decide +kernel)) .nil))) (.cons (.tup (.cons (.str (xs := [40, 116, 121, 112, 101, 32, 64, 52, 50, 57, 52, 57, 54, 55, 50, 57, 54, 41]) (by decide +kernel)) (.cons (.str (xs := [105, 51, 50, 32, 99, 111, 110, 115, 116, 97, 110, 116, 32, 111, 117, 116, 32, 111, 102, 32, 114, 97, 110, 103, 101]) (by decide +kernel)) .nil))) (.cons (.tup (.cons (.str (xs := [40, 112, 97, 114, 97, 109, 32, 36, 120, 32, 105, 51, 50, 41, 32, 40, 112, 97, 114, 97, 109, 32, 64, 36, 120, 32, 105, 51, 50, 41]) (by decide +kernel)) (.cons (.str (xs := [100, 117, 112, 108, 105, 99, 97, 116, 101, 32, 108, 111, 99, 97, 108, 32, 36, 120]) (by decide +kernel)) .nil))) (.cons (.tup (.cons (.str (xs := [40, 112, 97, 114, 97, 109, 32, 36, 120, 32, 64, 120, 41]) (by decide +kernel)) (.cons (.str (xs := [117, 110, 101, 120, 112, 101, 99, 116, 101, 100, 32, 116, 111, 107, 101, 110]) (by decide +kernel)) .nil))) (.cons (.tup (.cons (.str (xs := [64, 40, 112, 97, 114, 97, 109, 32, 36, 120, 41]) (by decide +kernel)) (.cons (.str (xs := [117, 110, 101, 120, 112, 101, 99, 116, 101, 100, 32, 116, 111, 107, 101, 110]) (by decide +kernel)) .nil))) (.cons (.tup (.cons (.str (xs := [40, 112, 97, 114, 97, 109, 32, 36, 120, 32, 105, 51, 50, 32, 64, 105, 51, 50, 41]) (by decide +kernel)) (.cons (.str (xs := [117, 110, 101, 120, 112, 101, 99, 116, 101, 100, 32, 116, 111, 107, 101, 110]) (by decide +kernel)) .nil))) (.cons (.tup (.cons (.str (xs := [40, 112, 97, 114, 97, 109, 32, 105, 51, 50, 32, 64, 36, 120, 41]) (by decide +kernel)) (.cons (.str (xs := [117, 110, 101, 120, 112, 101, 99, 116, 101, 100, 32, 116, 111, 107, 101, 110]) (by decide +kernel)) .nil))) (.cons (.tup (.cons (.str (xs := [40, 114, 101, 115, 117, 108, 116, 32, 64, 36, 120, 32, 105, 51, 50, 41]) (by decide +kernel)) (.cons (.str (xs := [117, 110, 101, 120, 112, 101, 99, 116, 101, 100, 32, 116, 111, 107, 101, 110]) (by decide +kernel)) .nil))) (.cons (.tup (.cons (.str (xs := [40, 114, 101, 115, 117, 108, 116, 32, 105, 51, 50, 32, 64, 53, 41]) (by decide +kernel)) (.cons (.str (xs := [117, 110, 101, 120, 112, 101, 99, 116, 101, 100, 32, 116, 111, 107, 101, 110]) (by decide +kernel)) .nil))) (.cons (.tup (.cons (.str (xs := [40, 112, 97, 114, 97, 109, 32, 64, 40, 105, 51, 50, 41, 41]) (by decide +kernel)) (.cons (.str (xs := [117, 110, 101, 120, 112, 101, 99, 116, 101, 100, 32, 116, 111, 107, 101, 110]) (by decide +kernel)) .nil))) (.cons (.tup (.cons (.str (xs := [40, 116, 121, 112, 101, 32, 49, 41, 32, 40, 112, 97, 114, 97, 109, 32, 36, 120, 32, 105, 51, 50, 32, 64, 105, 54, 52, 41]) (by decide +kernel)) (.cons (.str (xs := [117, 110, 101, 120, 112, 101, 99, 116, 101, 100, 32, 116, 111, 107, 101, 110]) (by decide +kernel)) .nil))) .nil))))))))))))))))))))))) rfl rfl rfl (by decide)⟩
def R561 : {f : FF // FnR 561 2 f} := ⟨_, FnR.mk (addr := 561) (D := 1) (n := 1) (ns := ["text", "ahead"]) (init := initM [] 1) (fun P => rfl) (fun P => by kernel_rfl)
 (by exact BindOk.mk ["text"] ["ahead"] [] [] 1)
 (EvB.cons (EvS.assign (i := 1) (Ev.strMeth1 (Ev.sliceToS (Ev.loc (i := 0)) (Ev.strMeth1 (Ev.loc (i := 0)) (EvA.cons (Ev.cstr (xs := [64])) EvA.nil (fun _ => star_Constant)) sm_index op_index _)) (EvA.cons (Ev.cstr (xs := [10])) EvA.nil (fun _ => star_Constant)) sm_split op_split _))
  (EvB.cons (EvS.ret (Ev.tup (EvA.cons (Ev.callB Ev.bltn (EvA.cons (Ev.loc (i := 1)) EvA.nil (fun _ => star_Name)) op_len1) (EvA.cons (Ev.bin (Ev.callB Ev.bltn (EvA.cons (Ev.item (Ev.loc (i := 1)) (Ev.neg Ev.cint)) EvA.nil) op_len1) Ev.cint op_add) EvA.nil))))
  EvB.nil))⟩
def R554 : {f : FF // FnR 554 9 f} := ⟨_, FnR.mk (addr := 554) (D := 8) (n := 0) (ns := ["spaces", "word", "kind"]) (init := initM [] 3) (fun P => rfl) (fun P => by kernel_rfl)
 (by exact BindOk.mk [] ["spaces", "word", "kind"] [] [] 3)
 (EvB.cons (EvS.assign (i := 0) (Ev.new (Ev.glob (v := .ref 515)) EvA.nil R477.2))
  (EvB.cons (EvS.for2 (i := 1) (j := 2) (by kernel_rfl) (by kernel_rfl) (by kernel_rfl) (by kernel_rfl) rfl (src_zip Ev.bltn (Ev.list (EvA.cons (Ev.cstr (xs := [36, 97])) (EvA.cons (Ev.cstr (xs := [36, 98])) (EvA.cons Ev.cnone (EvA.cons (Ev.cstr (xs := [36, 99])) EvA.nil (fun _ => star_Constant)) (fun _ => star_Constant)) (fun _ => star_Constant)) (fun _ => star_Constant))) (Ev.call (Ev.glob (v := .ref 533)) EvA.nil R533.2)) (EvB.cons (EvS.expr (Ev.meth (C := 515) (Ev.loc (i := 0)) (EvA.cons (Ev.cstr (xs := [116, 121, 112, 101])) (EvA.cons (Ev.ifexp (EvT.cmp (Ev.loc (i := 1)) Ev.cnone op_is) Ev.cnone (Ev.item (Ev.call (Ev.glob (v := .ref 414)) (EvA.cons (Ev.loc (i := 1)) EvA.nil (fun _ => star_Name)) (FnR.frame R414.2)) Ev.cint)) EvA.nil) (fun _ => star_Constant)) R484.2 (pl := _)))
  (EvB.cons (EvS.expr (Ev.listMeth (Ev.attr (Cs := [515]) (c := 10) (Ev.loc (i := 0))) (EvA.cons (Ev.loc (i := 2)) EvA.nil (fun _ => star_Name)) PySem.F.slot_list_append PySem.F.type_list_append op_append _))
  EvB.nil)))
  (EvB.cons (EvS.ret (Ev.loc (i := 0)))
  EvB.nil)))⟩
def R573 : {f : FF // FnR 573 3 f} := ⟨_, FnR.mkC (addr := 573) (D := 2) (x := "spaces") (y := "kinds") (fun P => rfl) (fun P => by kernel_rfl)
 (fun w s Vs X h => by refine ee21 (len2 h) fun a0 a1 qe2 => ?_; subst qe2; exact BindsTo.of_eq rfl)
 (EvB.cons (EvS.if (EvW.t (EvW.or (EvT.cmp (Ev.attr (Cs := [515]) (c := 10) (Ev.cellv (i := 0) (by kernel_rfl) (by kernel_rfl) (by kernel_rfl))) (Ev.loc (i := 1)) op_ne) (EvW.or (EvT.cmp (Ev.item (Ev.attr (Cs := [515]) (c := 9) (Ev.cellv (i := 0) (by kernel_rfl) (by kernel_rfl) (by kernel_rfl))) (Ev.cstr (xs := [116, 121, 112, 101]))) (Ev.callB Ev.bltn (EvA.cons (Ev.loc (i := 1)) EvA.nil (fun _ => star_Name)) op_len1) op_ne) EvW.orNil))) (EvB.cons (EvS.ret Ev.cbool)
  EvB.nil) EvB.nil)
  (EvB.cons (EvS.if (EvT.cmp (Ev.comp (by kernel_rfl) rfl (by decide) (by decide) (ClosOk.one (x := "spaces") (by kernel_rfl) (by decide) (fun _ => clos_one)) (src_range Ev.bltn (Ev.bin (Ev.callB Ev.bltn (EvA.cons (Ev.loc (i := 1)) EvA.nil (fun _ => star_Name)) op_len1) Ev.cint op_add)) (EvC.meth (C₀ := 515) (EvC.free (i := 0) (by kernel_rfl) (by kernel_rfl) (by kernel_rfl) rfl (by kernel_rfl)) (EvC.own (i := 0) rfl (by kernel_rfl) rfl (by kernel_rfl)) R512.2 (by decide) (fun P => by kernel_rfl) (fun P => by kernel_rfl) _)) (Ev.bin (Ev.comp (by kernel_rfl) rfl (by decide) (by decide) (ClosOk.no (by decide)) (src_list (Ev.loc (i := 1))) (EvC.len (EvC.item (EvC.own (i := 0) rfl (by kernel_rfl) rfl (by kernel_rfl)) EvC.cint) rfl (fun P => by kernel_rfl) (by kernel_rfl))) (Ev.list (EvA.cons Ev.cint (EvA.cons Ev.cint EvA.nil (fun _ => star_Constant)) (fun _ => star_Constant))) op_add) op_ne) (EvB.cons (EvS.ret Ev.cbool)
  EvB.nil) EvB.nil)
  (EvB.cons (EvS.ret (Ev.and (Ev.cmp (Ev.comp (by kernel_rfl) rfl (by decide) (by decide) (ClosOk.one (x := "spaces") (by kernel_rfl) (by decide) (fun _ => clos_one)) (src_list (Ev.loc (i := 1))) (EvC.meth (C₀ := 515) (EvC.free (i := 0) (by kernel_rfl) (by kernel_rfl) (by kernel_rfl) rfl (by kernel_rfl)) (EvC.own (i := 0) rfl (by kernel_rfl) rfl (by kernel_rfl)) R498.2 (by decide) (fun P => by kernel_rfl) (fun P => by kernel_rfl) _)) (Ev.sliceTo (Ev.list (EvA.cons Ev.cint (EvA.cons Ev.cint (EvA.cons Ev.cint (EvA.cons Ev.cint (EvA.cons Ev.cint EvA.nil (fun _ => star_Constant)) (fun _ => star_Constant)) (fun _ => star_Constant)) (fun _ => star_Constant)) (fun _ => star_Constant))) (Ev.callB Ev.bltn (EvA.cons (Ev.loc (i := 1)) EvA.nil (fun _ => star_Name)) op_len1)) op_eq) (Ev.one (Ev.cmp (Ev.attr (Cs := [515]) (c := 10) (Ev.cellv (i := 0) (by kernel_rfl) (by kernel_rfl) (by kernel_rfl))) (Ev.loc (i := 1)) op_eq))))
  EvB.nil))) (by kernel_rfl) (by kernel_rfl) (by decide) (fun _ => rfl) (by decide) rfl rfl rfl⟩
theorem TopS.for {F : FS} {x : Str} {px pos : Pos} {iter : PySem.Expr} {body : List Stmt} {i : Nat} {fsrc : (List MV → MM MF) → MM MF} {fb : MM MF} (hn : nsOk F.ns i x = true) (hk : F.sc.names.lookup x = some .local) (hlp : F.lp = true) (hsrc : SrcF F iter fsrc)
  (hb : TopB F body fb) (hs : ∀ env x, foldedSetIterable iter env x = pure x := by intro _ _; rfl) : TopS F (.For (.Name x px) iter body [] pos) (fsrc (forM i fb)) :=
 ⟨fun g W st s Q E hT G => EvS.forP (P := TopG) hn hk hlp hsrc (fun g W st s Q E hT G => hb.run g W st s Q E hT G) hs g W st s Q E hT G⟩
set_option tactic.hygienic true in
theorem toldF_is {ft fu : FF} : ∀ vs μ o μ', toldF ft fu vs μ = some (o, μ') → vs.length = 3 ∧ ∃ st1 ov vs' ob, ((((getM 1).bind fun v => (MM.pure []).bind fun vs => MM.pure (v :: vs)).bind (callM ft)).bind fun v => (putM 3 v).bind fun _ => MM.pure MF.next) ⟨initM [] 2 vs, μ⟩ = some (.val .next, st1) ∧ getM 0 st1 = some (.val ov, st1) ∧ clsM 515 ov st1 = some (.val (), st1) ∧
  ((getM 3).bind fun v => ((getM 2).bind fun v => (MM.pure []).bind fun vs => MM.pure (v :: vs)).bind fun vs => MM.pure (v :: vs)) st1 = some (.val vs', st1) ∧ fu ([ov] ++ vs') st1.μ = some (ob, μ') ∧ o = .val (badV ob) := by
 intro vs μ o μ' h
 unfold toldF at h
 split at h
 ·rename_i i tx at_
  cases h1 : ft [tx] μ with
  | none => rw [h1] at h; exact nsE h
  | some p =>
   obtain ⟨o1, μ1⟩ := p
   rw [h1] at h
   cases o1 with
   | bad => exact nsE h
   | val items =>
    dsimp only at h
    cases h2 : μ1[i]? with
    | none => rw [h2] at h; exact nsE h
    | some c =>
     rw [h2] at h
     cases c with
     | inst C fs =>
      dsimp only at h
      cases h3 : Nat.beq C 515 with
      | false => rw [h3] at h; exact nsE h
      | true =>
       rw [h3] at h
       dsimp only at h
       cases h4 : fu [.obj i, items, at_] μ1 with
       | none => rw [h4] at h; exact nsE h
       | some q =>
        obtain ⟨ob, μ2⟩ := q
        rw [h4] at h
        refine ⟨rfl, ⟨[some (.obj i), some tx, some at_, some items, none], μ1⟩, .obj i, [items, at_], ob, ?_, rfl, ?_, rfl, ?_, ?_⟩
        ·simp [MM.bind, MM.pure, getM, initM, callM, putM, h1]
        ·simp [clsM, h2, h3]
        ·cases ob with
         | val v => cases h; exact h4
         | bad => cases h; exact h4
        ·cases ob with
         | val v => cases h; rfl
         | bad => cases h; rfl
     | _ => exact nsE h
 ·exact nsE h
def R568 : {f : FF // FnT 568 12 f} := ⟨toldF (frameF R414.1) R505.1, FnT.told (addr := 568) (D := 11) (n := 3) (ns := ["spaces", "text", "at", "items", "fault"]) (init := initM [] 2) (Cu := 515) (fun P => rfl) (fun P => by kernel_rfl)
 (by exact BindOk.mk ["spaces", "text", "at"] ["items", "fault"] [] [] 2)
 (EvS.assign (i := 3) (Ev.call (Ev.glob (v := .ref 414)) (EvA.cons (Ev.loc (i := 1)) EvA.nil (fun _ => star_Name)) (FnR.frame R414.2))) (Ev.loc (i := 0)) (EvA.cons (Ev.loc (i := 3)) (EvA.cons (Ev.loc (i := 2)) EvA.nil (fun _ => star_Name)) (fun _ => star_Name)) R505.2 (by decide) (fun P => by kernel_rfl) (fun P => by kernel_rfl) _ toldF_is rfl rfl rfl (by decide) (by kernel_rfl) (by kernel_rfl) (fun P => by kernel_rfl) (fun P => by kernel_rfl) (fun P => by kernel_rfl) (fun P => by kernel_rfl) (fun P => by kernel_rfl)⟩
noncomputable def stmtsOf : FuncBody → List Stmt
 | .stmts l => l
 | _ => []
noncomputable abbrev lawFS : FS := ⟨⟨.function, [("script", .local), ("words", .local), ("rows", .local), ("first", .local), ("step", .local), ("k", .local), ("due", .local), ("kind", .local), ("digit", .local), ("at", .local), ("text", .local), ("spaces", .local), ("_law_right", .globalImplicit), ("_law_wrong", .globalImplicit), ("_law_digit", .globalImplicit), ("range", .globalImplicit), ("isinstance", .globalImplicit), ("str", .globalImplicit), ("_law_place", .globalImplicit), ("_law_spaces", .globalImplicit), ("_law_told", .globalImplicit), ("_law_many_right", .globalImplicit), ("_law_kinds", .globalImplicit)], false, false, [("fast", (.str "script")), ("fast", (.str "words")), ("fast", (.str "why")), ("fast", (.str "rows")), ("fast", (.str "first")), ("fast", (.str "step")), ("fast", (.str "k")), ("fast", (.str "due")), ("fast", (.str "kind")), ("fast", (.str "digit")), ("fast", (.str "at")), ("fast", (.str "text")), ("fast", (.str "spaces"))]⟩, ["script", "words", "rows", "first", "step", "k", "due", "kind", "digit", "at", "text", "spaces"], 13, true⟩
noncomputable def forBody : Stmt → List Stmt
 | .For _ _ b _ _ => b
 | _ => []
abbrev lawSt (i : Nat) : Stmt := (stmtsOf F378).getD i (.Pass default)
abbrev turnSt (i : Nat) : Stmt := (forBody (lawSt 2)).getD i (.Pass default)
def lawPA : {f : MM MF // EvS lawFS (lawSt 0) f} := ⟨_, (EvS.assign (i := 2) (Ev.bin (Ev.call (Ev.glob (v := .ref 540)) EvA.nil R540.2) (Ev.compP (by kernel_rfl) (by kernel_rfl) (by decide) rfl (by decide) (by decide) (ClosOk.no (by decide)) (Ev.call (Ev.glob (v := .ref 547)) EvA.nil R547.2) (EvC.tup3 (EvC.own (i := 0) rfl (by kernel_rfl) rfl (by kernel_rfl)) (EvC.own (i := 1) rfl (by kernel_rfl) rfl (by kernel_rfl)) EvC.cnone)) op_add))⟩
def lawPB : {f : MM MF // EvS lawFS (lawSt 1) f} := ⟨_, (EvS.unpack (names := ["first", "step"]) (is := [3, 4]) (Ev.tup (EvA.cons (Ev.call (Ev.glob (v := .ref 526)) (EvA.cons (Ev.loc (i := 0)) (EvA.cons Ev.cint EvA.nil (fun _ => star_Constant)) (fun _ => star_Name)) R526.2) (EvA.cons (Ev.bin Ev.cint (Ev.bin Ev.cint (Ev.bin (Ev.call (Ev.glob (v := .ref 526)) (EvA.cons (Ev.loc (i := 0)) (EvA.cons Ev.cint EvA.nil (fun _ => star_Constant)) (fun _ => star_Name)) R526.2) Ev.cint op_mod) op_mul) op_add) EvA.nil))) rfl (by decide +kernel) (fun _ => rfl) (fun g hg => by obtain ⟨⟩ := g; subst hg; rfl))⟩
def lawP1 : {f : MM MF // EvS lawFS (turnSt 0) f} := ⟨_, (EvS.unpackF (nps := [("words", ⟨447, 8, 447, 13⟩), ("due", ⟨447, 15, 447, 18⟩), ("kind", ⟨447, 20, 447, 24⟩)]) (is := [1, 6, 7]) (Ev.item (Ev.loc (i := 2)) (Ev.bin (Ev.bin (Ev.loc (i := 3)) (Ev.bin (Ev.loc (i := 4)) (Ev.loc (i := 5)) op_mul) op_add) Ev.cint op_mod)) rfl (by decide +kernel) (fun _ => rfl) (fun _ => rfl) (fun _ => rfl) (fun _ => rfl))⟩
def lawP2 : {f : MM MF // EvS lawFS (turnSt 1) f} := ⟨_, (EvS.unpack (names := ["digit", "at"]) (is := [8, 9]) (Ev.tup (EvA.cons (Ev.call (Ev.glob (v := .ref 526)) (EvA.cons (Ev.loc (i := 0)) (EvA.cons (Ev.bin Ev.cint (Ev.loc (i := 5)) op_add) EvA.nil) (fun _ => star_Name)) R526.2) (EvA.cons (Ev.bin (Ev.call (Ev.glob (v := .ref 526)) (EvA.cons (Ev.loc (i := 0)) (EvA.cons (Ev.bin Ev.cint (Ev.loc (i := 5)) op_add) EvA.nil) (fun _ => star_Name)) R526.2) Ev.cint op_mod) EvA.nil))) rfl (by decide +kernel) (fun _ => rfl) (fun g hg => by obtain ⟨⟩ := g; subst hg; rfl))⟩
def lawP3 : {f : MM MF // EvS lawFS (turnSt 2) f} := ⟨_, (EvS.assign (i := 10) (Ev.bin (Ev.bin (Ev.bin (Ev.bin (Ev.cstr (xs := [10])) (Ev.bin (Ev.bin (Ev.loc (i := 8)) Ev.cint op_fdiv) Ev.cint op_mod) op_mul) (Ev.bin (Ev.cstr (xs := [32])) (Ev.bin (Ev.bin (Ev.loc (i := 8)) Ev.cint op_fdiv) Ev.cint op_mod) op_mul) op_add) (Ev.item (Ev.list (EvA.cons (Ev.cstr (xs := [])) (EvA.cons (Ev.cstr (xs := [110, 111, 112, 32])) (EvA.cons (Ev.cstr (xs := [36, 113, 32, 40, 116, 121, 112, 101, 32, 48, 41, 32])) EvA.nil (fun _ => star_Constant)) (fun _ => star_Constant)) (fun _ => star_Constant))) (Ev.loc (i := 9))) op_add) (Ev.loc (i := 1)) op_add))⟩
def lawP4 : {f : MM MF // EvS lawFS (turnSt 3) f} := ⟨_, (EvS.assign (i := 10) (Ev.bin (Ev.loc (i := 10)) (Ev.item (Ev.list (EvA.cons (Ev.cstr (xs := [])) (EvA.cons (Ev.cstr (xs := [32, 40, 108, 111, 99, 97, 108, 32, 105, 51, 50, 41])) (EvA.cons (Ev.cstr (xs := [10, 110, 111, 112, 32, 40, 114, 101, 115, 117, 108, 116, 32, 120, 41])) EvA.nil (fun _ => star_Constant)) (fun _ => star_Constant)) (fun _ => star_Constant))) (Ev.bin (Ev.bin (Ev.loc (i := 8)) Ev.cint op_fdiv) Ev.cint op_mod)) op_add))⟩
def lawP5 : {f : MM MF // EvS lawFS (turnSt 4) f} := ⟨_, (EvS.if (EvT.plain (Ev.callB Ev.bltn (EvA.cons (Ev.loc (i := 6)) (EvA.cons (Ev.bltn (v := .type "str")) EvA.nil (fun _ => star_Name)) (fun _ => star_Name)) op_isStr)) (EvB.cons (EvS.assign (i := 6) (Ev.tup (EvA.cons (Ev.loc (i := 6)) (EvA.cons (Ev.call (Ev.glob (v := .ref 561)) (EvA.cons (Ev.loc (i := 10)) EvA.nil (fun _ => star_Name)) R561.2) EvA.nil) (fun _ => star_Name))))
  EvB.nil) (EvB.cons (EvS.assign (i := 6) (Ev.tup (EvA.cons (Ev.item (Ev.loc (i := 6)) Ev.cint) (EvA.cons (Ev.item (Ev.loc (i := 6)) Ev.cint) (EvA.cons (Ev.bin (Ev.loc (i := 9)) (Ev.item (Ev.loc (i := 6)) Ev.cint) op_add) EvA.nil)))))
  EvB.nil))⟩
def lawP6 : {f : MM MF // EvS lawFS (turnSt 5) f} := ⟨_, (EvS.assign (i := 11) (Ev.call (Ev.glob (v := .ref 554)) EvA.nil R554.2))⟩
def lawP8 : {f : MM MF // EvS lawFS (turnSt 7) f} := ⟨_, (EvS.if (Ev.isNot (EvT.plain (Ev.call (Ev.glob (v := .ref 573)) (EvA.cons (Ev.loc (i := 11)) (EvA.cons (Ev.bin (Ev.call (Ev.glob (v := .ref 533)) EvA.nil R533.2) (Ev.ifexp (EvT.cmp (Ev.loc (i := 7)) Ev.cnone op_is) (Ev.list EvA.nil) (Ev.list (EvA.cons (Ev.loc (i := 7)) EvA.nil (fun _ => star_Name)))) op_add) EvA.nil) (fun _ => star_Name)) R573.2))) (EvB.cons (EvS.ret Ev.cbool)
  EvB.nil) EvB.nil)⟩
def lawP7 : {f : MM MF // TokS lawFS (turnSt 6) f} := ⟨_, (TokS.told (Ev.glob (v := .ref 568)) (Ev.loc (i := 11)) (Ev.loc (i := 10)) (Ev.loc (i := 9)) (Ev.loc (i := 6)) R568.2 (by decide) (fun P => by kernel_rfl) (EvB.cons (EvS.ret Ev.cbool)
  EvB.nil) EvB.nil (by kernel_rfl) _)⟩
noncomputable abbrev LX (X : List Nat) (n : Nat) (r c : Int) : MO := .inst 396 [(5,.str X),(1,.int (n : Int)),(2,.int r),(3,.int c),(11,.obj 1)]
theorem l_here (X : List Nat) (n : Nat) (r c : Int) (μ : List MO) (hX : X.length ≤ 60000) : R322.val [.obj 0] (LX X n r c :: μ) = some (.val (.str ((X.drop n).take 1)), LX X n r c :: μ) := by
 have hb : Nat.ble X.length 16777216 = true := Nat.ble_eq_true_of_le (by omega)
 have h1 : midS (.str X) (.int n) (.int (n + 1)) = MM.pure (.str ((X.drop n).take 1)) := by
  unfold midS
  simp only [hb, Int.natCast_nonneg, decide_true, Bool.true_and, Bool.and_true]
  rw [decide_eq_true (by omega)]
  simp only
  congr 2
  rw [show ((n : Int) + 1).toNat = n + 1 from by omega, Int.toNat_natCast, List.drop_take]
  simp
 simp [R322, fnOut, seqM, MM.bind, MM.pure, getM, attrM, initM, inCs, fget, handM, addM, h1]
theorem l_item {X : List Nat} {n x : Nat} (hX : X.length ≤ 60000) (hx : X[n]? = some x) : itemM (.str X) (.int n) = MM.pure (.str [x]) := by
 have hb : shortL X = true := Nat.ble_eq_true_of_le hX
 unfold itemM
 simp only [hb, Int.natCast_nonneg, decide_true, Bool.true_and, Int.toNat_natCast, hx]
theorem l_eq1 (n : Nat) (x y : Nat) : eqM n (.str [x]) (.str [y]) = MM.pure (.bool (Nat.beq x y)) := by
 unfold eqM
 simp only [beqL]
 cases Nat.beq x y <;> rfl
theorem l_step {X : List Nat} {n x : Nat} {r c : Int} {μ : List MO} (hX : X.length ≤ 60000) (hx : X[n]? = some x) (h13 : Nat.beq x 13 = false) :
  R344x1.val [.obj 0] (LX X n r c :: μ) = some (.val .none, LX X (n + 1) (bif Nat.beq x 10 then r + 1 else r) (bif Nat.beq x 10 then 1 else c + 1) :: μ) := by
 cases h10 : Nat.beq x 10 with
 | true => simp [R344x1, fnOut, seqM, MM.bind, MM.pure, getM, attrM, initM, inCs, fget, handM, addM, l_item hX hx, rangeK, forM, iotaM, putM, setM, tor, tand, truthM, fput, l_eq1, h10]
 | false => simp [R344x1, fnOut, seqM, MM.bind, MM.pure, getM, attrM, initM, inCs, fget, handM, addM, l_item hX hx, rangeK, forM, iotaM, putM, setM, tor, tand, truthM, fput, l_eq1, h10, h13]
noncomputable abbrev IDS : List Nat := [48, 49, 50, 51, 52, 53, 54, 55, 56, 57, 97, 98, 99, 100, 101, 102, 103, 104, 105, 106, 107, 108, 109, 110, 111, 112, 113, 114, 115, 116, 117, 118, 119, 120, 121, 122, 65, 66, 67, 68, 69, 70, 71, 72, 73, 74, 75, 76, 77, 78, 79, 80, 81, 82, 83, 84, 85, 86, 87, 88, 89, 90, 33, 35, 36, 37, 38, 39, 42, 43, 45, 46, 47, 58, 60, 61, 62, 63, 64, 92, 94, 95, 96, 124, 126]
def idS (x : Nat) : Bool := memL IDS x
def okS : List Nat → Bool
 | [x] => Nat.beq x 34 || idS x
 | _ => false
noncomputable abbrev ML (n : Nat) (r c : Int) (b : Option MV) : List (Option MV) := [some (.obj 0), some (.int n), some (.int r), some (.int c), some .junk, some (.int 0), b, none, none, none]
theorem l_loop {T : MM Bool} {B : MM MF} {X : List Nat} {n0 : Nat} {r0 c0 r : Int} {μ : List MO}
  (hT : ∀ n c b, T ⟨ML n0 r0 c0 b, LX X n r c :: μ⟩ = some (.val (okS ((X.drop n).take 1)), ⟨ML n0 r0 c0 b, LX X n r c :: μ⟩))
  (hB : ∀ n c b x, X[n]? = some x → idS x = true → B ⟨ML n0 r0 c0 b, LX X n r c :: μ⟩ = some (.val .next, ⟨ML n0 r0 c0 (some (.bool false)), LX X (n + 1) r (c + 1) :: μ⟩)) :
  ∀ (w rest : List Nat) (k n : Nat) (c : Int) (b : Option MV), X.drop n = w ++ rest → w.all idS = true → okS (rest.take 1) = false → w.length < k →
   ∃ b', whileM T B k ⟨ML n0 r0 c0 b, LX X n r c :: μ⟩ = some (.val .next, ⟨ML n0 r0 c0 b', LX X (n + w.length) r (c + w.length) :: μ⟩)
 | _, _, 0, _, _, _, _, _, _, h => absurd h (Nat.not_lt_zero _)
 | [], rest, k + 1, n, c, b, hd, _, hs, _ => by
  refine ⟨b, ?_⟩
  rw [List.nil_append] at hd
  unfold whileM
  unfold MM.bind
  rw [hT, hd, hs]
  simp [MM.pure]
 | x :: w, rest, k + 1, n, c, b, hd, ha, hs, hl => by
  rw [List.all_cons, Bool.and_eq_true] at ha
  have hx : X[n]? = some x := by rw [← List.head?_drop, hd]; rfl
  have hd' : X.drop (n + 1) = w ++ rest := by rw [← List.drop_drop, hd]; rfl
  obtain ⟨b', hb⟩ := l_loop hT hB w rest k (n + 1) (c + 1) (some (.bool false)) hd' ha.2 hs (by simp at hl; omega)
  refine ⟨b', ?_⟩
  unfold whileM
  unfold MM.bind
  rw [hT, hd]
  simp only [List.cons_append, List.take_succ_cons, List.take_zero, okS, ha.1, Bool.or_true]
  rw [hB n c b x hx ha.1]
  simp only
  rw [hb, List.length_cons, show n + 1 + w.length = n + (w.length + 1) from by omega, show c + 1 + (w.length : Int) = c + ((w.length + 1 : Nat) : Int) from by omega]
def SW (w s : List Nat) (v : MV) : Prop := ∀ μ, R301.val [.str w] μ = some (.val (.tup [.str s, v]), μ)
noncomputable def lenO (μ : List MO) : MV := .obj μ.length
noncomputable def snocO (μ : List MO) (o : MO) : List MO := μ ++ [o]
theorem l_eqi (n : Nat) (i j : Int) : eqM n (.int i) (.int j) = MM.pure (.bool (i == j)) := rfl
theorem l_tok (s t : List Nat) (v : MV) (r c : Int) (m : List (Option MV)) (μ : List MO) : newM 116 R113.val [.str s, .str t, v, .int r, .int c] ⟨m, μ⟩ = some (.val (lenO μ), ⟨m, snocO μ (.inst 116 [(4, .str s), (5, .str t), (6, v), (2, .int r), (3, .int c)])⟩) := by
 simp [lenO, snocO, newM, R113, fnOut, seqM, MM.bind, MM.pure, getM, initM, setM, inCs, fput]
theorem l_frz (s t : List Nat) (v : MV) (r c : Int) (m : List (Option MV)) (μ : List MO) : frzM (lenO μ) ⟨m, snocO μ (.inst 116 [(4, .str s), (5, .str t), (6, v), (2, .int r), (3, .int c)])⟩ = some (.val (.tree (.tok (S s) (S t) (valOf v) r c)), ⟨m, μ ++ [.lock]⟩) := by
 simp [lenO, snocO, frzM, tokVal, l5, vStr, vInt]
theorem take1 (l : List Nat) : l.take 1 = [] ∨ ∃ x, l.take 1 = [x] := by
 cases l with
 | nil => exact .inl rfl
 | cons x r => exact .inr ⟨x, rfl⟩
theorem id_ne {x : Nat} (h : idS x = true) : (Nat.beq x 10 = false ∧ Nat.beq x 13 = false ∧ Nat.beq x 34 = false) ∧ memL [32, 9, 10, 13] x = false ∧ Nat.beq x 59 = false ∧ Nat.beq x 40 = false ∧ memL [40, 41] x = false ∧ memL [44, 59, 91, 93, 123, 125] x = false := by
 have : ∀ x ∈ IDS, (Nat.beq x 10 = false ∧ Nat.beq x 13 = false ∧ Nat.beq x 34 = false) ∧ memL [32, 9, 10, 13] x = false ∧ Nat.beq x 59 = false ∧ Nat.beq x 40 = false ∧ memL [40, 41] x = false ∧ memL [44, 59, 91, 93, 123, 125] x = false := by decide +kernel
 exact this x (of_decide_eq_true (by rw [← memL_is]; exact h))
theorem l_inS (x : Nat) (l : List Nat) : inS (.str [x]) (.str l) = MM.pure (.bool (memL l x)) := rfl
theorem l_ne0 (n : Nat) (l : List Nat) : neM n (.str l) (.str []) = MM.pure (.bool (!beqL l [])) := rfl
theorem l_mid {X : List Nat} {n m : Nat} (hX : X.length ≤ 60000) (h : n ≤ m) : midS (.str X) (.int n) (.int m) = MM.pure (.str ((X.drop n).take (m - n))) := by
 have hb : Nat.ble X.length 16777216 = true := Nat.ble_eq_true_of_le (by omega)
 unfold midS
 simp only [hb, Int.natCast_nonneg, decide_true, Bool.true_and, Bool.and_true]
 rw [decide_eq_true (by omega)]
 simp only
 congr 2
 rw [Int.toNat_natCast, Int.toNat_natCast, List.drop_take]
theorem l_run {X w rest s : List Nat} {n : Nat} {r c : Int} {v : MV} {ts : List MV} {μ : List MO} (hX : X.length ≤ 300) (hw : w ≠ []) (hd : X.drop n = w ++ rest) (ha : w.all idS = true) (hs : okS (rest.take 1) = false) (sw : SW w s v) (ht : ts.length ≤ 300) :
  R386.val [.obj 0] (LX X n r c :: .list ts :: μ) = some (.val .none, LX X (n + w.length) r (c + w.length) :: .list (ts ++ [.tree (.tok (S s) (S w) (valOf v) r c)]) :: (μ ++ [.lock])) := by
 have hX' : X.length ≤ 60000 := by omega
 have hlen : w.length < 400 := by
  have := congrArg List.length hd
  simp at this; omega
 simp only [R386]
 generalize hL : whileM _ _ 400 = L
 have hLL : ∃ b', L ⟨ML n r c none, LX X n r c :: .list ts :: μ⟩ = some (.val .next, ⟨ML n r c b', LX X (n + w.length) r (c + w.length) :: .list ts :: μ⟩) := by
  rw [← hL]
  refine l_loop (fun n' c' b' => ?_) (fun n' c' b' x hx hi => ?_) w rest 400 n c none hd ha hs hlen
  ·rcases take1 (X.drop n') with e | ⟨x, e⟩
   ·simp [MM.bind, MM.pure, getM, tand, truthM, clsM, callM, l_here _ _ _ _ _ hX', e, l_ne0, beqL, okS]
   ·cases q1 : Nat.beq x 34 with
    | true => simp [MM.bind, MM.pure, getM, tand, tor, truthM, clsM, callM, l_here _ _ _ _ _ hX', e, l_ne0, l_eq1, beqL, okS, q1]
    | false => cases q2 : memL IDS x <;> simp [MM.bind, MM.pure, getM, tand, tor, truthM, clsM, callM, l_here _ _ _ _ _ hX', e, l_ne0, l_eq1, l_inS, beqL, okS, q1, q2, idS]
  ·have e : (X.drop n').take 1 = [x] := by
    rw [List.take_one, List.head?_drop, hx]; rfl
   have q := id_ne hi
   simp [seqM, MM.bind, MM.pure, getM, tand, tor, truthM, clsM, callM, l_here _ _ _ _ _ hX', e, l_ne0, l_eq1, l_inS, beqL, okS, q.1, l_step hX' hx q.1.2.1, putM]
 obtain ⟨b', hb⟩ := hLL
 have hm : midS (.str X) (.int n) (.int (n + w.length)) = MM.pure (.str w) := by
  have := l_mid (n := n) (m := n + w.length) hX' (by omega)
  rw [Int.natCast_add] at this
  rw [this, hd, show n + w.length - n = w.length from by omega, List.take_left]
 clear hL
 have hbl : Nat.ble ts.length 10000 = true := Nat.ble_eq_true_of_le (by omega)
 simp [fnOut, seqM, MM.bind, MM.pure, getM, attrM, initM, inCs, fget, handM, tupM, unpackFM, putsM, putM, hb, hm, tand, truthM, l_eqi, unpack2M, callM, sw _, isList, l_tok, l_frz, appendM, hbl]
theorem l_starts {X : List Nat} {n : Nat} {r c : Int} {μ : List MO} (u : List Nat) (hX : X.length ≤ 60000) (hu : shortL u = true) : R329.val [.obj 0, .str u] (LX X n r c :: μ) = some (.val (.bool (beqL ((X.drop n).take u.length) u)), LX X n r c :: μ) := by
 have hm : midS (.str X) (.int n) (.int (n + u.length)) = MM.pure (.str ((X.drop n).take u.length)) := by
  have := l_mid (n := n) (m := n + u.length) hX (by omega)
  rw [Int.natCast_add] at this
  rw [this, show n + u.length - n = u.length from by omega]
 simp [R329, fnOut, seqM, MM.bind, MM.pure, getM, attrM, initM, inCs, fget, handM, addM, one, lenM, hu, hm, eqM]
def spanI : List Nat → List Nat × List Nat
 | [] => ([], [])
 | x :: l => match idS x with
  | true => match spanI l with
   | (w, rest) => (x :: w, rest)
  | false => ([], x :: l)
set_option tactic.hygienic true in
theorem spanI_is : ∀ (l w rest : List Nat), spanI l = (w, rest) → l = w ++ rest ∧ w.all idS = true
 | [], _, _, e => by cases e; exact ⟨rfl, rfl⟩
 | x :: l, w, rest, e => by
  unfold spanI at e
  split at e
  ·rename_i hx
   split at e
   rename_i w' rest' e'
   cases e
   obtain ⟨h1, h2⟩ := spanI_is l _ _ e'
   exact ⟨by rw [h1]; rfl, by rw [List.all_cons, hx, h2]; rfl⟩
  ·cases e; exact ⟨rfl, rfl⟩
noncomputable def consT (t : Tr) : Option (List Tr) → Option (List Tr)
 | some l => some (t :: l)
 | none => none
def lexF (tab : List Nat → Option (List Nat × MV)) : Nat → List Nat → Int → Int → Option (List Tr)
 | 0, _, _, _ => none
 | _ + 1, [], _, _ => some []
 | n + 1, x :: l, r, c => match Nat.beq x 10 with
  | true => lexF tab n l (r + 1) 1
  | false => match Nat.beq x 32 with
   | true => lexF tab n l r (c + 1)
   | false => match Nat.beq x 41 with
    | true => consT (.tok (S [41]) (S [41]) none r c) (lexF tab n l r (c + 1))
    | false => match Nat.beq x 40 with
     | true => match beqL (l.take 1) [59] with
      | true => none
      | false => consT (.tok (S [40]) (S [40]) none r c) (lexF tab n l r (c + 1))
     | false => match idS x with
      | true => match spanI l with
       | (w, rest) => match okS (rest.take 1) with
        | true => none
        | false => match tab (x :: w) with
         | some (s, v) => consT (.tok (S s) (S (x :: w)) (valOf v) r c) (lexF tab n rest r (c + (x :: w).length))
         | none => none
      | false => none
noncomputable abbrev MW (b : Option MV) : List (Option MV) := [some (.obj 0), b]
theorem b2E {α : Type} {c : Bool} {A B r : α} {C : Prop} (e : (match c with | true => A | false => B) = r) (h1 : c = true → A = r → C) (h2 : c = false → B = r → C) : C := by
 cases c with
 | true => exact h1 rfl e
 | false => exact h2 rfl e
structure WhR (T : MM Bool) (B : MM MF) (X : List Nat) (k : Nat) (b : Option MV) (p : Nat) (r c : Int) (ts : List MV) (μ : List MO) (l : List MV) : Prop where
 ex : ∃ b' p' r' c' μ', whileM T B k ⟨MW b, LX X p r c :: .list ts :: μ⟩ = some (.val .next, ⟨MW b', LX X p' r' c' :: .list l :: μ'⟩)
theorem WhR.go {T : MM Bool} {B : MM MF} {X : List Nat} {k : Nat} {b b1 : Option MV} {p p1 : Nat} {r r1 c c1 : Int} {ts ts1 : List MV} {μ μ1 : List MO} {l : List MV} (hT : T ⟨MW b, LX X p r c :: .list ts :: μ⟩ = some (.val true, ⟨MW b, LX X p r c :: .list ts :: μ⟩))
  (h1 : B ⟨MW b, LX X p r c :: .list ts :: μ⟩ = some (.val .next, ⟨MW b1, LX X p1 r1 c1 :: .list ts1 :: μ1⟩)) (h : WhR T B X k b1 p1 r1 c1 ts1 μ1 l) : WhR T B X (k + 1) b p r c ts μ l := by
 obtain ⟨b', p', r', c', μ', h2⟩ := h
 refine ⟨b', p', r', c', μ', ?_⟩
 unfold whileM
 unfold MM.bind
 rw [hT]
 simp only
 rw [h1]
 simp only
 exact h2
theorem consE {t : Tr} {q : Option (List Tr)} {out : List Tr} {C : Prop} (h : consT t q = some out) (k : ∀ o, q = some o → t :: o = out → C) : C := by
 cases q with
 | none => exact nsE h
 | some o => exact k o rfl (Option.some.inj h)
theorem snocL {ts : List MV} {t : Tr} {o out : List Tr} (e : t :: o = out) : ts ++ out.map .tree = (ts ++ [.tree t]) ++ o.map .tree := by rw [← e, List.append_assoc]; rfl
theorem l_whole {tab : List Nat → Option (List Nat × MV)} (htab : ∀ w s v, tab w = some (s, v) → SW w s v) {T : MM Bool} {B : MM MF} {X : List Nat} (hX : X.length ≤ 300)
  (hT : ∀ n r c b μ, T ⟨MW b, LX X n r c :: μ⟩ = some (.val (decide (n < X.length)), ⟨MW b, LX X n r c :: μ⟩))
  (hBl : ∀ n r c b μ x, X[n]? = some x → memL [32, 9, 10, 13] x = true → Nat.beq x 13 = false → B ⟨MW b, LX X n r c :: μ⟩ = some (.val .next, ⟨MW (some (.str [x])), LX X (n + 1) (bif Nat.beq x 10 then r + 1 else r) (bif Nat.beq x 10 then 1 else c + 1) :: μ⟩))
  (hPa : ∀ n r c b μ x ts, X[n]? = some x → memL [40, 41] x = true → beqL ((X.drop n).take 2) [40, 59] = false → ts.length ≤ 300 → B ⟨MW b, LX X n r c :: .list ts :: μ⟩ = some (.val .next, ⟨MW (some (.str [x])), LX X (n + 1) r (c + 1) :: .list (ts ++ [.tree (.tok (S [x]) (S [x]) none r c)]) :: (μ ++ [.lock])⟩))
  (hWo : ∀ n r c b μ x ts w rest s v, X.drop n = x :: w ++ rest → (x :: w).all idS = true → okS (rest.take 1) = false → SW (x :: w) s v → ts.length ≤ 300 → B ⟨MW b, LX X n r c :: .list ts :: μ⟩ = some (.val .next, ⟨MW (some (.str [x])), LX X (n + (x :: w).length) r (c + (x :: w).length) :: .list (ts ++ [.tree (.tok (S s) (S (x :: w)) (valOf v) r c)]) :: (μ ++ [.lock])⟩)) :
  ∀ (k n : Nat) (l : List Nat) (p : Nat) (r c : Int) (out : List Tr) (ts : List MV) (b : Option MV) (μ : List MO), n ≤ k → X.drop p = l → ts.length + l.length ≤ 300 → lexF tab n l r c = some out →
   WhR T B X k b p r c ts μ (ts ++ out.map .tree) := by
 intro k
 induction k with
 | zero =>
  intro n l p r c out ts b μ hn _ _ e
  cases Nat.le_zero.mp hn
  unfold lexF at e; exact nsE e
 | succ k ih =>
  intro n l p r c out ts b μ hn hd hlen e
  cases n with
  | zero => unfold lexF at e; exact nsE e
  | succ n =>
   cases l with
   | nil =>
    unfold lexF at e; obtain rfl := Option.some.inj e
    have hp : ¬ p < X.length := by have := congrArg List.length hd; simp at this; omega
    refine ⟨b, p, r, c, μ, ?_⟩
    unfold whileM
    unfold MM.bind
    rw [hT, decide_eq_false hp]
    simp [MM.pure]
   | cons x l =>
    have hx : X[p]? = some x := by rw [← List.head?_drop, hd]; rfl
    have hd' : X.drop (p + 1) = l := by rw [← List.drop_drop, hd]; rfl
    have hp : p < X.length := by have := congrArg List.length hd; simp at this; omega
    have hl' : ts.length + l.length + 1 ≤ 300 := by rw [List.length_cons] at hlen; omega
    have hTt : ∀ μ, T ⟨MW b, LX X p r c :: μ⟩ = some (.val true, ⟨MW b, LX X p r c :: μ⟩) := fun μ => by rw [hT, decide_eq_true hp]
    unfold lexF at e
    refine b2E e (fun h10 e => ?_) fun h10 e => ?_
    ·cases Nat.eq_of_beq_eq_true h10
     exact .go (hTt _) (hBl p r c b _ 10 hx rfl rfl) (ih n l (p + 1) _ _ out ts _ _ (Nat.le_of_succ_le_succ hn) hd' (Nat.le_of_succ_le hl') e)
    refine b2E e (fun h32 e => ?_) fun h32 e => ?_
    ·cases Nat.eq_of_beq_eq_true h32
     exact .go (hTt _) (hBl p r c b _ 32 hx rfl rfl) (ih n l (p + 1) _ _ out ts _ _ (Nat.le_of_succ_le_succ hn) hd' (Nat.le_of_succ_le hl') e)
    refine b2E e (fun h41 e => ?_) fun h41 e => ?_
    ·cases Nat.eq_of_beq_eq_true h41
     refine consE e fun o e' qe => ?_
     rw [snocL qe]
     exact .go (hTt _) (hPa p r c b μ 41 ts hx rfl (by rw [hd]; rfl) (by omega)) (ih n l (p + 1) r (c + 1) o _ _ _ (Nat.le_of_succ_le_succ hn) hd' (by simp; omega) e')
    refine b2E e (fun h40 e => ?_) fun h40 e => ?_
    ·cases Nat.eq_of_beq_eq_true h40
     refine b2E e (fun _ e => nsE e) fun h59 e => ?_
     refine consE e fun o e' qe => ?_
     rw [snocL qe]
     exact .go (hTt _) (hPa p r c b μ 40 ts hx rfl (by rw [hd]; exact h59) (by omega)) (ih n l (p + 1) r (c + 1) o _ _ _ (Nat.le_of_succ_le_succ hn) hd' (by simp; omega) e')
    refine b2E e (fun hid e => ?_) fun _ e => nsE e
    cases hsp : spanI l with
    | mk w rest =>
     rw [hsp] at e
     dsimp only at e
     refine b2E e (fun _ e => nsE e) fun hst e => ?_
     cases ht : tab (x :: w) with
     | none => rw [ht] at e; exact nsE e
     | some sv =>
      obtain ⟨s, v⟩ := sv
      rw [ht] at e
      dsimp only at e
      refine consE e fun o e' qe => ?_
      rw [snocL qe]
      obtain ⟨h1, h2⟩ := spanI_is l w rest hsp
      have hd1 : X.drop p = x :: w ++ rest := by rw [hd, h1]; rfl
      exact .go (hTt _) (hWo p r c b μ x ts w rest s v hd1 (by rw [List.all_cons, hid, h2]; rfl) hst (htab _ _ _ ht) (by omega)) (ih n rest (p + (x :: w).length) r (c + (x :: w).length) o _ _ _ (Nat.le_of_succ_le_succ hn) (by rw [← List.drop_drop, hd1, List.drop_left]) (by rw [h1] at hl'; simp at hl' ⊢; omega) e')
theorem l_init (X : List Nat) (m : List (Option MV)) : newM 396 R315.val [.str X] ⟨m, []⟩ = some (.val (.obj 0), ⟨m, [LX X 0 1 1, .list []]⟩) := by
 simp [newM, R315, fnOut, seqM, MM.bind, MM.pure, getM, initM, setM, inCs, fput, listM]
theorem l_whl {tab : List Nat → Option (List Nat × MV)} (htab : ∀ w s v, tab w = some (s, v) → SW w s v) {X : List Nat} (hX : X.length ≤ 300) {n : Nat} (hn : n ≤ 400) {out : List Tr} (e : lexF tab n X 1 1 = some out) :
  ∃ p r c μ, R393.val [.obj 0] [LX X 0 1 1, .list []] = some (.val (.obj 1), LX X p r c :: .list (out.map .tree) :: μ) := by
 have hX' : X.length ≤ 60000 := by omega
 have hsh : shortL X = true := Nat.ble_eq_true_of_le hX'
 simp only [R393]
 generalize hL : whileM _ _ 400 = L
 have hLL : ∃ b' p' r' c' μ', L ⟨MW none, LX X 0 1 1 :: .list [] :: []⟩ = some (.val .next, ⟨MW b', LX X p' r' c' :: .list ([] ++ out.map .tree) :: μ'⟩) := by
  rw [← hL]
  clear hL
  refine (l_whole htab hX (fun p r c b μ => ?_) (fun p r c b μ x hx h h13 => ?_) (fun p r c b μ x ts hx h h2 hts => ?_) (fun p r c b μ x ts w rest s v hd ha hs sw hts => ?_) 400 n X 0 1 1 out [] none [] hn rfl (by simpa using hX) e).ex
  ·simp [MM.bind, MM.pure, getM, attrM, inCs, fget, handM, one, lenM, hsh, ltM, truthM]
  ·have e : (X.drop p).take 1 = [x] := by
    rw [List.take_one, List.head?_drop, hx]; rfl
   simp [seqM, MM.bind, MM.pure, getM, putM, clsM, callM, truthM, l_here _ _ _ _ _ hX', e, l_inS, h, l_step hX' hx h13]
  ·have e : (X.drop p).take 1 = [x] := by
    rw [List.take_one, List.head?_drop, hx]; rfl
   have hdr : ∃ l, X.drop p = x :: l := by
    cases q : X.drop p with
    | nil => rw [q] at e; cases e
    | cons y l => rw [q] at e; cases e; exact ⟨l, rfl⟩
   obtain ⟨l, hd⟩ := hdr
   have hbl : Nat.ble ts.length 10000 = true := Nat.ble_eq_true_of_le (by omega)
   have hm : x = 40 ∨ x = 41 := by
    rw [memL_is] at h
    simpa using h
   rcases hm with rfl | rfl
   ·have h3 : beqL (l.take 1) [59] = false := by rw [hd] at h2; exact h2
    simp [h3, seqM, MM.bind, MM.pure, getM, putM, clsM, callM, truthM, l_here _ _ _ _ _ hX', e, l_inS, memL, l_starts _ hX', h2, hd, beqL, attrM, inCs, fget, handM, isList, l_tok, l_frz, appendM, hbl, l_step hX' hx rfl, shortL, valOf]
    exact ⟨rfl, rfl⟩
   ·simp [seqM, MM.bind, MM.pure, getM, putM, clsM, callM, truthM, l_here _ _ _ _ _ hX', e, l_inS, memL, l_starts _ hX', h2, hd, beqL, attrM, inCs, fget, handM, isList, l_tok, l_frz, appendM, hbl, l_step hX' hx rfl, shortL, valOf]
    exact ⟨rfl, rfl⟩
  ·rw [List.all_cons, Bool.and_eq_true] at ha
   have hx : X[p]? = some x := by rw [← List.head?_drop, hd]; rfl
   have e : (X.drop p).take 1 = [x] := by
    rw [List.take_one, List.head?_drop, hx]; rfl
   have q := id_ne ha.1
   have hid : memL IDS x = true := ha.1
   simp [seqM, MM.bind, MM.pure, getM, putM, clsM, callM, truthM, l_here _ _ _ _ _ hX', e, l_inS, q, l_starts _ hX', hd, beqL, shortL, tor, l_eq1, hid, l_run hX (w := x :: w) (by simp) hd (by simp [ha]) hs sw hts]
 refine ee51 hLL fun b' p' r' c' μ' hb => ?_
 refine ⟨p', r', c', μ', ?_⟩
 simp [fnOut, seqM, MM.bind, MM.pure, initM, hb, getM, attrM, inCs, fget, handM]
theorem l_tokens {tab : List Nat → Option (List Nat × MV)} (htab : ∀ w s v, tab w = some (s, v) → SW w s v) {X : List Nat} (hX : X.length ≤ 300) {n : Nat} (hn : n ≤ 400) {out : List Tr} (e : lexF tab n X 1 1 = some out) :
  ∃ μ, R407.val [.str X] [] = some (.val (.trees out), μ) := by
 refine ee41 (l_whl htab hX hn e) fun p r c μ h => ?_
 have ht : treesOf (out.map .tree) = some out := by
  clear h e
  induction out with
  | nil => rfl
  | cons t l ih => simp [treesOf, ih]
 refine ⟨LX X p r c :: .lock :: μ, ?_⟩
 simp [R407, fnOut, seqM, MM.bind, MM.pure, initM, getM, l_init, clsM, callM, h, frzM, ht]
noncomputable def tabS : List (List Nat × List Nat × MV) := [([108, 111, 99, 97, 108], [119, 111, 114, 100], .str [108, 111, 99, 97, 108]), ([105, 51, 50], [119, 111, 114, 100], .str [105, 51, 50]), ([110, 111, 112], [119, 111, 114, 100], .str [110, 111, 112]), ([114, 101, 115, 117, 108, 116], [119, 111, 114, 100], .str [114, 101, 115, 117, 108, 116]), ([120], [119, 111, 114, 100], .str [120]), ([36, 113], [105, 100], .str [36, 113]), ([116, 121, 112, 101], [119, 111, 114, 100], .str [116, 121, 112, 101]), ([48], [105, 110, 116], .int 0), ([112, 97, 114, 97, 109], [119, 111, 114, 100], .str [112, 97, 114, 97, 109]), ([105, 54, 52], [119, 111, 114, 100], .str [105, 54, 52]), ([36, 120], [105, 100], .str [36, 120]), ([36, 98], [105, 100], .str [36, 98]), ([50], [105, 110, 116], .int 2), ([36, 121], [105, 100], .str [36, 121]), ([36, 99], [105, 100], .str [36, 99]), ([102, 117, 110, 99, 114, 101, 102], [119, 111, 114, 100], .str [102, 117, 110, 99, 114, 101, 102]), ([36, 122], [105, 100], .str [36, 122]), ([101, 120, 116, 101, 114, 110, 114, 101, 102], [119, 111, 114, 100], .str [101, 120, 116, 101, 114, 110, 114, 101, 102]), ([57, 57], [105, 110, 116], .int 99), ([52], [105, 110, 116], .int 4), ([48, 120, 48], [105, 110, 116], .int 0), ([49], [105, 110, 116], .int 1), ([36, 110, 111, 110, 101], [105, 100], .str [36, 110, 111, 110, 101]), ([43, 49], [105, 110, 116], .int 1), ([52, 50, 57, 52, 57, 54, 55, 50, 57, 54], [105, 110, 116], .int 4294967296), ([53], [105, 110, 116], .int 5)]
def lookS : List (List Nat × List Nat × MV) → List Nat → Option (List Nat × MV)
 | [], _ => none
 | (a, p) :: r, w => match beqL a w with
  | true => some p
  | false => lookS r w
theorem tabS_ok : ∀ e ∈ tabS, SW e.1 e.2.1 e.2.2 := by
 unfold tabS
 simp only [List.forall_mem_cons]
 exact ⟨fun μ => by kernel_rfl, fun μ => by kernel_rfl, fun μ => by kernel_rfl, fun μ => by kernel_rfl, fun μ => by kernel_rfl, fun μ => by kernel_rfl, fun μ => by kernel_rfl, fun μ => by kernel_rfl, fun μ => by kernel_rfl, fun μ => by kernel_rfl, fun μ => by kernel_rfl, fun μ => by kernel_rfl, fun μ => by kernel_rfl, fun μ => by kernel_rfl, fun μ => by kernel_rfl, fun μ => by kernel_rfl, fun μ => by kernel_rfl, fun μ => by kernel_rfl, fun μ => by kernel_rfl, fun μ => by kernel_rfl, fun μ => by kernel_rfl, fun μ => by kernel_rfl, fun μ => by kernel_rfl, fun μ => by kernel_rfl, fun μ => by kernel_rfl, fun μ => by kernel_rfl, fun _ h => nomatch h⟩
theorem lookS_is : ∀ (l : List (List Nat × List Nat × MV)) (w s : List Nat) (v : MV), (∀ e ∈ l, SW e.1 e.2.1 e.2.2) → lookS l w = some (s, v) → SW w s v
 | [], _, _, _, _, h => nomatch h
 | (a, p) :: r, w, s, v, hl, h => by
  unfold lookS at h
  split at h
  ·rename_i hb
   cases h
   rw [beqL_is] at hb
   cases of_decide_eq_true hb
   exact hl _ (.head _)
  ·exact lookS_is r w s v (fun e he => hl e (.tail _ he)) h
def R414F : {F : FF → FF // ∀ ft, FnR 407 7 ft → FnR 414 8 (F ft)} := ⟨fun ft => _, fun ft h => FnR.mk (addr := 414) (D := 7) (n := 1) (ns := ["text", "found", "opened", "token", "item", "goal"]) (init := initM [] 5) (fun P => rfl) (fun P => by kernel_rfl)
 (by exact BindOk.mk ["text"] ["found", "opened", "token", "item", "goal"] [] [] 5)
 (EvB.cons (EvS.unpack (names := ["found", "opened"]) (is := [1, 2]) (Ev.tup (EvA.cons (Ev.list EvA.nil) (EvA.cons (Ev.list EvA.nil) EvA.nil))) rfl (by decide +kernel) (fun _ => rfl) (fun g hg => by obtain ⟨⟩ := g; subst hg; rfl))
  (EvB.cons (EvS.for (i := 3) (by kernel_rfl) (by kernel_rfl) rfl (src_trees (Ev.call (Ev.glob (v := .ref 407)) (EvA.cons (Ev.loc (i := 0)) EvA.nil) h)) (EvB.cons (EvS.if (EvT.cmp (Ev.attr (Cs := [116]) (c := 4) (Ev.loc (i := 3))) (Ev.cstr (xs := [40])) op_eq) (EvB.cons (EvS.expr (Ev.listMeth (Ev.loc (i := 2)) (EvA.cons (Ev.new (Ev.glob (v := .ref 144)) (EvA.cons (Ev.list EvA.nil) (EvA.cons (Ev.attr (Cs := [269, 116, 144, 396]) (c := 2) (Ev.loc (i := 3))) (EvA.cons (Ev.attr (Cs := [269, 116, 144, 396]) (c := 3) (Ev.loc (i := 3))) EvA.nil))) R134.2) EvA.nil) PySem.F.slot_list_append PySem.F.type_list_append op_append _))
  EvB.nil) (EvB.cons (EvS.assign (i := 4) (Ev.loc (i := 3)))
  (EvB.cons (EvS.if (EvT.cmp (Ev.attr (Cs := [116]) (c := 4) (Ev.loc (i := 3))) (Ev.cstr (xs := [41])) op_eq) (EvB.cons (EvS.if (EvT.cmp (Ev.callB Ev.bltn (EvA.cons (Ev.loc (i := 2)) EvA.nil) op_len1) Ev.cint op_eq) (EvB.cons (EvS.raise (Ev.glob (v := .ref 58)) (EvA.cons (Ev.cstr (xs := [117, 110, 101, 120, 112, 101, 99, 116, 101, 100, 32, 116, 111, 107, 101, 110])) (EvA.cons (Ev.attr (Cs := [269, 116, 144, 396]) (c := 2) (Ev.loc (i := 3))) (EvA.cons (Ev.attr (Cs := [269, 116, 144, 396]) (c := 3) (Ev.loc (i := 3))) EvA.nil))) (by decide) (fun P => by kernel_rfl) (fun P => by kernel_rfl) (fun P => by kernel_rfl))
  EvB.nil) EvB.nil)
  (EvB.cons (EvS.assign (i := 4) (Ev.frzB (Ev.listMeth0 (Ev.loc (i := 2)) PySem.F.slot_list_pop PySem.F.type_list_pop op_pop _)))
  EvB.nil)) EvB.nil)
  (EvB.cons (EvS.assign (i := 5) (Ev.ifexp (EvT.cmp (Ev.callB Ev.bltn (EvA.cons (Ev.loc (i := 2)) EvA.nil) op_len1) Ev.cint op_gt) (Ev.attr (Cs := [269, 144]) (c := 0) (Ev.item (Ev.loc (i := 2)) (Ev.neg Ev.cint))) (Ev.loc (i := 1))))
  (EvB.cons (EvS.expr (Ev.listMeth (Ev.loc (i := 5)) (EvA.cons (Ev.loc (i := 4)) EvA.nil) PySem.F.slot_list_append PySem.F.type_list_append op_append _))
  EvB.nil)))))
  EvB.nil))
  (EvB.cons (EvS.if (EvT.cmp (Ev.callB Ev.bltn (EvA.cons (Ev.loc (i := 2)) EvA.nil) op_len1) Ev.cint op_gt) (EvB.cons (EvS.raise (Ev.glob (v := .ref 58)) (EvA.cons (Ev.cstr (xs := [117, 110, 101, 120, 112, 101, 99, 116, 101, 100, 32, 101, 110, 100])) (EvA.cons (Ev.attr (Cs := [269, 116, 144, 396]) (c := 2) (Ev.item (Ev.loc (i := 2)) (Ev.neg Ev.cint))) (EvA.cons (Ev.attr (Cs := [269, 116, 144, 396]) (c := 3) (Ev.item (Ev.loc (i := 2)) (Ev.neg Ev.cint))) EvA.nil))) (by decide) (fun P => by kernel_rfl) (fun P => by kernel_rfl) (fun P => by kernel_rfl))
  EvB.nil) EvB.nil)
  (EvB.cons (EvS.ret (Ev.frz (Ev.loc (i := 1))))
  EvB.nil)))) rfl rfl rfl (by decide)⟩
theorem R414_is : R414.val = R414F.val (frameF R407.val) := by kernel_rfl
def TZ (X Z : List Nat) (r c : Int) : Option (List Tr) := match lexF (lookS tabS) 300 Z r c with
 | some ts => match R414F.val (fun _ _ => some (.val (.trees ts), [.list [], .list []])) [.str X] [] with
  | some (.val (.trees out), _) => some out
  | _ => none
 | none => none
theorem lex_nl (tab : List Nat → Option (List Nat × MV)) (n : Nat) (l : List Nat) (c : Int) : ∀ (a : Nat) (r : Int), lexF tab (n + a) (List.replicate a 10 ++ l) r c = lexF tab n l (r + a) (bif Nat.beq a 0 then c else 1)
 | 0, r => by simp
 | a + 1, r => by
  have h : lexF tab (n + (a + 1)) (List.replicate (a + 1) 10 ++ l) r c = lexF tab (n + a) (List.replicate a 10 ++ l) (r + 1) 1 := rfl
  rw [h]
  have := lex_nl tab n l 1 a (r + 1)
  rw [this]
  rw [show r + 1 + (a : Int) = r + ((a + 1 : Nat) : Int) from by omega]
  cases a <;> rfl
theorem lex_sp (tab : List Nat → Option (List Nat × MV)) (n : Nat) (l : List Nat) (r : Int) : ∀ (b : Nat) (c : Int), lexF tab (n + b) (List.replicate b 32 ++ l) r c = lexF tab n l r (c + b)
 | 0, c => by simp
 | b + 1, c => by
  have h : lexF tab (n + (b + 1)) (List.replicate (b + 1) 32 ++ l) r c = lexF tab (n + b) (List.replicate b 32 ++ l) r (c + 1) := rfl
  rw [h, lex_sp tab n l r b (c + 1), show c + 1 + (b : Int) = c + ((b + 1 : Nat) : Int) from by omega]
set_option tactic.hygienic true in
theorem TZ_is {a b : Nat} {Z : List Nat} {out : List Tr} (ha : a ≤ 2) (hb : b ≤ 2) (hZ : Nat.ble Z.length 290 = true) (h : TZ (List.replicate a 10 ++ (List.replicate b 32 ++ Z)) Z (1 + a) (1 + b) = some out) (μ : List MO) :
  frameF R414.val [.str (List.replicate a 10 ++ (List.replicate b 32 ++ Z))] μ = some (.val (.trees out), μ) := by
 have hZ' := Nat.le_of_ble_eq_true hZ
 unfold TZ at h
 split at h
 ·rename_i ts hts
  have hl : lexF (lookS tabS) (300 + b + a) (List.replicate a 10 ++ (List.replicate b 32 ++ Z)) 1 1 = some ts := by
   rw [lex_nl, lex_sp, ← hts]
   congr 1
   cases a with
   | zero => rfl
   | succ a => rfl
  obtain ⟨μ', hR⟩ := l_tokens (lookS_is tabS · · · tabS_ok) (X := List.replicate a 10 ++ (List.replicate b 32 ++ Z)) (by simp; omega) (by omega) hl
  generalize hX : List.replicate a 10 ++ (List.replicate b 32 ++ Z) = X at *
  have hft : frameF R407.val [.str X] [.list [], .list []] = some (.val (.trees ts), [.list [], .list []]) := by
   unfold frameF
   show (match R407.val [.str X] [] with | some (.val v, _) => _ | _ => none) = _
   rw [hR]
   rfl
  have h414 : R414.val [.str X] [] = R414F.val (fun _ _ => frameF R407.val [.str X] [.list [], .list []]) [.str X] [] := by
   rw [R414_is]
   kernel_rfl
  rw [hft] at h414
  split at h
  ·rename_i out' μ2 hr
   obtain rfl := Option.some.inj h
   unfold frameF
   show (match R414.val [.str X] [] with | some (.val v, _) => _ | _ => none) = _
   rw [h414, hr]
   rfl
  ·exact nsE h
 ·exact nsE h
noncomputable def ATl : Nat → List Nat
 | 0 => []
 | 1 => [110, 111, 112, 32]
 | 2 => [36, 113, 32, 40, 116, 121, 112, 101, 32, 48, 41, 32]
 | _ => []
noncomputable def TLl : Nat → List Nat
 | 0 => []
 | 1 => [32, 40, 108, 111, 99, 97, 108, 32, 105, 51, 50, 41]
 | 2 => [10, 110, 111, 112, 32, 40, 114, 101, 115, 117, 108, 116, 32, 120, 41]
 | _ => []
noncomputable def W0 : List Nat := []
noncomputable def W1 : List Nat := 40 :: 112 :: 97 :: 114 :: 97 :: 109 :: 32 :: 105 :: 51 :: 50 :: 41 :: 32 :: 40 :: 114 :: 101 :: 115 :: 117 :: 108 :: 116 :: 32 :: 105 :: 54 :: 52 :: 41 :: []
noncomputable def W2 : List Nat := 40 :: 112 :: 97 :: 114 :: 97 :: 109 :: 32 :: 36 :: 120 :: 32 :: 105 :: 51 :: 50 :: 41 :: 32 :: 40 :: 114 :: 101 :: 115 :: 117 :: 108 :: 116 :: 32 :: 105 :: 54 :: 52 :: 41 :: []
noncomputable def W3 : List Nat := 40 :: 116 :: 121 :: 112 :: 101 :: 32 :: 36 :: 98 :: 41 :: []
noncomputable def W4 : List Nat := 40 :: 116 :: 121 :: 112 :: 101 :: 32 :: 50 :: 41 :: []
noncomputable def W5 : List Nat := 40 :: 116 :: 121 :: 112 :: 101 :: 32 :: 50 :: 41 :: 32 :: 40 :: 112 :: 97 :: 114 :: 97 :: 109 :: 32 :: 36 :: 121 :: 32 :: 105 :: 51 :: 50 :: 41 :: 32 :: 40 :: 114 :: 101 :: 115 :: 117 :: 108 :: 116 :: 32 :: 105 :: 54 :: 52 :: 41 :: []
noncomputable def W6 : List Nat := 40 :: 116 :: 121 :: 112 :: 101 :: 32 :: 36 :: 99 :: 41 :: 32 :: 40 :: 112 :: 97 :: 114 :: 97 :: 109 :: 32 :: 102 :: 117 :: 110 :: 99 :: 114 :: 101 :: 102 :: 41 :: 32 :: 40 :: 112 :: 97 :: 114 :: 97 :: 109 :: 32 :: 36 :: 122 :: 32 :: 101 :: 120 :: 116 :: 101 :: 114 :: 110 :: 114 :: 101 :: 102 :: 41 :: []
noncomputable def W7 : List Nat := 40 :: 116 :: 121 :: 112 :: 101 :: 32 :: 57 :: 57 :: 41 :: []
noncomputable def W8 : List Nat := 40 :: 116 :: 121 :: 112 :: 101 :: 32 :: 52 :: 41 :: []
noncomputable def W9 : List Nat := 40 :: 116 :: 121 :: 112 :: 101 :: 32 :: 48 :: 120 :: 48 :: 41 :: 32 :: 40 :: 112 :: 97 :: 114 :: 97 :: 109 :: 41 :: 32 :: 40 :: 114 :: 101 :: 115 :: 117 :: 108 :: 116 :: 41 :: []
noncomputable def W10 : List Nat := 40 :: 116 :: 121 :: 112 :: 101 :: 32 :: 57 :: 57 :: 41 :: 32 :: 40 :: 112 :: 97 :: 114 :: 97 :: 109 :: 41 :: []
noncomputable def W11 : List Nat := 40 :: 112 :: 97 :: 114 :: 97 :: 109 :: 32 :: 36 :: 120 :: 32 :: 105 :: 51 :: 50 :: 41 :: 32 :: 40 :: 112 :: 97 :: 114 :: 97 :: 109 :: 32 :: 36 :: 121 :: 32 :: 105 :: 54 :: 52 :: 41 :: 32 :: 40 :: 112 :: 97 :: 114 :: 97 :: 109 :: 32 :: 101 :: 120 :: 116 :: 101 :: 114 :: 110 :: 114 :: 101 :: 102 :: 41 :: 32 :: 40 :: 112 :: 97 :: 114 :: 97 :: 109 :: 32 :: 36 :: 122 :: 32 :: 105 :: 51 :: 50 :: 41 :: []
noncomputable def W12 : List Nat := 40 :: 114 :: 101 :: 115 :: 117 :: 108 :: 116 :: 32 :: 105 :: 54 :: 52 :: 41 :: 32 :: 40 :: 112 :: 97 :: 114 :: 97 :: 109 :: 32 :: 105 :: 51 :: 50 :: 41 :: []
noncomputable def W13 : List Nat := 40 :: 112 :: 97 :: 114 :: 97 :: 109 :: 32 :: 105 :: 51 :: 50 :: 41 :: 32 :: 40 :: 116 :: 121 :: 112 :: 101 :: 32 :: 49 :: 41 :: []
noncomputable def W14 : List Nat := 40 :: 112 :: 97 :: 114 :: 97 :: 109 :: 32 :: 102 :: 117 :: 110 :: 99 :: 114 :: 101 :: 102 :: 32 :: 101 :: 120 :: 116 :: 101 :: 114 :: 110 :: 114 :: 101 :: 102 :: 41 :: 32 :: 40 :: 114 :: 101 :: 115 :: 117 :: 108 :: 116 :: 41 :: 32 :: 40 :: 114 :: 101 :: 115 :: 117 :: 108 :: 116 :: 32 :: 105 :: 51 :: 50 :: 32 :: 105 :: 51 :: 50 :: 41 :: []
noncomputable def W15 : List Nat := 40 :: 114 :: 101 :: 115 :: 117 :: 108 :: 116 :: 41 :: []
noncomputable def W16 : List Nat := 40 :: 116 :: 121 :: 112 :: 101 :: 32 :: 52 :: 41 :: 32 :: 40 :: 112 :: 97 :: 114 :: 97 :: 109 :: 32 :: 105 :: 51 :: 50 :: 41 :: []
noncomputable def W17 : List Nat := 40 :: 116 :: 121 :: 112 :: 101 :: 32 :: 48 :: 41 :: 32 :: 40 :: 112 :: 97 :: 114 :: 97 :: 109 :: 32 :: 105 :: 51 :: 50 :: 41 :: []
noncomputable def W18 : List Nat := 40 :: 116 :: 121 :: 112 :: 101 :: 32 :: 57 :: 57 :: 41 :: 32 :: 40 :: 114 :: 101 :: 115 :: 117 :: 108 :: 116 :: 32 :: 105 :: 54 :: 52 :: 41 :: []
noncomputable def W19 : List Nat := 40 :: 116 :: 121 :: 112 :: 101 :: 32 :: 49 :: 41 :: 32 :: 40 :: 112 :: 97 :: 114 :: 97 :: 109 :: 32 :: 105 :: 51 :: 50 :: 41 :: []
noncomputable def W20 : List Nat := 40 :: 116 :: 121 :: 112 :: 101 :: 32 :: 36 :: 98 :: 41 :: 32 :: 40 :: 114 :: 101 :: 115 :: 117 :: 108 :: 116 :: 32 :: 105 :: 54 :: 52 :: 41 :: []
noncomputable def W21 : List Nat := 40 :: 116 :: 121 :: 112 :: 101 :: 32 :: 49 :: 41 :: 32 :: 40 :: 112 :: 97 :: 114 :: 97 :: 109 :: 32 :: 105 :: 54 :: 52 :: 41 :: 32 :: 40 :: 114 :: 101 :: 115 :: 117 :: 108 :: 116 :: 32 :: 105 :: 54 :: 52 :: 41 :: []
noncomputable def W22 : List Nat := 40 :: 116 :: 121 :: 112 :: 101 :: 32 :: 36 :: 110 :: 111 :: 110 :: 101 :: 41 :: []
noncomputable def W23 : List Nat := 40 :: 116 :: 121 :: 112 :: 101 :: 32 :: 120 :: 41 :: []
noncomputable def W24 : List Nat := 40 :: 116 :: 121 :: 112 :: 101 :: 32 :: 48 :: 32 :: 48 :: 41 :: []
noncomputable def W25 : List Nat := 40 :: 116 :: 121 :: 112 :: 101 :: 41 :: []
noncomputable def W26 : List Nat := 40 :: 116 :: 121 :: 112 :: 101 :: 32 :: 40 :: 48 :: 41 :: 41 :: []
noncomputable def W27 : List Nat := 40 :: 116 :: 121 :: 112 :: 101 :: 32 :: 43 :: 49 :: 41 :: []
noncomputable def W28 : List Nat := 40 :: 116 :: 121 :: 112 :: 101 :: 32 :: 52 :: 50 :: 57 :: 52 :: 57 :: 54 :: 55 :: 50 :: 57 :: 54 :: 41 :: []
noncomputable def W29 : List Nat := 40 :: 112 :: 97 :: 114 :: 97 :: 109 :: 32 :: 36 :: 120 :: 32 :: 105 :: 51 :: 50 :: 41 :: 32 :: 40 :: 112 :: 97 :: 114 :: 97 :: 109 :: 32 :: 36 :: 120 :: 32 :: 105 :: 51 :: 50 :: 41 :: []
noncomputable def W30 : List Nat := 40 :: 112 :: 97 :: 114 :: 97 :: 109 :: 32 :: 36 :: 120 :: 32 :: 120 :: 41 :: []
noncomputable def W31 : List Nat := 40 :: 112 :: 97 :: 114 :: 97 :: 109 :: 32 :: 36 :: 120 :: 41 :: []
noncomputable def W32 : List Nat := 40 :: 112 :: 97 :: 114 :: 97 :: 109 :: 32 :: 36 :: 120 :: 32 :: 105 :: 51 :: 50 :: 32 :: 105 :: 51 :: 50 :: 41 :: []
noncomputable def W33 : List Nat := 40 :: 112 :: 97 :: 114 :: 97 :: 109 :: 32 :: 105 :: 51 :: 50 :: 32 :: 36 :: 120 :: 41 :: []
noncomputable def W34 : List Nat := 40 :: 114 :: 101 :: 115 :: 117 :: 108 :: 116 :: 32 :: 36 :: 120 :: 32 :: 105 :: 51 :: 50 :: 41 :: []
noncomputable def W35 : List Nat := 40 :: 114 :: 101 :: 115 :: 117 :: 108 :: 116 :: 32 :: 105 :: 51 :: 50 :: 32 :: 53 :: 41 :: []
noncomputable def W36 : List Nat := 40 :: 112 :: 97 :: 114 :: 97 :: 109 :: 32 :: 40 :: 105 :: 51 :: 50 :: 41 :: 41 :: []
noncomputable def W37 : List Nat := 40 :: 116 :: 121 :: 112 :: 101 :: 32 :: 49 :: 41 :: 32 :: 40 :: 112 :: 97 :: 114 :: 97 :: 109 :: 32 :: 36 :: 120 :: 32 :: 105 :: 51 :: 50 :: 32 :: 105 :: 54 :: 52 :: 41 :: []
def preT : Nat → Nat → Nat → List Tr
 | 0, a, c => []
 | 1, a, c => [.tok (S [119, 111, 114, 100]) (S [110, 111, 112]) none (.ofNat (a + 1)) (.ofNat c)]
 | 2, a, c => [.tok (S [105, 100]) (S [36, 113]) none (.ofNat (a + 1)) (.ofNat c), .br [.tok (S [119, 111, 114, 100]) (S [116, 121, 112, 101]) none (.ofNat (a + 1)) (.ofNat (c + 4)), .tok (S [105, 110, 116]) (S [48]) (some 0) (.ofNat (a + 1)) (.ofNat (c + 9))] (.ofNat (a + 1)) (.ofNat (c + 3))]
 | _, a, c => []
def postT : Nat → Nat → Nat → List Tr
 | 0, a, c => []
 | 1, a, c => [.br [.tok (S [119, 111, 114, 100]) (S [108, 111, 99, 97, 108]) none (.ofNat (a + 1)) (.ofNat (c + 2)), .tok (S [119, 111, 114, 100]) (S [105, 51, 50]) none (.ofNat (a + 1)) (.ofNat (c + 8))] (.ofNat (a + 1)) (.ofNat (c + 1))]
 | 2, a, c => [.tok (S [119, 111, 114, 100]) (S [110, 111, 112]) none (.ofNat (a + 2)) 1, .br [.tok (S [119, 111, 114, 100]) (S [114, 101, 115, 117, 108, 116]) none (.ofNat (a + 2)) 6, .tok (S [119, 111, 114, 100]) (S [120]) none (.ofNat (a + 2)) 13] (.ofNat (a + 2)) 5]
 | _, a, c => []
noncomputable def mid0 (a c : Nat) : List Tr := []
def mid1 (a c : Nat) : List Tr := [.br [.tok (S [119, 111, 114, 100]) (S [112, 97, 114, 97, 109]) none (.ofNat (a + 1)) (.ofNat (c + 1)), .tok (S [119, 111, 114, 100]) (S [105, 51, 50]) none (.ofNat (a + 1)) (.ofNat (c + 7))] (.ofNat (a + 1)) (.ofNat c), .br [.tok (S [119, 111, 114, 100]) (S [114, 101, 115, 117, 108, 116]) none (.ofNat (a + 1)) (.ofNat (c + 13)), .tok (S [119, 111, 114, 100]) (S [105, 54, 52]) none (.ofNat (a + 1)) (.ofNat (c + 20))] (.ofNat (a + 1)) (.ofNat (c + 12))]
def mid2 (a c : Nat) : List Tr := [.br [.tok (S [119, 111, 114, 100]) (S [112, 97, 114, 97, 109]) none (.ofNat (a + 1)) (.ofNat (c + 1)), .tok (S [105, 100]) (S [36, 120]) none (.ofNat (a + 1)) (.ofNat (c + 7)), .tok (S [119, 111, 114, 100]) (S [105, 51, 50]) none (.ofNat (a + 1)) (.ofNat (c + 10))] (.ofNat (a + 1)) (.ofNat c), .br [.tok (S [119, 111, 114, 100]) (S [114, 101, 115, 117, 108, 116]) none (.ofNat (a + 1)) (.ofNat (c + 16)), .tok (S [119, 111, 114, 100]) (S [105, 54, 52]) none (.ofNat (a + 1)) (.ofNat (c + 23))] (.ofNat (a + 1)) (.ofNat (c + 15))]
def mid3 (a c : Nat) : List Tr := [.br [.tok (S [119, 111, 114, 100]) (S [116, 121, 112, 101]) none (.ofNat (a + 1)) (.ofNat (c + 1)), .tok (S [105, 100]) (S [36, 98]) none (.ofNat (a + 1)) (.ofNat (c + 6))] (.ofNat (a + 1)) (.ofNat c)]
def mid4 (a c : Nat) : List Tr := [.br [.tok (S [119, 111, 114, 100]) (S [116, 121, 112, 101]) none (.ofNat (a + 1)) (.ofNat (c + 1)), .tok (S [105, 110, 116]) (S [50]) (some 2) (.ofNat (a + 1)) (.ofNat (c + 6))] (.ofNat (a + 1)) (.ofNat c)]
def mid5 (a c : Nat) : List Tr := [.br [.tok (S [119, 111, 114, 100]) (S [116, 121, 112, 101]) none (.ofNat (a + 1)) (.ofNat (c + 1)), .tok (S [105, 110, 116]) (S [50]) (some 2) (.ofNat (a + 1)) (.ofNat (c + 6))] (.ofNat (a + 1)) (.ofNat c), .br [.tok (S [119, 111, 114, 100]) (S [112, 97, 114, 97, 109]) none (.ofNat (a + 1)) (.ofNat (c + 10)), .tok (S [105, 100]) (S [36, 121]) none (.ofNat (a + 1)) (.ofNat (c + 16)), .tok (S [119, 111, 114, 100]) (S [105, 51, 50]) none (.ofNat (a + 1)) (.ofNat (c + 19))] (.ofNat (a + 1)) (.ofNat (c + 9)), .br [.tok (S [119, 111, 114, 100]) (S [114, 101, 115, 117, 108, 116]) none (.ofNat (a + 1)) (.ofNat (c + 25)), .tok (S [119, 111, 114, 100]) (S [105, 54, 52]) none (.ofNat (a + 1)) (.ofNat (c + 32))] (.ofNat (a + 1)) (.ofNat (c + 24))]
def mid6 (a c : Nat) : List Tr := [.br [.tok (S [119, 111, 114, 100]) (S [116, 121, 112, 101]) none (.ofNat (a + 1)) (.ofNat (c + 1)), .tok (S [105, 100]) (S [36, 99]) none (.ofNat (a + 1)) (.ofNat (c + 6))] (.ofNat (a + 1)) (.ofNat c), .br [.tok (S [119, 111, 114, 100]) (S [112, 97, 114, 97, 109]) none (.ofNat (a + 1)) (.ofNat (c + 11)), .tok (S [119, 111, 114, 100]) (S [102, 117, 110, 99, 114, 101, 102]) none (.ofNat (a + 1)) (.ofNat (c + 17))] (.ofNat (a + 1)) (.ofNat (c + 10)), .br [.tok (S [119, 111, 114, 100]) (S [112, 97, 114, 97, 109]) none (.ofNat (a + 1)) (.ofNat (c + 27)), .tok (S [105, 100]) (S [36, 122]) none (.ofNat (a + 1)) (.ofNat (c + 33)), .tok (S [119, 111, 114, 100]) (S [101, 120, 116, 101, 114, 110, 114, 101, 102]) none (.ofNat (a + 1)) (.ofNat (c + 36))] (.ofNat (a + 1)) (.ofNat (c + 26))]
def mid7 (a c : Nat) : List Tr := [.br [.tok (S [119, 111, 114, 100]) (S [116, 121, 112, 101]) none (.ofNat (a + 1)) (.ofNat (c + 1)), .tok (S [105, 110, 116]) (S [57, 57]) (some 99) (.ofNat (a + 1)) (.ofNat (c + 6))] (.ofNat (a + 1)) (.ofNat c)]
def mid8 (a c : Nat) : List Tr := [.br [.tok (S [119, 111, 114, 100]) (S [116, 121, 112, 101]) none (.ofNat (a + 1)) (.ofNat (c + 1)), .tok (S [105, 110, 116]) (S [52]) (some 4) (.ofNat (a + 1)) (.ofNat (c + 6))] (.ofNat (a + 1)) (.ofNat c)]
def mid9 (a c : Nat) : List Tr := [.br [.tok (S [119, 111, 114, 100]) (S [116, 121, 112, 101]) none (.ofNat (a + 1)) (.ofNat (c + 1)), .tok (S [105, 110, 116]) (S [48, 120, 48]) (some 0) (.ofNat (a + 1)) (.ofNat (c + 6))] (.ofNat (a + 1)) (.ofNat c), .br [.tok (S [119, 111, 114, 100]) (S [112, 97, 114, 97, 109]) none (.ofNat (a + 1)) (.ofNat (c + 12))] (.ofNat (a + 1)) (.ofNat (c + 11)), .br [.tok (S [119, 111, 114, 100]) (S [114, 101, 115, 117, 108, 116]) none (.ofNat (a + 1)) (.ofNat (c + 20))] (.ofNat (a + 1)) (.ofNat (c + 19))]
def mid10 (a c : Nat) : List Tr := [.br [.tok (S [119, 111, 114, 100]) (S [116, 121, 112, 101]) none (.ofNat (a + 1)) (.ofNat (c + 1)), .tok (S [105, 110, 116]) (S [57, 57]) (some 99) (.ofNat (a + 1)) (.ofNat (c + 6))] (.ofNat (a + 1)) (.ofNat c), .br [.tok (S [119, 111, 114, 100]) (S [112, 97, 114, 97, 109]) none (.ofNat (a + 1)) (.ofNat (c + 11))] (.ofNat (a + 1)) (.ofNat (c + 10))]
def mid11 (a c : Nat) : List Tr := [.br [.tok (S [119, 111, 114, 100]) (S [112, 97, 114, 97, 109]) none (.ofNat (a + 1)) (.ofNat (c + 1)), .tok (S [105, 100]) (S [36, 120]) none (.ofNat (a + 1)) (.ofNat (c + 7)), .tok (S [119, 111, 114, 100]) (S [105, 51, 50]) none (.ofNat (a + 1)) (.ofNat (c + 10))] (.ofNat (a + 1)) (.ofNat c), .br [.tok (S [119, 111, 114, 100]) (S [112, 97, 114, 97, 109]) none (.ofNat (a + 1)) (.ofNat (c + 16)), .tok (S [105, 100]) (S [36, 121]) none (.ofNat (a + 1)) (.ofNat (c + 22)), .tok (S [119, 111, 114, 100]) (S [105, 54, 52]) none (.ofNat (a + 1)) (.ofNat (c + 25))] (.ofNat (a + 1)) (.ofNat (c + 15)), .br [.tok (S [119, 111, 114, 100]) (S [112, 97, 114, 97, 109]) none (.ofNat (a + 1)) (.ofNat (c + 31)), .tok (S [119, 111, 114, 100]) (S [101, 120, 116, 101, 114, 110, 114, 101, 102]) none (.ofNat (a + 1)) (.ofNat (c + 37))] (.ofNat (a + 1)) (.ofNat (c + 30)), .br [.tok (S [119, 111, 114, 100]) (S [112, 97, 114, 97, 109]) none (.ofNat (a + 1)) (.ofNat (c + 49)), .tok (S [105, 100]) (S [36, 122]) none (.ofNat (a + 1)) (.ofNat (c + 55)), .tok (S [119, 111, 114, 100]) (S [105, 51, 50]) none (.ofNat (a + 1)) (.ofNat (c + 58))] (.ofNat (a + 1)) (.ofNat (c + 48))]
def mid12 (a c : Nat) : List Tr := [.br [.tok (S [119, 111, 114, 100]) (S [114, 101, 115, 117, 108, 116]) none (.ofNat (a + 1)) (.ofNat (c + 1)), .tok (S [119, 111, 114, 100]) (S [105, 54, 52]) none (.ofNat (a + 1)) (.ofNat (c + 8))] (.ofNat (a + 1)) (.ofNat c), .br [.tok (S [119, 111, 114, 100]) (S [112, 97, 114, 97, 109]) none (.ofNat (a + 1)) (.ofNat (c + 14)), .tok (S [119, 111, 114, 100]) (S [105, 51, 50]) none (.ofNat (a + 1)) (.ofNat (c + 20))] (.ofNat (a + 1)) (.ofNat (c + 13))]
def mid13 (a c : Nat) : List Tr := [.br [.tok (S [119, 111, 114, 100]) (S [112, 97, 114, 97, 109]) none (.ofNat (a + 1)) (.ofNat (c + 1)), .tok (S [119, 111, 114, 100]) (S [105, 51, 50]) none (.ofNat (a + 1)) (.ofNat (c + 7))] (.ofNat (a + 1)) (.ofNat c), .br [.tok (S [119, 111, 114, 100]) (S [116, 121, 112, 101]) none (.ofNat (a + 1)) (.ofNat (c + 13)), .tok (S [105, 110, 116]) (S [49]) (some 1) (.ofNat (a + 1)) (.ofNat (c + 18))] (.ofNat (a + 1)) (.ofNat (c + 12))]
def mid14 (a c : Nat) : List Tr := [.br [.tok (S [119, 111, 114, 100]) (S [112, 97, 114, 97, 109]) none (.ofNat (a + 1)) (.ofNat (c + 1)), .tok (S [119, 111, 114, 100]) (S [102, 117, 110, 99, 114, 101, 102]) none (.ofNat (a + 1)) (.ofNat (c + 7)), .tok (S [119, 111, 114, 100]) (S [101, 120, 116, 101, 114, 110, 114, 101, 102]) none (.ofNat (a + 1)) (.ofNat (c + 15))] (.ofNat (a + 1)) (.ofNat c), .br [.tok (S [119, 111, 114, 100]) (S [114, 101, 115, 117, 108, 116]) none (.ofNat (a + 1)) (.ofNat (c + 27))] (.ofNat (a + 1)) (.ofNat (c + 26)), .br [.tok (S [119, 111, 114, 100]) (S [114, 101, 115, 117, 108, 116]) none (.ofNat (a + 1)) (.ofNat (c + 36)), .tok (S [119, 111, 114, 100]) (S [105, 51, 50]) none (.ofNat (a + 1)) (.ofNat (c + 43)), .tok (S [119, 111, 114, 100]) (S [105, 51, 50]) none (.ofNat (a + 1)) (.ofNat (c + 47))] (.ofNat (a + 1)) (.ofNat (c + 35))]
def mid15 (a c : Nat) : List Tr := [.br [.tok (S [119, 111, 114, 100]) (S [114, 101, 115, 117, 108, 116]) none (.ofNat (a + 1)) (.ofNat (c + 1))] (.ofNat (a + 1)) (.ofNat c)]
def mid16 (a c : Nat) : List Tr := [.br [.tok (S [119, 111, 114, 100]) (S [116, 121, 112, 101]) none (.ofNat (a + 1)) (.ofNat (c + 1)), .tok (S [105, 110, 116]) (S [52]) (some 4) (.ofNat (a + 1)) (.ofNat (c + 6))] (.ofNat (a + 1)) (.ofNat c), .br [.tok (S [119, 111, 114, 100]) (S [112, 97, 114, 97, 109]) none (.ofNat (a + 1)) (.ofNat (c + 10)), .tok (S [119, 111, 114, 100]) (S [105, 51, 50]) none (.ofNat (a + 1)) (.ofNat (c + 16))] (.ofNat (a + 1)) (.ofNat (c + 9))]
def mid17 (a c : Nat) : List Tr := [.br [.tok (S [119, 111, 114, 100]) (S [116, 121, 112, 101]) none (.ofNat (a + 1)) (.ofNat (c + 1)), .tok (S [105, 110, 116]) (S [48]) (some 0) (.ofNat (a + 1)) (.ofNat (c + 6))] (.ofNat (a + 1)) (.ofNat c), .br [.tok (S [119, 111, 114, 100]) (S [112, 97, 114, 97, 109]) none (.ofNat (a + 1)) (.ofNat (c + 10)), .tok (S [119, 111, 114, 100]) (S [105, 51, 50]) none (.ofNat (a + 1)) (.ofNat (c + 16))] (.ofNat (a + 1)) (.ofNat (c + 9))]
def mid18 (a c : Nat) : List Tr := [.br [.tok (S [119, 111, 114, 100]) (S [116, 121, 112, 101]) none (.ofNat (a + 1)) (.ofNat (c + 1)), .tok (S [105, 110, 116]) (S [57, 57]) (some 99) (.ofNat (a + 1)) (.ofNat (c + 6))] (.ofNat (a + 1)) (.ofNat c), .br [.tok (S [119, 111, 114, 100]) (S [114, 101, 115, 117, 108, 116]) none (.ofNat (a + 1)) (.ofNat (c + 11)), .tok (S [119, 111, 114, 100]) (S [105, 54, 52]) none (.ofNat (a + 1)) (.ofNat (c + 18))] (.ofNat (a + 1)) (.ofNat (c + 10))]
def mid19 (a c : Nat) : List Tr := [.br [.tok (S [119, 111, 114, 100]) (S [116, 121, 112, 101]) none (.ofNat (a + 1)) (.ofNat (c + 1)), .tok (S [105, 110, 116]) (S [49]) (some 1) (.ofNat (a + 1)) (.ofNat (c + 6))] (.ofNat (a + 1)) (.ofNat c), .br [.tok (S [119, 111, 114, 100]) (S [112, 97, 114, 97, 109]) none (.ofNat (a + 1)) (.ofNat (c + 10)), .tok (S [119, 111, 114, 100]) (S [105, 51, 50]) none (.ofNat (a + 1)) (.ofNat (c + 16))] (.ofNat (a + 1)) (.ofNat (c + 9))]
def mid20 (a c : Nat) : List Tr := [.br [.tok (S [119, 111, 114, 100]) (S [116, 121, 112, 101]) none (.ofNat (a + 1)) (.ofNat (c + 1)), .tok (S [105, 100]) (S [36, 98]) none (.ofNat (a + 1)) (.ofNat (c + 6))] (.ofNat (a + 1)) (.ofNat c), .br [.tok (S [119, 111, 114, 100]) (S [114, 101, 115, 117, 108, 116]) none (.ofNat (a + 1)) (.ofNat (c + 11)), .tok (S [119, 111, 114, 100]) (S [105, 54, 52]) none (.ofNat (a + 1)) (.ofNat (c + 18))] (.ofNat (a + 1)) (.ofNat (c + 10))]
def mid21 (a c : Nat) : List Tr := [.br [.tok (S [119, 111, 114, 100]) (S [116, 121, 112, 101]) none (.ofNat (a + 1)) (.ofNat (c + 1)), .tok (S [105, 110, 116]) (S [49]) (some 1) (.ofNat (a + 1)) (.ofNat (c + 6))] (.ofNat (a + 1)) (.ofNat c), .br [.tok (S [119, 111, 114, 100]) (S [112, 97, 114, 97, 109]) none (.ofNat (a + 1)) (.ofNat (c + 10)), .tok (S [119, 111, 114, 100]) (S [105, 54, 52]) none (.ofNat (a + 1)) (.ofNat (c + 16))] (.ofNat (a + 1)) (.ofNat (c + 9)), .br [.tok (S [119, 111, 114, 100]) (S [114, 101, 115, 117, 108, 116]) none (.ofNat (a + 1)) (.ofNat (c + 22)), .tok (S [119, 111, 114, 100]) (S [105, 54, 52]) none (.ofNat (a + 1)) (.ofNat (c + 29))] (.ofNat (a + 1)) (.ofNat (c + 21))]
def mid22 (a c : Nat) : List Tr := [.br [.tok (S [119, 111, 114, 100]) (S [116, 121, 112, 101]) none (.ofNat (a + 1)) (.ofNat (c + 1)), .tok (S [105, 100]) (S [36, 110, 111, 110, 101]) none (.ofNat (a + 1)) (.ofNat (c + 6))] (.ofNat (a + 1)) (.ofNat c)]
def mid23 (a c : Nat) : List Tr := [.br [.tok (S [119, 111, 114, 100]) (S [116, 121, 112, 101]) none (.ofNat (a + 1)) (.ofNat (c + 1)), .tok (S [119, 111, 114, 100]) (S [120]) none (.ofNat (a + 1)) (.ofNat (c + 6))] (.ofNat (a + 1)) (.ofNat c)]
def mid24 (a c : Nat) : List Tr := [.br [.tok (S [119, 111, 114, 100]) (S [116, 121, 112, 101]) none (.ofNat (a + 1)) (.ofNat (c + 1)), .tok (S [105, 110, 116]) (S [48]) (some 0) (.ofNat (a + 1)) (.ofNat (c + 6)), .tok (S [105, 110, 116]) (S [48]) (some 0) (.ofNat (a + 1)) (.ofNat (c + 8))] (.ofNat (a + 1)) (.ofNat c)]
def mid25 (a c : Nat) : List Tr := [.br [.tok (S [119, 111, 114, 100]) (S [116, 121, 112, 101]) none (.ofNat (a + 1)) (.ofNat (c + 1))] (.ofNat (a + 1)) (.ofNat c)]
def mid26 (a c : Nat) : List Tr := [.br [.tok (S [119, 111, 114, 100]) (S [116, 121, 112, 101]) none (.ofNat (a + 1)) (.ofNat (c + 1)), .br [.tok (S [105, 110, 116]) (S [48]) (some 0) (.ofNat (a + 1)) (.ofNat (c + 7))] (.ofNat (a + 1)) (.ofNat (c + 6))] (.ofNat (a + 1)) (.ofNat c)]
def mid27 (a c : Nat) : List Tr := [.br [.tok (S [119, 111, 114, 100]) (S [116, 121, 112, 101]) none (.ofNat (a + 1)) (.ofNat (c + 1)), .tok (S [105, 110, 116]) (S [43, 49]) (some 1) (.ofNat (a + 1)) (.ofNat (c + 6))] (.ofNat (a + 1)) (.ofNat c)]
def mid28 (a c : Nat) : List Tr := [.br [.tok (S [119, 111, 114, 100]) (S [116, 121, 112, 101]) none (.ofNat (a + 1)) (.ofNat (c + 1)), .tok (S [105, 110, 116]) (S [52, 50, 57, 52, 57, 54, 55, 50, 57, 54]) (some 4294967296) (.ofNat (a + 1)) (.ofNat (c + 6))] (.ofNat (a + 1)) (.ofNat c)]
def mid29 (a c : Nat) : List Tr := [.br [.tok (S [119, 111, 114, 100]) (S [112, 97, 114, 97, 109]) none (.ofNat (a + 1)) (.ofNat (c + 1)), .tok (S [105, 100]) (S [36, 120]) none (.ofNat (a + 1)) (.ofNat (c + 7)), .tok (S [119, 111, 114, 100]) (S [105, 51, 50]) none (.ofNat (a + 1)) (.ofNat (c + 10))] (.ofNat (a + 1)) (.ofNat c), .br [.tok (S [119, 111, 114, 100]) (S [112, 97, 114, 97, 109]) none (.ofNat (a + 1)) (.ofNat (c + 16)), .tok (S [105, 100]) (S [36, 120]) none (.ofNat (a + 1)) (.ofNat (c + 22)), .tok (S [119, 111, 114, 100]) (S [105, 51, 50]) none (.ofNat (a + 1)) (.ofNat (c + 25))] (.ofNat (a + 1)) (.ofNat (c + 15))]
def mid30 (a c : Nat) : List Tr := [.br [.tok (S [119, 111, 114, 100]) (S [112, 97, 114, 97, 109]) none (.ofNat (a + 1)) (.ofNat (c + 1)), .tok (S [105, 100]) (S [36, 120]) none (.ofNat (a + 1)) (.ofNat (c + 7)), .tok (S [119, 111, 114, 100]) (S [120]) none (.ofNat (a + 1)) (.ofNat (c + 10))] (.ofNat (a + 1)) (.ofNat c)]
def mid31 (a c : Nat) : List Tr := [.br [.tok (S [119, 111, 114, 100]) (S [112, 97, 114, 97, 109]) none (.ofNat (a + 1)) (.ofNat (c + 1)), .tok (S [105, 100]) (S [36, 120]) none (.ofNat (a + 1)) (.ofNat (c + 7))] (.ofNat (a + 1)) (.ofNat c)]
def mid32 (a c : Nat) : List Tr := [.br [.tok (S [119, 111, 114, 100]) (S [112, 97, 114, 97, 109]) none (.ofNat (a + 1)) (.ofNat (c + 1)), .tok (S [105, 100]) (S [36, 120]) none (.ofNat (a + 1)) (.ofNat (c + 7)), .tok (S [119, 111, 114, 100]) (S [105, 51, 50]) none (.ofNat (a + 1)) (.ofNat (c + 10)), .tok (S [119, 111, 114, 100]) (S [105, 51, 50]) none (.ofNat (a + 1)) (.ofNat (c + 14))] (.ofNat (a + 1)) (.ofNat c)]
def mid33 (a c : Nat) : List Tr := [.br [.tok (S [119, 111, 114, 100]) (S [112, 97, 114, 97, 109]) none (.ofNat (a + 1)) (.ofNat (c + 1)), .tok (S [119, 111, 114, 100]) (S [105, 51, 50]) none (.ofNat (a + 1)) (.ofNat (c + 7)), .tok (S [105, 100]) (S [36, 120]) none (.ofNat (a + 1)) (.ofNat (c + 11))] (.ofNat (a + 1)) (.ofNat c)]
def mid34 (a c : Nat) : List Tr := [.br [.tok (S [119, 111, 114, 100]) (S [114, 101, 115, 117, 108, 116]) none (.ofNat (a + 1)) (.ofNat (c + 1)), .tok (S [105, 100]) (S [36, 120]) none (.ofNat (a + 1)) (.ofNat (c + 8)), .tok (S [119, 111, 114, 100]) (S [105, 51, 50]) none (.ofNat (a + 1)) (.ofNat (c + 11))] (.ofNat (a + 1)) (.ofNat c)]
def mid35 (a c : Nat) : List Tr := [.br [.tok (S [119, 111, 114, 100]) (S [114, 101, 115, 117, 108, 116]) none (.ofNat (a + 1)) (.ofNat (c + 1)), .tok (S [119, 111, 114, 100]) (S [105, 51, 50]) none (.ofNat (a + 1)) (.ofNat (c + 8)), .tok (S [105, 110, 116]) (S [53]) (some 5) (.ofNat (a + 1)) (.ofNat (c + 12))] (.ofNat (a + 1)) (.ofNat c)]
def mid36 (a c : Nat) : List Tr := [.br [.tok (S [119, 111, 114, 100]) (S [112, 97, 114, 97, 109]) none (.ofNat (a + 1)) (.ofNat (c + 1)), .br [.tok (S [119, 111, 114, 100]) (S [105, 51, 50]) none (.ofNat (a + 1)) (.ofNat (c + 8))] (.ofNat (a + 1)) (.ofNat (c + 7))] (.ofNat (a + 1)) (.ofNat c)]
def mid37 (a c : Nat) : List Tr := [.br [.tok (S [119, 111, 114, 100]) (S [116, 121, 112, 101]) none (.ofNat (a + 1)) (.ofNat (c + 1)), .tok (S [105, 110, 116]) (S [49]) (some 1) (.ofNat (a + 1)) (.ofNat (c + 6))] (.ofNat (a + 1)) (.ofNat c), .br [.tok (S [119, 111, 114, 100]) (S [112, 97, 114, 97, 109]) none (.ofNat (a + 1)) (.ofNat (c + 10)), .tok (S [105, 100]) (S [36, 120]) none (.ofNat (a + 1)) (.ofNat (c + 16)), .tok (S [119, 111, 114, 100]) (S [105, 51, 50]) none (.ofNat (a + 1)) (.ofNat (c + 19)), .tok (S [119, 111, 114, 100]) (S [105, 54, 52]) none (.ofNat (a + 1)) (.ofNat (c + 23))] (.ofNat (a + 1)) (.ofNat (c + 9))]
noncomputable def muR : List MV := [(.tup [(.str []), (.tup [(.int 0), (.obj 0), (.int 0)]), .none]), (.tup [(.str [40, 112, 97, 114, 97, 109, 32, 105, 51, 50, 41, 32, 40, 114, 101, 115, 117, 108, 116, 32, 105, 54, 52, 41]), (.tup [(.int 1), (.obj 1), (.int 2)]), .none]), (.tup [(.str [40, 112, 97, 114, 97, 109, 32, 36, 120, 32, 105, 51, 50, 41, 32, 40, 114, 101, 115, 117, 108, 116, 32, 105, 54, 52, 41]), (.tup [(.int 1), (.obj 2), (.int 2)]), .none]), (.tup [(.str [40, 116, 121, 112, 101, 32, 36, 98, 41]), (.tup [(.int 1), (.obj 3), (.int 1)]), .none]), (.tup [(.str [40, 116, 121, 112, 101, 32, 50, 41]), (.tup [(.int 2), (.obj 4), (.int 1)]), .none]), (.tup [(.str (40 :: 116 :: 121 :: 112 :: 101 :: 32 :: 50 :: 41 :: 32 :: 40 :: 112 :: 97 :: 114 :: 97 :: 109 :: 32 :: 36 :: 121 :: 32 :: 105 :: 51 :: 50 :: 41 :: 32 :: 40 :: 114 :: 101 :: 115 :: 117 :: 108 :: 116 :: 32 :: 105 :: 54 :: 52 :: 41 :: [])), (.tup [(.int 2), (.obj 5), (.int 3)]), .none]), (.tup [(.str (40 :: 116 :: 121 :: 112 :: 101 :: 32 :: 36 :: 99 :: 41 :: 32 :: 40 :: 112 :: 97 :: 114 :: 97 :: 109 :: 32 :: 102 :: 117 :: 110 :: 99 :: 114 :: 101 :: 102 :: 41 :: 32 :: 40 :: 112 :: 97 :: 114 :: 97 :: 109 :: 32 :: 36 :: 122 :: 32 :: 101 :: 120 :: 116 :: 101 :: 114 :: 110 :: 114 :: 101 :: 102 :: 41 :: [])), (.tup [(.int 3), (.obj 6), (.int 3)]), .none]), (.tup [(.str [40, 116, 121, 112, 101, 32, 57, 57, 41]), (.tup [(.int 99), (.obj 7), (.int 1)]), .none]), (.tup [(.str [40, 116, 121, 112, 101, 32, 52, 41]), (.tup [(.int 4), (.obj 8), (.int 1)]), .none]), (.tup [(.str [40, 116, 121, 112, 101, 32, 48, 120, 48, 41, 32, 40, 112, 97, 114, 97, 109, 41, 32, 40, 114, 101, 115, 117, 108, 116, 41]), (.tup [(.int 0), (.obj 9), (.int 3)]), .none]), (.tup [(.str [40, 116, 121, 112, 101, 32, 57, 57, 41, 32, 40, 112, 97, 114, 97, 109, 41]), (.tup [(.int 99), (.obj 10), (.int 2)]), .none]), (.tup [(.str (40 :: 112 :: 97 :: 114 :: 97 :: 109 :: 32 :: 36 :: 120 :: 32 :: 105 :: 51 :: 50 :: 41 :: 32 :: 40 :: 112 :: 97 :: 114 :: 97 :: 109 :: 32 :: 36 :: 121 :: 32 :: 105 :: 54 :: 52 :: 41 :: 32 :: 40 :: 112 :: 97 :: 114 :: 97 :: 109 :: 32 :: 101 :: 120 :: 116 :: 101 :: 114 :: 110 :: 114 :: 101 :: 102 :: 41 :: 32 :: 40 :: 112 :: 97 :: 114 :: 97 :: 109 :: 32 :: 36 :: 122 :: 32 :: 105 :: 51 :: 50 :: 41 :: [])), (.tup [(.int 4), (.obj 11), (.int 4)]), (.tup [(.tup [(.int (-1)), (.int (-2)), (.int (-17)), (.int (-1))]), (.tup [])])]), (.tup [(.str [40, 114, 101, 115, 117, 108, 116, 32, 105, 54, 52, 41, 32, 40, 112, 97, 114, 97, 109, 32, 105, 51, 50, 41]), (.tup [(.int 4), (.obj 12), (.int 1)]), (.tup [(.tup []), (.tup [(.int (-2))])])]), (.tup [(.str [40, 112, 97, 114, 97, 109, 32, 105, 51, 50, 41, 32, 40, 116, 121, 112, 101, 32, 49, 41]), (.tup [(.int 4), (.obj 13), (.int 1)]), (.tup [(.tup [(.int (-1))]), (.tup [])])]), (.tup [(.str (40 :: 112 :: 97 :: 114 :: 97 :: 109 :: 32 :: 102 :: 117 :: 110 :: 99 :: 114 :: 101 :: 102 :: 32 :: 101 :: 120 :: 116 :: 101 :: 114 :: 110 :: 114 :: 101 :: 102 :: 41 :: 32 :: 40 :: 114 :: 101 :: 115 :: 117 :: 108 :: 116 :: 41 :: 32 :: 40 :: 114 :: 101 :: 115 :: 117 :: 108 :: 116 :: 32 :: 105 :: 51 :: 50 :: 32 :: 105 :: 51 :: 50 :: 41 :: [])), (.tup [(.int 4), (.obj 14), (.int 3)]), (.tup [(.tup [(.int (-16)), (.int (-17))]), (.tup [(.int (-1)), (.int (-1))])])]), (.tup [(.str [40, 114, 101, 115, 117, 108, 116, 41]), (.tup [(.int 0), (.obj 15), (.int 1)]), .none])]
noncomputable def muW : List MV := [(.tup [(.str [64, 40, 116, 121, 112, 101, 32, 52, 41, 32, 40, 112, 97, 114, 97, 109, 32, 105, 51, 50, 41]), (.str [117, 110, 107, 110, 111, 119, 110, 32, 116, 121, 112, 101, 32, 52])]), (.tup [(.str [64, 40, 116, 121, 112, 101, 32, 48, 41, 32, 40, 112, 97, 114, 97, 109, 32, 105, 51, 50, 41]), (.str [105, 110, 108, 105, 110, 101, 32, 102, 117, 110, 99, 116, 105, 111, 110, 32, 116, 121, 112, 101])]), (.tup [(.str [64, 40, 116, 121, 112, 101, 32, 57, 57, 41, 32, 40, 114, 101, 115, 117, 108, 116, 32, 105, 54, 52, 41]), (.str [117, 110, 107, 110, 111, 119, 110, 32, 116, 121, 112, 101, 32, 57, 57])]), (.tup [(.str [64, 40, 116, 121, 112, 101, 32, 49, 41, 32, 40, 112, 97, 114, 97, 109, 32, 105, 51, 50, 41]), (.str [105, 110, 108, 105, 110, 101, 32, 102, 117, 110, 99, 116, 105, 111, 110, 32, 116, 121, 112, 101])]), (.tup [(.str [64, 40, 116, 121, 112, 101, 32, 36, 98, 41, 32, 40, 114, 101, 115, 117, 108, 116, 32, 105, 54, 52, 41]), (.str [105, 110, 108, 105, 110, 101, 32, 102, 117, 110, 99, 116, 105, 111, 110, 32, 116, 121, 112, 101])]), (.tup [(.str (64 :: 40 :: 116 :: 121 :: 112 :: 101 :: 32 :: 49 :: 41 :: 32 :: 40 :: 112 :: 97 :: 114 :: 97 :: 109 :: 32 :: 105 :: 54 :: 52 :: 41 :: 32 :: 40 :: 114 :: 101 :: 115 :: 117 :: 108 :: 116 :: 32 :: 105 :: 54 :: 52 :: 41 :: [])), (.str [105, 110, 108, 105, 110, 101, 32, 102, 117, 110, 99, 116, 105, 111, 110, 32, 116, 121, 112, 101])]), (.tup [(.str [40, 116, 121, 112, 101, 32, 64, 36, 110, 111, 110, 101, 41]), (.str [117, 110, 107, 110, 111, 119, 110, 32, 116, 121, 112, 101, 32, 36, 110, 111, 110, 101])]), (.tup [(.str [40, 116, 121, 112, 101, 32, 64, 120, 41]), (.str [117, 110, 101, 120, 112, 101, 99, 116, 101, 100, 32, 116, 111, 107, 101, 110])]), (.tup [(.str [40, 116, 121, 112, 101, 32, 48, 32, 64, 48, 41]), (.str [117, 110, 101, 120, 112, 101, 99, 116, 101, 100, 32, 116, 111, 107, 101, 110])]), (.tup [(.str [64, 40, 116, 121, 112, 101, 41]), (.str [117, 110, 101, 120, 112, 101, 99, 116, 101, 100, 32, 116, 111, 107, 101, 110])]), (.tup [(.str [40, 116, 121, 112, 101, 32, 64, 40, 48, 41, 41]), (.str [117, 110, 101, 120, 112, 101, 99, 116, 101, 100, 32, 116, 111, 107, 101, 110])]), (.tup [(.str [40, 116, 121, 112, 101, 32, 64, 43, 49, 41]), (.str [117, 110, 101, 120, 112, 101, 99, 116, 101, 100, 32, 116, 111, 107, 101, 110])]), (.tup [(.str [40, 116, 121, 112, 101, 32, 64, 52, 50, 57, 52, 57, 54, 55, 50, 57, 54, 41]), (.str [105, 51, 50, 32, 99, 111, 110, 115, 116, 97, 110, 116, 32, 111, 117, 116, 32, 111, 102, 32, 114, 97, 110, 103, 101])]), (.tup [(.str [40, 112, 97, 114, 97, 109, 32, 36, 120, 32, 105, 51, 50, 41, 32, 40, 112, 97, 114, 97, 109, 32, 64, 36, 120, 32, 105, 51, 50, 41]), (.str [100, 117, 112, 108, 105, 99, 97, 116, 101, 32, 108, 111, 99, 97, 108, 32, 36, 120])]), (.tup [(.str [40, 112, 97, 114, 97, 109, 32, 36, 120, 32, 64, 120, 41]), (.str [117, 110, 101, 120, 112, 101, 99, 116, 101, 100, 32, 116, 111, 107, 101, 110])]), (.tup [(.str [64, 40, 112, 97, 114, 97, 109, 32, 36, 120, 41]), (.str [117, 110, 101, 120, 112, 101, 99, 116, 101, 100, 32, 116, 111, 107, 101, 110])]), (.tup [(.str [40, 112, 97, 114, 97, 109, 32, 36, 120, 32, 105, 51, 50, 32, 64, 105, 51, 50, 41]), (.str [117, 110, 101, 120, 112, 101, 99, 116, 101, 100, 32, 116, 111, 107, 101, 110])]), (.tup [(.str [40, 112, 97, 114, 97, 109, 32, 105, 51, 50, 32, 64, 36, 120, 41]), (.str [117, 110, 101, 120, 112, 101, 99, 116, 101, 100, 32, 116, 111, 107, 101, 110])]), (.tup [(.str [40, 114, 101, 115, 117, 108, 116, 32, 64, 36, 120, 32, 105, 51, 50, 41]), (.str [117, 110, 101, 120, 112, 101, 99, 116, 101, 100, 32, 116, 111, 107, 101, 110])]), (.tup [(.str [40, 114, 101, 115, 117, 108, 116, 32, 105, 51, 50, 32, 64, 53, 41]), (.str [117, 110, 101, 120, 112, 101, 99, 116, 101, 100, 32, 116, 111, 107, 101, 110])]), (.tup [(.str [40, 112, 97, 114, 97, 109, 32, 64, 40, 105, 51, 50, 41, 41]), (.str [117, 110, 101, 120, 112, 101, 99, 116, 101, 100, 32, 116, 111, 107, 101, 110])]), (.tup [(.str [40, 116, 121, 112, 101, 32, 49, 41, 32, 40, 112, 97, 114, 97, 109, 32, 36, 120, 32, 105, 51, 50, 32, 64, 105, 54, 52, 41]), (.str [117, 110, 101, 120, 112, 101, 99, 116, 101, 100, 32, 116, 111, 107, 101, 110])])]
noncomputable def trip : List MV → List MV
 | [] => []
 | .tup [a, b] :: r => .tup [a, b, .none] :: trip r
 | _ :: r => trip r
set_option linter.all false in
def muA : List MO := [(MO.dict []), (MO.dict []), (MO.dict [([36, 120], (.int 0))]), (MO.dict []), (MO.dict []), (MO.dict [([36, 121], (.int 0))]), (MO.dict [([36, 122], (.int 1))]), (MO.dict []), (MO.dict []), (MO.dict []), (MO.dict []), (MO.dict [([36, 120], (.int 0)), ([36, 121], (.int 1)), ([36, 122], (.int 3))]), (MO.dict []), (MO.dict []), (MO.dict []), (MO.dict []), .list muR, .list muW, .list (trip muW), .list (muR ++ trip muW)]
noncomputable def spc (ks : List MV) (n : Int) : List MO := (MO.inst 515 [(8, (.obj 21)), (9, (.obj 22)), (10, (.obj 23))]) :: (MO.dict [([116, 121, 112, 101], (.obj 24)), ([102, 117, 110, 99], (.obj 25)), ([116, 97, 98, 108, 101], (.obj 26)), ([109, 101, 109, 111, 114, 121], (.obj 27)), ([103, 108, 111, 98, 97, 108], (.obj 28)), ([101, 108, 101, 109], (.obj 29)), ([100, 97, 116, 97], (.obj 30))]) :: (MO.dict [([116, 121, 112, 101], (.int n)), ([102, 117, 110, 99], (.int 0)), ([116, 97, 98, 108, 101], (.int 0)), ([109, 101, 109, 111, 114, 121], (.int 0)), ([103, 108, 111, 98, 97, 108], (.int 0)), ([101, 108, 101, 109], (.int 0)), ([100, 97, 116, 97], (.int 0))]) :: (MO.list ks) :: (MO.dict [([36, 97], (.int 0)), ([36, 98], (.int 1)), ([36, 99], (.int 3))]) :: (MO.dict []) :: (MO.dict []) :: (MO.dict []) :: (MO.dict []) :: (MO.dict []) :: (MO.dict []) :: (MO.list [(.str [36, 97]), (.str [36, 98]), .none, (.str [36, 99])]) :: (MO.list [(.tup [(.tup []), (.tup [])]), (.tup [(.tup [(.int (-1))]), (.tup [(.int (-2))])]), (.tup [(.tup [(.int (-1))]), (.tup [(.int (-2))])]), (.tup [(.tup [(.int (-16)), (.int (-17))]), (.tup [])])]) :: []
noncomputable def kin : Option MV → List MV
 | none => [(.tup [(.tup []), (.tup [])]), (.tup [(.tup [(.int (-1))]), (.tup [(.int (-2))])]), (.tup [(.tup [(.int (-1))]), (.tup [(.int (-2))])]), (.tup [(.tup [(.int (-16)), (.int (-17))]), (.tup [])])]
 | some k => [(.tup [(.tup []), (.tup [])]), (.tup [(.tup [(.int (-1))]), (.tup [(.int (-2))])]), (.tup [(.tup [(.int (-1))]), (.tup [(.int (-2))])]), (.tup [(.tup [(.int (-16)), (.int (-17))]), (.tup [])]), k]
def ckR (m : List (Option MV)) (due : MV) : Option (Out MV × List MO) → Option (List (Option MV) × List MO)
 | some (.val v, μ) => match neTM 13 v due ⟨m, μ⟩ with
  | some (.val (.bool false), st) => some (st.m, st.μ.take 33)
  | _ => none
 | _ => none
noncomputable def ckW : Option (Out MV × List MO) → Option (List Nat × Int × Int × List MO)
 | some (.bad w r c, μ) => some (w, r, c, μ.take 33)
 | _ => none
structure All9 (p : Nat → Nat → Prop) : Prop where
 p00 : p 0 0 := by kernel_rfl
 p01 : p 0 1 := by kernel_rfl
 p02 : p 0 2 := by kernel_rfl
 p10 : p 1 0 := by kernel_rfl
 p11 : p 1 1 := by kernel_rfl
 p12 : p 1 2 := by kernel_rfl
 p20 : p 2 0 := by kernel_rfl
 p21 : p 2 1 := by kernel_rfl
 p22 : p 2 2 := by kernel_rfl
theorem a9 {p : Nat → Nat → Prop} (a : p 0 0 := by kernel_rfl) (b : p 0 1 := by kernel_rfl) (c : p 0 2 := by kernel_rfl) (d : p 1 0 := by kernel_rfl) (e : p 1 1 := by kernel_rfl) (f : p 1 2 := by kernel_rfl) (g : p 2 0 := by kernel_rfl) (h : p 2 1 := by kernel_rfl) (i : p 2 2 := by kernel_rfl) : All9 p := ⟨a, b, c, d, e, f, g, h, i⟩
theorem All9.get {p : Nat → Nat → Prop} (h : All9 p) : ∀ (i j : Nat), i < 3 → j < 3 → p i j
 | 0, 0, _, _ => h.p00
 | 0, 1, _, _ => h.p01
 | 0, 2, _, _ => h.p02
 | 1, 0, _, _ => h.p10
 | 1, 1, _, _ => h.p11
 | 1, 2, _, _ => h.p12
 | 2, 0, _, _ => h.p20
 | 2, 1, _, _ => h.p21
 | 2, 2, _, _ => h.p22
 | _ + 3, _, h, _ => absurd h (by omega)
 | _, _ + 3, _, h => absurd h (by omega)
noncomputable def atC : Nat → Nat
 | 0 => 1
 | 1 => 5
 | _ => 13
abbrev TzOk (W : List Nat) (mid : Nat → Nat → List Tr) (n : Nat) : Prop := ∀ X a b, All9 fun i t => TZ X (ATl i ++ (W ++ TLl t)) (.ofNat (a + 1)) (.ofNat (b + 1)) = some (preT i a (b + 1) ++ (mid a (b + atC i) ++ postT t a (b + (atC i + n))))
abbrev TuR (mid : Nat → Nat → List Tr) (n : Int) (j k : Nat) (kd : Option MV) (m : Int) : Prop := ∀ l a c d e, All9 fun i t => ckR l (.tup [.int n, .obj j, .int (.ofNat (i + k))]) (R505.val [.obj 20, .trees (preT i a c ++ (mid a d ++ postT t a e)), .int (.ofNat i)] (muA ++ spc (kin none) 4)) = some (l, muA ++ spc (kin kd) m)
abbrev TuW (mid : Nat → Nat → List Tr) (why : List Nat) (k : Nat) : Prop := ∀ a c d e, All9 fun i t => ckW (R505.val [.obj 20, .trees (preT i a c ++ (mid a d ++ postT t a e)), .int (.ofNat i)] (muA ++ spc (kin none) 4)) = some (why, .ofNat (a + 1), .ofNat (d + k), muA ++ spc (kin none) 4)
theorem tz0 : TzOk W0 mid0 0 := fun _ _ _ => a9
theorem tz1 : TzOk W1 mid1 24 := fun _ _ _ => a9
theorem tz2 : TzOk W2 mid2 27 := fun _ _ _ => a9
theorem tz3 : TzOk W3 mid3 9 := fun _ _ _ => a9
theorem tz4 : TzOk W4 mid4 8 := fun _ _ _ => a9
theorem tz5 : TzOk W5 mid5 36 := fun _ _ _ => a9
theorem tz6 : TzOk W6 mid6 46 := fun _ _ _ => a9
theorem tz7 : TzOk W7 mid7 9 := fun _ _ _ => a9
theorem tz8 : TzOk W8 mid8 8 := fun _ _ _ => a9
theorem tz9 : TzOk W9 mid9 27 := fun _ _ _ => a9
theorem tz10 : TzOk W10 mid10 17 := fun _ _ _ => a9
theorem tz11 : TzOk W11 mid11 62 := fun _ _ _ => a9
theorem tz12 : TzOk W12 mid12 24 := fun _ _ _ => a9
theorem tz13 : TzOk W13 mid13 20 := fun _ _ _ => a9
theorem tz14 : TzOk W14 mid14 51 := fun _ _ _ => a9
theorem tz15 : TzOk W15 mid15 8 := fun _ _ _ => a9
theorem tz16 : TzOk W16 mid16 20 := fun _ _ _ => a9
theorem tz17 : TzOk W17 mid17 20 := fun _ _ _ => a9
theorem tz18 : TzOk W18 mid18 22 := fun _ _ _ => a9
theorem tz19 : TzOk W19 mid19 20 := fun _ _ _ => a9
theorem tz20 : TzOk W20 mid20 22 := fun _ _ _ => a9
theorem tz21 : TzOk W21 mid21 33 := fun _ _ _ => a9
theorem tz22 : TzOk W22 mid22 12 := fun _ _ _ => a9
theorem tz23 : TzOk W23 mid23 8 := fun _ _ _ => a9
theorem tz24 : TzOk W24 mid24 10 := fun _ _ _ => a9
theorem tz25 : TzOk W25 mid25 6 := fun _ _ _ => a9
theorem tz26 : TzOk W26 mid26 10 := fun _ _ _ => a9
theorem tz27 : TzOk W27 mid27 9 := fun _ _ _ => a9
theorem tz28 : TzOk W28 mid28 17 := fun _ _ _ => a9
theorem tz29 : TzOk W29 mid29 29 := fun _ _ _ => a9
theorem tz30 : TzOk W30 mid30 12 := fun _ _ _ => a9
theorem tz31 : TzOk W31 mid31 10 := fun _ _ _ => a9
theorem tz32 : TzOk W32 mid32 18 := fun _ _ _ => a9
theorem tz33 : TzOk W33 mid33 14 := fun _ _ _ => a9
theorem tz34 : TzOk W34 mid34 15 := fun _ _ _ => a9
theorem tz35 : TzOk W35 mid35 14 := fun _ _ _ => a9
theorem tz36 : TzOk W36 mid36 13 := fun _ _ _ => a9
theorem tz37 : TzOk W37 mid37 27 := fun _ _ _ => a9
theorem tu0 : TuR mid0 0 0 0 none 4 := fun _ _ _ _ _ => a9
theorem tu1 : TuR mid1 1 1 2 none 4 := fun _ _ _ _ _ => a9
theorem tu2 : TuR mid2 1 2 2 none 4 := fun _ _ _ _ _ => a9
theorem tu3 : TuR mid3 1 3 1 none 4 := fun _ _ _ _ _ => a9
theorem tu4 : TuR mid4 2 4 1 none 4 := fun _ _ _ _ _ => a9
theorem tu5 : TuR mid5 2 5 3 none 4 := fun _ _ _ _ _ => a9
theorem tu6 : TuR mid6 3 6 3 none 4 := fun _ _ _ _ _ => a9
theorem tu7 : TuR mid7 99 7 1 none 4 := fun _ _ _ _ _ => a9
theorem tu8 : TuR mid8 4 8 1 none 4 := fun _ _ _ _ _ => a9
theorem tu9 : TuR mid9 0 9 3 none 4 := fun _ _ _ _ _ => a9
theorem tu10 : TuR mid10 99 10 2 none 4 := fun _ _ _ _ _ => a9
theorem tu11 : TuR mid11 4 11 4 (some (.tup [(.tup [(.int (-1)), (.int (-2)), (.int (-17)), (.int (-1))]), (.tup [])])) 5 := fun _ _ _ _ _ => a9
theorem tu12 : TuR mid12 4 12 1 (some (.tup [(.tup []), (.tup [(.int (-2))])])) 5 := fun _ _ _ _ _ => a9
theorem tu13 : TuR mid13 4 13 1 (some (.tup [(.tup [(.int (-1))]), (.tup [])])) 5 := fun _ _ _ _ _ => a9
theorem tu14 : TuR mid14 4 14 3 (some (.tup [(.tup [(.int (-16)), (.int (-17))]), (.tup [(.int (-1)), (.int (-1))])])) 5 := fun _ _ _ _ _ => a9
theorem tu15 : TuR mid15 0 15 1 none 4 := fun _ _ _ _ _ => a9
theorem tu16 : TuW mid16 [117, 110, 107, 110, 111, 119, 110, 32, 116, 121, 112, 101, 32, 52] 0 := fun _ _ _ _ => a9
theorem tu17 : TuW mid17 [105, 110, 108, 105, 110, 101, 32, 102, 117, 110, 99, 116, 105, 111, 110, 32, 116, 121, 112, 101] 0 := fun _ _ _ _ => a9
theorem tu18 : TuW mid18 [117, 110, 107, 110, 111, 119, 110, 32, 116, 121, 112, 101, 32, 57, 57] 0 := fun _ _ _ _ => a9
theorem tu19 : TuW mid19 [105, 110, 108, 105, 110, 101, 32, 102, 117, 110, 99, 116, 105, 111, 110, 32, 116, 121, 112, 101] 0 := fun _ _ _ _ => a9
theorem tu20 : TuW mid20 [105, 110, 108, 105, 110, 101, 32, 102, 117, 110, 99, 116, 105, 111, 110, 32, 116, 121, 112, 101] 0 := fun _ _ _ _ => a9
theorem tu21 : TuW mid21 [105, 110, 108, 105, 110, 101, 32, 102, 117, 110, 99, 116, 105, 111, 110, 32, 116, 121, 112, 101] 0 := fun _ _ _ _ => a9
theorem tu22 : TuW mid22 [117, 110, 107, 110, 111, 119, 110, 32, 116, 121, 112, 101, 32, 36, 110, 111, 110, 101] 6 := fun _ _ _ _ => a9
theorem tu23 : TuW mid23 [117, 110, 101, 120, 112, 101, 99, 116, 101, 100, 32, 116, 111, 107, 101, 110] 6 := fun _ _ _ _ => a9
theorem tu24 : TuW mid24 [117, 110, 101, 120, 112, 101, 99, 116, 101, 100, 32, 116, 111, 107, 101, 110] 8 := fun _ _ _ _ => a9
theorem tu25 : TuW mid25 [117, 110, 101, 120, 112, 101, 99, 116, 101, 100, 32, 116, 111, 107, 101, 110] 0 := fun _ _ _ _ => a9
theorem tu26 : TuW mid26 [117, 110, 101, 120, 112, 101, 99, 116, 101, 100, 32, 116, 111, 107, 101, 110] 6 := fun _ _ _ _ => a9
theorem tu27 : TuW mid27 [117, 110, 101, 120, 112, 101, 99, 116, 101, 100, 32, 116, 111, 107, 101, 110] 6 := fun _ _ _ _ => a9
theorem tu28 : TuW mid28 [105, 51, 50, 32, 99, 111, 110, 115, 116, 97, 110, 116, 32, 111, 117, 116, 32, 111, 102, 32, 114, 97, 110, 103, 101] 6 := fun _ _ _ _ => a9
theorem tu29 : TuW mid29 [100, 117, 112, 108, 105, 99, 97, 116, 101, 32, 108, 111, 99, 97, 108, 32, 36, 120] 22 := fun _ _ _ _ => a9
theorem tu30 : TuW mid30 [117, 110, 101, 120, 112, 101, 99, 116, 101, 100, 32, 116, 111, 107, 101, 110] 10 := fun _ _ _ _ => a9
theorem tu31 : TuW mid31 [117, 110, 101, 120, 112, 101, 99, 116, 101, 100, 32, 116, 111, 107, 101, 110] 0 := fun _ _ _ _ => a9
theorem tu32 : TuW mid32 [117, 110, 101, 120, 112, 101, 99, 116, 101, 100, 32, 116, 111, 107, 101, 110] 14 := fun _ _ _ _ => a9
theorem tu33 : TuW mid33 [117, 110, 101, 120, 112, 101, 99, 116, 101, 100, 32, 116, 111, 107, 101, 110] 11 := fun _ _ _ _ => a9
theorem tu34 : TuW mid34 [117, 110, 101, 120, 112, 101, 99, 116, 101, 100, 32, 116, 111, 107, 101, 110] 8 := fun _ _ _ _ => a9
theorem tu35 : TuW mid35 [117, 110, 101, 120, 112, 101, 99, 116, 101, 100, 32, 116, 111, 107, 101, 110] 12 := fun _ _ _ _ => a9
theorem tu36 : TuW mid36 [117, 110, 101, 120, 112, 101, 99, 116, 101, 100, 32, 116, 111, 107, 101, 110] 7 := fun _ _ _ _ => a9
theorem tu37 : TuW mid37 [117, 110, 101, 120, 112, 101, 99, 116, 101, 100, 32, 116, 111, 107, 101, 110] 23 := fun _ _ _ _ => a9
theorem EvS.cut {F : FS} {t : Stmt} {f : MM MF} (h : EvS F t f) : EvS F t (cutM f) := fun g W st s Q E G => h g W st s Q E G.uncut
theorem TokS.cut {F : FS} {t : Stmt} {f : MM MF} (h : TokS F t f) : TokS F t (cutM f) := ⟨fun g W st s Q E hT hk G => h.run g W st s Q E hT hk G.uncut⟩
def turnC : {f : MM MF // TopB lawFS (forBody (lawSt 2)) f} := ⟨_, TopB.cut (TopB.cons (TopS.of lawP1.2) (TopB.cons (TopS.of lawP2.2) (TopB.bump (n := 20) (EvS.cut lawP3.2) (fun _ => by with_unfolding_all rfl)
 (TokB.cons (TokS.of (EvS.cut lawP4.2)) (TokB.cons (TokS.of (EvS.cut lawP5.2)) (TokB.cons (TokS.of lawP6.2) (TokB.cons (TokS.cut lawP7.2) (TokB.cons (TokS.of lawP8.2) TokB.nil))))))))⟩
def lawC : {f : MM MF // TopB lawFS (stmtsOf F378) f} := ⟨_, TopB.cons (TopS.of lawPA.2)
 (TopB.cons (TopS.of lawPB.2)
 (TopB.cons (TopS.for (i := 5) (by kernel_rfl) (by kernel_rfl) rfl (src_range Ev.bltn Ev.cint) turnC.2)
 (TopB.cons (TopS.of (EvS.ret Ev.cbool)) TopB.nil)))⟩
noncomputable def dig (ns : List Int) (i : Nat) : Int := ns.getD i 0
theorem l_dig (ns : List Int) (i : Nat) (μ : List MO) : R526.val [.scr ns, .int i] μ = some (.val (.int (dig ns i)), μ) := by
 by_cases h : i < ns.length
 ·have h' : ns[i]? = some ns[i] := List.getElem?_eq_getElem h
  simp [R526, fnOut, seqM, MM.bind, MM.pure, getM, initM, one, lenM, ltM, truthM, itemM, h, h', dig]
 ·simp [R526, fnOut, seqM, MM.bind, MM.pure, getM, initM, one, lenM, ltM, truthM, itemM, h, dig]
theorem l_dig2 (ns : List Int) (k : Nat) (μ : List MO) : R526.val [.scr ns, .int (2 + (k : Int))] μ = some (.val (.int (dig ns (2 + k))), μ) := by
 rw [show (2 : Int) + (k : Int) = ((2 + k : Nat) : Int) by omega]
 exact l_dig ns (2 + k) μ
theorem l_mul {i j : Int} (h : Nat.ble (Builtin.Int.intBits j) 64 = true) : mulM (.int i) (.int j) = MM.pure (.int (i * j)) := by
 unfold mulM
 simp only [h]
theorem mulL_one (x : Nat) : ∀ a : Nat, mulL [x] a = List.replicate a x
 | 0 => rfl
 | a + 1 => by
  have := mulL_one x a
  unfold mulL at this ⊢
  rw [List.replicate_succ, List.flatten_cons, this, List.replicate_succ]; rfl
theorem l_rep (x : Nat) (a : Nat) (ha : a ≤ 1000) : mulM (.str [x]) (.int a) = MM.pure (.str (List.replicate a x)) := by
 unfold mulM
 have h1 : decide ((0 : Int) ≤ a) = true := decide_eq_true (by omega)
 have h2 : decide ((a : Int) ≤ 1000) = true := decide_eq_true (by omega)
 have h3 : Nat.ble [x].length 1000 = true := rfl
 simp only [h1, h2, h3, Bool.and_self, Int.toNat_natCast, mulL_one]
theorem l_cat {x y : List Nat} (hx : x.length ≤ 60000) (hy : y.length ≤ 60000) : addM (.str x) (.str y) = MM.pure (.str (x ++ y)) := by
 have h1 : shortL x = true := Nat.ble_eq_true_of_le hx
 have h2 : shortL y = true := Nat.ble_eq_true_of_le hy
 unfold addM
 simp only [h1, h2, Bool.and_self]
theorem l_mod3 (i : Int) : modM (.int i) (.int 3) = MM.pure (.int (i.fmod 3)) := rfl
theorem l_mod9 (i : Int) : modM (.int i) (.int 9) = MM.pure (.int (i.fmod 9)) := rfl
theorem l_mod38 (i : Int) : modM (.int i) (.int 38) = MM.pure (.int (i.fmod 38)) := rfl
theorem l_fd (i j : Int) (h : decide (j = 0) = false) (h2 : Nat.blt j.natAbs.log2 9000 = true) : fdivM (.int i) (.int j) = MM.pure (.int (i.fdiv j)) := by
 unfold fdivM
 simp only [h, h2]
theorem l_fd3 (i : Int) : fdivM (.int i) (.int 3) = MM.pure (.int (i.fdiv 3)) := l_fd i 3 (by decide) (by decide +kernel)
theorem l_fd9 (i : Int) : fdivM (.int i) (.int 9) = MM.pure (.int (i.fdiv 9)) := l_fd i 9 (by decide) (by decide +kernel)
theorem l_fd27 (i : Int) : fdivM (.int i) (.int 27) = MM.pure (.int (i.fdiv 27)) := l_fd i 27 (by decide) (by decide +kernel)
theorem l_p1 {o0 o1 o6 o7 o8 o9 o10 o11 : Option MV} {f s k : Int} {j : Nat} {w due kind : MV} {μ : List MO} (hk : Nat.ble (Builtin.Int.intBits k) 64 = true) (hj : (f + s * k).fmod 38 = (j : Int))
  (hI : ∀ m, itemM (.obj 19) (.int (j : Int)) ⟨m, μ⟩ = some (.val (.tup [w, due, kind]), ⟨m, μ⟩)) :
  lawP1.val ⟨[o0, o1, some (.obj 19), some (.int f), some (.int s), some (.int k), o6, o7, o8, o9, o10, o11], μ⟩ = some (.val .next, ⟨[o0, some w, some (.obj 19), some (.int f), some (.int s), some (.int k), some due, some kind, o8, o9, o10, o11], μ⟩) := by
 simp [lawP1, MM.bind, MM.pure, getM, l_mul hk, addM, l_mod38, hj, hI, unpackFM, putsM, putM]
theorem l_p2 {ns : List Int} {o1 o2 o3 o4 o6 o7 o8 o9 o10 o11 : Option MV} {k : Nat} {at_ : Nat} {μ : List MO} (ha : (dig ns (2 + k)).fmod 3 = (at_ : Int)) :
  lawP2.val ⟨[some (.scr ns), o1, o2, o3, o4, some (.int k), o6, o7, o8, o9, o10, o11], μ⟩ = some (.val .next, ⟨[some (.scr ns), o1, o2, o3, o4, some (.int k), o6, o7, some (.int (dig ns (2 + k))), some (.int at_), o10, o11], μ⟩) := by
 simp [lawP2, MM.bind, MM.pure, getM, addM, callM, l_dig2, l_mod3, ha, tupM, unpackM, putsM, putM]
abbrev ATs : List MV := [.str (ATl 0), .str (ATl 1), .str (ATl 2)]
abbrev TLs : List MV := [.str (TLl 0), .str (TLl 1), .str (TLl 2)]
theorem l_at (m : List (Option MV)) (μ : List MO) (i : Nat) (hi : i < 3) : itemM (.obj μ.length) (.int (i : Int)) ⟨m, μ ++ [.list ATs]⟩ = some (.val (.str (ATl i)), ⟨m, μ ++ [.list ATs]⟩) := by
 match i, hi with
 | 0, _ => simp [itemM, seqIndex?]
 | 1, _ => simp [itemM, seqIndex?]
 | 2, _ => simp [itemM, seqIndex?]
 | _ + 3, h => omega
theorem l_tl (m : List (Option MV)) (μ : List MO) (i : Nat) (hi : i < 3) : itemM (.obj μ.length) (.int (i : Int)) ⟨m, μ ++ [.list TLs]⟩ = some (.val (.str (TLl i)), ⟨m, μ ++ [.list TLs]⟩) := by
 match i, hi with
 | 0, _ => simp [itemM, seqIndex?]
 | 1, _ => simp [itemM, seqIndex?]
 | 2, _ => simp [itemM, seqIndex?]
 | _ + 3, h => omega
theorem AT_len (i : Nat) : (ATl i).length ≤ 20 := by
 match i with
 | 0 => decide
 | 1 => decide
 | 2 => decide
 | _ + 3 => exact Nat.zero_le _
theorem TL_len (i : Nat) : (TLl i).length ≤ 20 := by
 match i with
 | 0 => decide
 | 1 => decide
 | 2 => decide
 | _ + 3 => exact Nat.zero_le _
def txt (a b i : Nat) (w : List Nat) : List Nat := List.replicate a 10 ++ List.replicate b 32 ++ ATl i ++ w
theorem l_p3 {o0 o2 o3 o4 o5 o6 o7 o10 o11 : Option MV} {w : List Nat} {d : Int} {a b i : Nat} {μ : List MO} (ha : (d.fdiv 3).fmod 3 = (a : Int)) (hb : (d.fdiv 9).fmod 3 = (b : Int)) (hi : i < 3) (ha3 : a < 3) (hb3 : b < 3) (hw : w.length ≤ 200) :
  lawP3.val ⟨[o0, some (.str w), o2, o3, o4, o5, o6, o7, some (.int d), some (.int (i : Int)), o10, o11], μ⟩ = some (.val .next, ⟨[o0, some (.str w), o2, o3, o4, o5, o6, o7, some (.int d), some (.int (i : Int)), some (.str (txt a b i w)), o11], μ ++ [.list ATs]⟩) := by
 have hA := AT_len i
 have c1 : addM (.str (List.replicate a 10)) (.str (List.replicate b 32)) = MM.pure (.str (List.replicate a 10 ++ List.replicate b 32)) := l_cat (by simp; omega) (by simp; omega)
 have c2 : addM (.str (List.replicate a 10 ++ List.replicate b 32)) (.str (ATl i)) = MM.pure (.str (List.replicate a 10 ++ List.replicate b 32 ++ ATl i)) := l_cat (by simp; omega) (by omega)
 have c3 : addM (.str (List.replicate a 10 ++ List.replicate b 32 ++ ATl i)) (.str w) = MM.pure (.str (txt a b i w)) := l_cat (by simp; omega) (by omega)
 have hl : ∀ st, listM [.str [], .str [110, 111, 112, 32], .str [36, 113, 32, 40, 116, 121, 112, 101, 32, 48, 41, 32]] st = some (.val (.obj st.μ.length), ⟨st.m, st.μ ++ [.list ATs]⟩) := fun st => rfl
 simp only [lawP3, MM.bind, MM.pure, getM, List.getElem?_cons_succ, List.getElem?_cons_zero, l_fd3, l_fd9, l_fd27, l_mod3, ha, hb, l_rep _ a (by omega), l_rep _ b (by omega), c1, hl, l_at _ _ i hi, c2, c3, putM, List.set_cons_succ, List.set_cons_zero]
theorem l_p4 {o0 o1 o2 o3 o4 o5 o6 o7 o9 o11 : Option MV} {x : List Nat} {d : Int} {i : Nat} {μ : List MO} (ha : (d.fdiv 27).fmod 3 = (i : Int)) (hi : i < 3) (hx : x.length ≤ 1000) :
  lawP4.val ⟨[o0, o1, o2, o3, o4, o5, o6, o7, some (.int d), o9, some (.str x), o11], μ⟩ = some (.val .next, ⟨[o0, o1, o2, o3, o4, o5, o6, o7, some (.int d), o9, some (.str (x ++ TLl i)), o11], μ ++ [.list TLs]⟩) := by
 have hA := TL_len i
 have c1 : addM (.str x) (.str (TLl i)) = MM.pure (.str (x ++ TLl i)) := l_cat (by omega) (by omega)
 have hl : ∀ st, listM [.str [], .str [32, 40, 108, 111, 99, 97, 108, 32, 105, 51, 50, 41], .str [10, 110, 111, 112, 32, 40, 114, 101, 115, 117, 108, 116, 32, 120, 41]] st = some (.val (.obj st.μ.length), ⟨st.m, st.μ ++ [.list TLs]⟩) := fun st => rfl
 simp only [lawP4, MM.bind, MM.pure, getM, List.getElem?_cons_succ, List.getElem?_cons_zero, l_fd3, l_fd9, l_fd27, l_mod3, ha, hl, l_tl _ _ i hi, c1, putM, List.set_cons_succ, List.set_cons_zero]
theorem l_p5r {o0 o1 o2 o3 o4 o5 o7 o8 o10 o11 : Option MV} {n : Int} {j k i : Nat} {μ : List MO} :
  lawP5.val ⟨[o0, o1, o2, o3, o4, o5, some (.tup [.int n, .obj j, .int (k : Int)]), o7, o8, some (.int (i : Int)), o10, o11], μ⟩ = some (.val .next, ⟨[o0, o1, o2, o3, o4, o5, some (.tup [.int n, .obj j, .int (.ofNat (i + k))]), o7, o8, some (.int (i : Int)), o10, o11], μ⟩) := by
 have h : (i : Int) + (k : Int) = .ofNat (i + k) := rfl
 simp only [lawP5, MM.bind, MM.pure, getM, List.getElem?_cons_succ, List.getElem?_cons_zero, isStrOfM, truthM, seqM, itemM, putM, List.set_cons_succ, List.set_cons_zero]
 rfl
noncomputable def noC (c : Nat) : List Nat → Bool
 | [] => true
 | x :: r => match Nat.beq x c with
  | true => false
  | false => noC c r
theorem noC_app (c : Nat) : ∀ (x y : List Nat), noC c x = true → noC c y = true → noC c (x ++ y) = true
 | [], _, _, h => h
 | x :: r, y, h1, h2 => by
  rw [List.cons_append]
  unfold noC at h1 ⊢
  cases h : Nat.beq x c with
  | true => rw [h] at h1; exact ftE h1
  | false => rw [h] at h1; exact noC_app c r y h1 h2
theorem noC_rep (c x : Nat) (h : Nat.beq x c = false) : ∀ a : Nat, noC c (List.replicate a x) = true
 | 0 => rfl
 | a + 1 => by
  rw [List.replicate_succ]
  unfold noC
  rw [h]
  exact noC_rep c x h a
theorem idx_no {c : Nat} : ∀ (x : List Nat) (r : List Nat) (n : Nat), noC c x = true → idxL c (x ++ c :: r) n = some (n + x.length)
 | [], r, n, _ => by
  unfold idxL
  simp
 | y :: x, r, n, h => by
  unfold noC at h
  cases hy : Nat.beq y c with
  | true => rw [hy] at h; exact ftE h
  | false =>
   rw [hy] at h
   rw [List.cons_append]
   unfold idxL
   rw [hy]
   simp only
   rw [idx_no x r (n + 1) h, List.length_cons]
   congr 1
   omega
theorem split_no {c : Nat} : ∀ (q : List Nat), noC c q = true → splitC c q = (q, [])
 | [], _ => rfl
 | y :: q, h => by
  unfold noC at h
  cases hy : Nat.beq y c with
  | true => rw [hy] at h; exact ftE h
  | false =>
   rw [hy] at h
   unfold splitC
   rw [split_no q h, hy]
theorem cut_no {c : Nat} : ∀ (q : List Nat), noC c q = true → cutC c q = q
 | [], _ => rfl
 | y :: q, h => by
  unfold noC at h
  cases hy : Nat.beq y c with
  | true => rw [hy] at h; exact ftE h
  | false =>
   rw [hy] at h
   unfold cutC
   rw [cut_no q h, hy]
theorem cut_app (c : Nat) : ∀ (x y : List Nat), cutC c (x ++ y) = cutC c x ++ cutC c y
 | [], _ => rfl
 | x :: r, y => by
  show (match Nat.beq x c with | true => cutC c (r ++ y) | false => x :: cutC c (r ++ y)) = (match Nat.beq x c with | true => cutC c r | false => x :: cutC c r) ++ cutC c y
  rw [cut_app c r y]
  cases Nat.beq x c <;> rfl
theorem l_place {a : Nat} {q r : List Nat} {μ : List MO} (ha : a < 3) (h10 : noC 10 q = true) (h64 : noC 64 q = true) (hl : (q ++ r).length ≤ 900) :
  ∃ x, R561.val [.str (List.replicate a 10 ++ (q ++ 64 :: r))] μ = some (.val (.tup [.int (.ofNat (a + 1)), .int (.ofNat (q.length + 1))]), μ ++ [x]) := by
 have hp : noC 64 (List.replicate a 10 ++ q) = true := noC_app _ _ _ (noC_rep 64 10 rfl a) h64
 have hX : List.replicate a 10 ++ (q ++ 64 :: r) = (List.replicate a 10 ++ q) ++ 64 :: r := by simp
 have hi : indexM [.str (List.replicate a 10 ++ (q ++ 64 :: r)), .str [64]] = MM.pure (.int ((List.replicate a 10 ++ q).length : Nat)) := by
  unfold indexM
  rw [hX]
  simp only [idx_no _ r 0 hp, Nat.zero_add]
 have ht : toS (.str (List.replicate a 10 ++ (q ++ 64 :: r))) (.int ((List.replicate a 10 ++ q).length : Nat)) = MM.pure (.str (List.replicate a 10 ++ q)) := by
  unfold toS
  rw [hX]
  have h1 : decide ((0 : Int) ≤ ((List.replicate a 10 ++ q).length : Nat)) = true := decide_eq_true (by omega)
  have h2 : Nat.ble ((List.replicate a 10 ++ q) ++ 64 :: r).length 16777216 = true := Nat.ble_eq_true_of_le (by simp at hl ⊢; omega)
  simp only [h1, h2, Bool.and_self, Int.toNat_natCast, List.take_left]
 generalize hXX : List.replicate a 10 ++ (q ++ 64 :: r) = X at *
 generalize hLL : (List.replicate a 10 ++ q).length = N at *
 have hlen : (Nat.ble (List.replicate a 10 ++ q).length 1000 && Nat.blt 10 256) = true := by
  rw [Bool.and_eq_true]
  exact ⟨Nat.ble_eq_true_of_le (by simp at hl ⊢; omega), rfl⟩
 have hs := split_no q h10
 have hq : shortL q = true := Nat.ble_eq_true_of_le (by simp at hl; omega)
 generalize hP : List.replicate a 10 ++ q = P at *
 have hi' : ∀ st, indexM [.str X, .str [64]] st = some (.val (.int (N : Int)), st) := fun st => by rw [hi]; rfl
 match a, ha with
 | 0, _ =>
  have hs' : ∀ st, splitM [.str P, .str [10]] st = some (.val (.obj st.μ.length), ⟨st.m, st.μ ++ [.list [.str q]]⟩) := by
   intro st
   unfold splitM
   simp only [hlen]
   rw [← hP]
   simp [hs, splitC]
  refine ⟨.list [.str q], ?_⟩
  simp [R561, fnOut, seqM, MM.bind, MM.pure, getM, initM, isStrM, hi', ht, hs', putM, one, lenM, negM, itemM, seqIndex?, hq, addM, tupM]
 | 1, _ =>
  have hs' : ∀ st, splitM [.str P, .str [10]] st = some (.val (.obj st.μ.length), ⟨st.m, st.μ ++ [.list [.str [], .str q]]⟩) := by
   intro st
   unfold splitM
   simp only [hlen]
   rw [← hP]
   simp [hs, splitC]
  refine ⟨.list [.str [], .str q], ?_⟩
  simp [R561, fnOut, seqM, MM.bind, MM.pure, getM, initM, isStrM, hi', ht, hs', putM, one, lenM, negM, itemM, seqIndex?, hq, addM, tupM]
 | 2, _ =>
  have hs' : ∀ st, splitM [.str P, .str [10]] st = some (.val (.obj st.μ.length), ⟨st.m, st.μ ++ [.list [.str [], .str [], .str q]]⟩) := by
   intro st
   unfold splitM
   simp only [hlen]
   rw [← hP]
   simp [hs, splitC]
  refine ⟨.list [.str [], .str [], .str q], ?_⟩
  simp [R561, fnOut, seqM, MM.bind, MM.pure, getM, initM, isStrM, hi', ht, hs', putM, one, lenM, negM, itemM, seqIndex?, hq, addM, tupM]
 | _ + 3, h => omega
theorem l_neW (w : List Nat) (r c : Int) (st : St) (hw : PyData.canLay0 (.str (S w)) = true) : neTM 13 (.tup [.str w, .tup [.int r, .int c]]) (.tup [.str w, .tup [.int r, .int c]]) st = some (.val (.bool false), st) := by
 have h1 : neTM 13 (.tup [.str w, .tup [.int r, .int c]]) (.tup [.str w, .tup [.int r, .int c]]) = eqD 13 false (.tup [.str w, .tup [.int r, .int c]]) (.tup [.str w, .tup [.int r, .int c]]) := rfl
 have h2 : toD st.μ 8 (.tup [.str w, .tup [.int r, .int c]]) = some (.tuple [.str (S w), .tuple [.int r, .int c]]) := rfl
 have h3 : (PyData.tuple [.str (S w), .tuple [.int r, .int c]]).canLay0 = true := by
  rw [PyData.canLay0] at hw
  simp [PyData.canLay0, PyData.canLayAll0, hw]
 have h4 : Nat.ble (PyData.tuple [.str (S w), .tuple [.int r, .int c]]).depth 40 = true := by kernel_rfl
 have h5 : Nat.ble 1 13 = true := rfl
 rw [h1]
 unfold eqD
 simp only [h2, h3, h4, h5, Bool.and_self, PySem.SeqAt.eqv_refl _ h3, Bool.not_true]
theorem cut_is {f : MM MF} {m m' : List (Option MV)} {μ x : List MO} (h : f ⟨m, μ⟩ = some (.val .next, ⟨m', μ ++ x⟩)) (hc : closMu μ.length μ μ.length = true) : cutM f ⟨m, μ⟩ = some (.val .next, ⟨mapV μ.length m', μ⟩) := by
 have hA : ∀ (l : List MO) (n : Nat), closMu n (l ++ x) l.length = closMu n l l.length := by
  intro l n
  induction l with
  | nil => cases x <;> rfl
  | cons o r ih =>
   rw [List.cons_append, List.length_cons]
   unfold closMu
   rw [ih]
 unfold cutM
 rw [h]
 simp only [hA, hc, List.take_left]
theorem closMu_take (n : Nat) : ∀ (l : List MO) (k : Nat), closMu n l k = closMu n (l.take k) k
 | [], 0 => rfl
 | [], _ + 1 => rfl
 | _ :: _, 0 => by
  rw [List.take_zero]
  unfold closMu
  rfl
 | o :: r, k + 1 => by
  rw [List.take_succ_cons]
  unfold closMu
  rw [closMu_take n r k]
theorem cut_is2 {f : MM MF} {m m' : List (Option MV)} {μ μ' μ2 : List MO} (h : f ⟨m, μ⟩ = some (.val .next, ⟨m', μ'⟩)) (ht : μ'.take μ.length = μ2) (hc : closMu μ.length μ2 μ.length = true) : cutM f ⟨m, μ⟩ = some (.val .next, ⟨mapV μ.length m', μ2⟩) := by
 unfold cutM
 rw [h]
 simp only [closMu_take _ μ', ht, hc]
theorem l_p5w {o0 o1 o2 o3 o4 o5 o7 o8 o9 o11 : Option MV} {why q r : List Nat} {a : Nat} {μ : List MO} (ha : a < 3) (h10 : noC 10 q = true) (h64 : noC 64 q = true) (hl : (q ++ r).length ≤ 900) :
  ∃ x, lawP5.val ⟨[o0, o1, o2, o3, o4, o5, some (.str why), o7, o8, o9, some (.str (List.replicate a 10 ++ (q ++ 64 :: r))), o11], μ⟩ = some (.val .next, ⟨[o0, o1, o2, o3, o4, o5, some (.tup [.str why, .tup [.int (.ofNat (a + 1)), .int (.ofNat (q.length + 1))]]), o7, o8, o9, some (.str (List.replicate a 10 ++ (q ++ 64 :: r))), o11], μ ++ [x]⟩) := by
 obtain ⟨x, hx⟩ := l_place (μ := μ) ha h10 h64 hl
 refine ⟨x, ?_⟩
 generalize List.replicate a 10 ++ (q ++ 64 :: r) = X at *
 have hs : isStrOfM [.str why, .con (.type "str")] = MM.pure (.bool true) := rfl
 simp [lawP5, MM.bind, MM.pure, getM, hs, truthM, seqM, callM, hx, tupM, putM]
theorem told_is {Y : List Nat} {i : Nat} {out : List Tr} {μ μ' : List MO} {fs : List (Nat × MV)} {o : Out MV} (h1 : frameF R414.val [.str Y] μ = some (.val (.trees out), μ)) (h2 : μ[20]? = some (.inst 515 fs)) (h3 : R505.val [.obj 20, .trees out, .int (.ofNat i)] μ = some (o, μ')) :
  R568.val [.obj 20, .str Y, .int (.ofNat i)] μ = some (.val (badV o), μ') := by
 have e : R568.val = toldF (frameF R414.val) R505.val := rfl
 rw [e]
 unfold toldF
 simp only [h1, h2, h3]
 cases o <;> rfl
theorem l_p7 {o0 o1 o2 o3 o4 o5 o7 o8 : Option MV} {due v : MV} {X : List Nat} {av : MV} {μ μ' : List MO} {st : St} (hX : X.length ≤ 1000)
  (h : R568.val [.obj 20, .str (cutC 64 X), av] μ = some (.val v, μ'))
  (hn : neTM 13 v due ⟨[o0, o1, o2, o3, o4, o5, some due, o7, o8, some av, some (.str X), some (.obj 20)], μ'⟩ = some (.val (.bool false), st)) :
  lawP7.val ⟨[o0, o1, o2, o3, o4, o5, some due, o7, o8, some av, some (.str X), some (.obj 20)], μ⟩ = some (.val .next, st) := by
 have hr : repM (.str X) = MM.pure (.str (cutC 64 X)) := by
  unfold repM
  simp only [Nat.ble_eq_true_of_le hX]
 simp [lawP7, MM.bind, MM.pure, getM, hr, callM, h, hn, truthM]
set_option tactic.hygienic true in
theorem ckR_inv {m m2 : List (Option MV)} {due : MV} {r : Option (Out MV × List MO)} {μ2 : List MO} (h : ckR m due r = some (m2, μ2)) : ∃ v μ st, r = some (.val v, μ) ∧ neTM 13 v due ⟨m, μ⟩ = some (.val (.bool false), st) ∧ st.m = m2 ∧ st.μ.take 33 = μ2 := by
 unfold ckR at h
 split at h
 ·split at h
  ·rename_i v μ _ st e
   have h' := Option.some.inj h
   exact ⟨v, μ, st, rfl, e, congrArg Prod.fst h', congrArg Prod.snd h'⟩
  ·exact nsE h
 ·exact nsE h
set_option tactic.hygienic true in
theorem ckW_inv {r : Option (Out MV × List MO)} {w : List Nat} {a c : Int} {μ2 : List MO} (h : ckW r = some (w, a, c, μ2)) : ∃ μ, r = some (.bad w a c, μ) ∧ μ.take 33 = μ2 := by
 unfold ckW at h
 split at h
 ·rename_i w' a' c' μ
  have h' := Option.some.inj h
  injection h' with h1 h2
  injection h2 with h2 h3
  injection h3 with h3 h4
  subst h1 h2 h3
  exact ⟨μ, rfl, h4⟩
 ·exact nsE h
theorem R554_is : R554.val [] muA = some (.val (.obj 20), muA ++ spc (kin none) 4) := by kernel_rfl
theorem l_p6 {o0 o1 o2 o3 o4 o5 o6 o7 o8 o9 o10 o11 : Option MV} : lawP6.val ⟨[o0, o1, o2, o3, o4, o5, o6, o7, o8, o9, o10, o11], muA⟩ = some (.val .next, ⟨[o0, o1, o2, o3, o4, o5, o6, o7, o8, o9, o10, some (.obj 20)], muA ++ spc (kin none) 4⟩) := by
 simp [lawP6, MM.bind, MM.pure, callM, R554_is, putM]
noncomputable def ck8 : Option (Out MF × St) → Option (List (Option MV) × List MO)
 | some (.val .next, st) => some (st.m, st.μ.take 20)
 | _ => none
noncomputable def kdV : Option MV → MV
 | some k => k
 | none => .none
abbrev P8Ok (kd : Option MV) (n : Int) : Prop := ∀ o0 o1 o2 o3 o4 o5 o6 o8 o9 o10 : Option MV, ck8 (lawP8.val ⟨[o0, o1, o2, o3, o4, o5, o6, some (kdV kd), o8, o9, o10, some (.obj 20)], muA ++ spc (kin kd) n⟩) = some ([o0, o1, o2, o3, o4, o5, o6, some (kdV kd), o8, o9, o10, some (.obj 20)], muA)
theorem p8_0 : P8Ok none 4 := fun _ _ _ _ _ _ _ _ _ _ => by kernel_rfl
theorem p8_1 : P8Ok (some (.tup [.tup [.int (-1), .int (-2), .int (-17), .int (-1)], .tup []])) 5 := fun _ _ _ _ _ _ _ _ _ _ => by kernel_rfl
theorem p8_2 : P8Ok (some (.tup [.tup [], .tup [.int (-2)]])) 5 := fun _ _ _ _ _ _ _ _ _ _ => by kernel_rfl
theorem p8_3 : P8Ok (some (.tup [.tup [.int (-1)], .tup []])) 5 := fun _ _ _ _ _ _ _ _ _ _ => by kernel_rfl
theorem p8_4 : P8Ok (some (.tup [.tup [.int (-16), .int (-17)], .tup [.int (-1), .int (-1)]])) 5 := fun _ _ _ _ _ _ _ _ _ _ => by kernel_rfl
theorem seq_is {f k : MM MF} {st st1 : St} (h : f st = some (.val .next, st1)) : seqM f k st = k st1 := by
 unfold seqM MM.bind
 rw [h]
def restC : MM MF := seqM (cutM lawP3.val) (seqM (cutM lawP4.val) (seqM (cutM lawP5.val) (seqM lawP6.val (seqM (cutM lawP7.val) (seqM lawP8.val (MM.pure .next))))))
theorem turnC_is : turnC.val = cutM (seqM lawP1.val (seqM lawP2.val restC)) := rfl
theorem mu_len : muA.length = 20 := by kernel_rfl
theorem mu_clos : closMu muA.length muA muA.length = true := by kernel_rfl
theorem sp_len (ks : List MV) (n : Int) : (muA ++ spc ks n).length = 33 := by kernel_rfl
theorem map_ms {n : Nat} {ns : List Int} {w : List Nat} {f s k d : Int} {due kind av : MV} {o10 o11 : Option MV} (hn : Nat.blt 19 n = true) (h1 : clos n due = true) (h2 : clos n kind = true) (h3 : clos n av = true) :
  mapV n [some (.scr ns), some (.str w), some (.obj 19), some (.int f), some (.int s), some (.int k), some due, some kind, some (.int d), some av, o10, o11] = [some (.scr ns), some (.str w), some (.obj 19), some (.int f), some (.int s), some (.int k), some due, some kind, some (.int d), some av, cutV n o10, cutV n o11] := by
 simp [mapV, cutV, clos, hn, h1, h2, h3]
theorem cut_str (n : Nat) (x : List Nat) : cutV n (some (.str x)) = some (.str x) := rfl
def RowOk (w : List Nat) (due kind : MV) : Prop := ∀ (ns : List Int) (f s k d : Int) (a b i t : Nat) (o10 o11 : Option MV), a < 3 → b < 3 → i < 3 → t < 3 → (d.fdiv 3).fmod 3 = (a : Int) → (d.fdiv 9).fmod 3 = (b : Int) → (d.fdiv 27).fmod 3 = (t : Int) →
 ∃ due' X μ', μ'.take 20 = muA ∧ restC ⟨[some (.scr ns), some (.str w), some (.obj 19), some (.int f), some (.int s), some (.int k), some due, some kind, some (.int d), some (.int (i : Int)), o10, o11], muA⟩ =
  some (.val .next, ⟨[some (.scr ns), some (.str w), some (.obj 19), some (.int f), some (.int s), some (.int k), some due', some kind, some (.int d), some (.int (i : Int)), some (.str X), some (.obj 20)], μ'⟩)
theorem noC_at (c : Nat) (h1 : noC c (ATl 0) = true) (h2 : noC c (ATl 1) = true) (h3 : noC c (ATl 2) = true) : ∀ i, noC c (ATl i) = true
 | 0 => h1
 | 1 => h2
 | 2 => h3
 | _ + 3 => rfl
theorem noC_tl (c : Nat) (h1 : noC c (TLl 0) = true) (h2 : noC c (TLl 1) = true) (h3 : noC c (TLl 2) = true) : ∀ i, noC c (TLl i) = true
 | 0 => h1
 | 1 => h2
 | 2 => h3
 | _ + 3 => rfl
theorem txt_len {a b i : Nat} {w : List Nat} (ha : a < 3) (hb : b < 3) (hw : w.length ≤ 200) : (txt a b i w).length ≤ 300 := by
 have := AT_len i
 unfold txt
 simp
 omega
theorem cut_txt {a b i t : Nat} {w W : List Nat} (hW : cutC 64 w = W) : cutC 64 (txt a b i w ++ TLl t) = List.replicate a 10 ++ (List.replicate b 32 ++ (ATl i ++ (W ++ TLl t))) := by
 unfold txt
 rw [cut_app, cut_app, cut_app, cut_app, cut_no _ (noC_rep 64 10 rfl a), cut_no _ (noC_rep 64 32 rfl b), cut_no _ (noC_at 64 rfl rfl rfl i), cut_no _ (noC_tl 64 rfl rfl rfl t), hW]
 simp
theorem rest_is {ns : List Int} {w : List Nat} {f s k d : Int} {due due' kind : MV} {a b i t : Nat} {o10 o11 : Option MV} (ha : a < 3) (hb : b < 3) (hi : i < 3) (ht : t < 3) (h1 : (d.fdiv 3).fmod 3 = (a : Int)) (h2 : (d.fdiv 9).fmod 3 = (b : Int)) (h3 : (d.fdiv 27).fmod 3 = (t : Int)) (hw : w.length ≤ 200)
  (c1 : clos 20 due = true) (c2 : clos 20 due' = true) (c3 : clos 33 due' = true) (c4 : clos 20 kind = true) (c5 : clos 33 kind = true)
  (h5 : ∀ o0 o1 o2 o3 o4 o5 o7 o8 o11, ∃ x, lawP5.val ⟨[o0, o1, o2, o3, o4, o5, some due, o7, o8, some (.int (i : Int)), some (.str (txt a b i w ++ TLl t)), o11], muA⟩ = some (.val .next, ⟨[o0, o1, o2, o3, o4, o5, some due', o7, o8, some (.int (i : Int)), some (.str (txt a b i w ++ TLl t)), o11], muA ++ x⟩))
  {kd : Option MV} {n : Int} (hkd : kind = kdV kd) (hcl : closMu 33 (muA ++ spc (kin kd) n) 33 = true)
  (h7 : ∀ o0 o1 o2 o3 o4 o5 o7 o8, ∃ μ', lawP7.val ⟨[o0, o1, o2, o3, o4, o5, some due', o7, o8, some (.int (i : Int)), some (.str (txt a b i w ++ TLl t)), some (.obj 20)], muA ++ spc (kin none) 4⟩ = some (.val .next, ⟨[o0, o1, o2, o3, o4, o5, some due', o7, o8, some (.int (i : Int)), some (.str (txt a b i w ++ TLl t)), some (.obj 20)], μ'⟩) ∧ μ'.take 33 = muA ++ spc (kin kd) n)
  (h8 : P8Ok kd n) : ∃ X μ', μ'.take 20 = muA ∧ restC ⟨[some (.scr ns), some (.str w), some (.obj 19), some (.int f), some (.int s), some (.int k), some due, some kind, some (.int d), some (.int (i : Int)), o10, o11], muA⟩ =
  some (.val .next, ⟨[some (.scr ns), some (.str w), some (.obj 19), some (.int f), some (.int s), some (.int k), some due', some kind, some (.int d), some (.int (i : Int)), some (.str X), some (.obj 20)], μ'⟩) := by
 subst hkd
 have hx : (txt a b i w).length ≤ 1000 := by have := txt_len (i := i) ha hb hw; omega
 have e3 := cut_is (l_p3 (o0 := some (.scr ns)) (o2 := some (.obj 19)) (o3 := some (.int f)) (o4 := some (.int s)) (o5 := some (.int k)) (o6 := some due) (o7 := some (kdV kd)) (o10 := o10) (o11 := o11) (μ := muA) h1 h2 hi ha hb hw) mu_clos
 rw [mu_len, map_ms rfl c1 c4 rfl, cut_str] at e3
 have e4 := cut_is (l_p4 (o0 := some (.scr ns)) (o1 := some (.str w)) (o2 := some (.obj 19)) (o3 := some (.int f)) (o4 := some (.int s)) (o5 := some (.int k)) (o6 := some due) (o7 := some (kdV kd)) (o9 := some (.int (i : Int))) (o11 := cutV 20 o11) (μ := muA) h3 ht hx) mu_clos
 rw [mu_len, map_ms rfl c1 c4 rfl, cut_str] at e4
 obtain ⟨x, hx5⟩ := h5 (some (.scr ns)) (some (.str w)) (some (.obj 19)) (some (.int f)) (some (.int s)) (some (.int k)) (some (kdV kd)) (some (.int d)) (cutV 20 (cutV 20 o11))
 have e5 := cut_is hx5 mu_clos
 rw [mu_len, map_ms rfl c2 c4 rfl, cut_str] at e5
 refine ee12 (h7 (some (.scr ns)) (some (.str w)) (some (.obj 19)) (some (.int f)) (some (.int s)) (some (.int k)) (some (kdV kd)) (some (.int d))) fun μ' h7a h7b => ?_
 have e7 := cut_is2 (μ2 := muA ++ spc (kin kd) n) h7a (by rw [sp_len]; exact h7b) (by rw [sp_len]; exact hcl)
 rw [sp_len, map_ms rfl c3 c5 rfl, cut_str] at e7
 have e8 := h8 (some (.scr ns)) (some (.str w)) (some (.obj 19)) (some (.int f)) (some (.int s)) (some (.int k)) (some due') (some (.int d)) (some (.int (i : Int))) (some (.str (txt a b i w ++ TLl t)))
 cases hq : lawP8.val ⟨[some (.scr ns), some (.str w), some (.obj 19), some (.int f), some (.int s), some (.int k), some due', some (kdV kd), some (.int d), some (.int (i : Int)), some (.str (txt a b i w ++ TLl t)), some (.obj 20)], muA ++ spc (kin kd) n⟩ with
 | none => rw [hq] at e8; exact nsE e8
 | some p =>
  obtain ⟨o, st⟩ := p
  rw [hq] at e8
  cases o with
  | bad => exact nsE e8
  | val fl =>
   cases fl with
   | next =>
    obtain ⟨m8, μ8⟩ := st
    have e9 : m8 = _ := congrArg Prod.fst (Option.some.inj e8)
    have e10 : μ8.take 20 = muA := congrArg Prod.snd (Option.some.inj e8)
    subst e9
    refine ⟨txt a b i w ++ TLl t, μ8, e10, ?_⟩
    unfold restC
    rw [seq_is e3, seq_is e4, seq_is e5, seq_is l_p6]
    rw [show cutV 33 (some (MV.obj 20)) = some (MV.obj 20) from rfl] at e7
    rw [seq_is e7, seq_is hq]
    rfl
   | _ => exact nsE e8
theorem sp_20 : (muA ++ spc (kin none) 4)[20]? = some (.inst 515 [(8, .obj 21), (9, .obj 22), (10, .obj 23)]) := by kernel_rfl
theorem one_add (a : Nat) : (1 : Int) + (a : Int) = .ofNat (a + 1) := by
 rw [Int.add_comm]; rfl
theorem told_out {W : List Nat} {mid : Nat → Nat → List Tr} {len a b i t : Nat} (tz : TzOk W mid len) (hl : W.length ≤ 200) (ha : a < 3) (hb : b < 3) (hi : i < 3) (ht : t < 3) (μ : List MO) :
  frameF R414.val [.str (List.replicate a 10 ++ (List.replicate b 32 ++ (ATl i ++ (W ++ TLl t))))] μ = some (.val (.trees (preT i a (b + 1) ++ (mid a (b + atC i) ++ postT t a (b + (atC i + len))))), μ) := by
 have h1 := AT_len i
 have h2 := TL_len t
 refine TZ_is (by omega) (by omega) (Nat.ble_eq_true_of_le (by simp; omega)) ?_ μ
 rw [one_add, one_add]
 exact (tz _ a b).get i t hi ht
theorem rightT {w W : List Nat} {mid : Nat → Nat → List Tr} {len : Nat} {n : Int} {j k0 : Nat} {kd : Option MV} {m : Int} (tz : TzOk W mid len) (tu : TuR mid n j k0 kd m) (h8 : P8Ok kd m) (hw : Nat.ble w.length 200 = true := by kernel_rfl) (hW : cutC 64 w = W := by kernel_rfl) (hl : Nat.ble W.length 200 = true := by kernel_rfl) (hj : Nat.blt j 20 = true := by kernel_rfl) (hj3 : Nat.blt j 33 = true := by kernel_rfl)
  (c4 : clos 20 (kdV kd) = true := by kernel_rfl) (c5 : clos 33 (kdV kd) = true := by kernel_rfl) (hcl : closMu 33 (muA ++ spc (kin kd) m) 33 = true := by kernel_rfl) : RowOk w (.tup [.int n, .obj j, .int (k0 : Int)]) (kdV kd) := by
 intro ns f s k d a b i t o10 o11 ha hb hi ht h1 h2 h3
 have hw' := Nat.le_of_ble_eq_true hw
 have cc : ∀ (N : Nat) (x y : Int), Nat.blt j N = true → clos N (.tup [.int x, .obj j, .int y]) = true := by
  intro N x y h
  simp [clos, closL, h]
 obtain ⟨X, μ', q1, q2⟩ := rest_is (due' := .tup [.int n, .obj j, .int (.ofNat (i + k0))]) (f := f) (s := s) (k := k) (ns := ns) (o10 := o10) (o11 := o11) ha hb hi ht h1 h2 h3 hw' (cc _ _ _ hj) (cc _ _ _ hj) (cc _ _ _ hj3) c4 c5 (fun o0 o1 o2 o3 o4 o5 o7 o8 o11 => ⟨[], by rw [List.append_nil]; exact l_p5r⟩) rfl hcl
  (fun o0 o1 o2 o3 o4 o5 o7 o8 => by
   have q := (tu [o0, o1, o2, o3, o4, o5, some (.tup [.int n, .obj j, .int (.ofNat (i + k0))]), o7, o8, some (.int (i : Int)), some (.str (txt a b i w ++ TLl t)), some (.obj 20)] a (b + 1) (b + atC i) (b + (atC i + len))).get i t hi ht
   have ho := told_out tz (Nat.le_of_ble_eq_true hl) ha hb hi ht (muA ++ spc (kin none) 4)
   generalize preT i a (b + 1) ++ (mid a (b + atC i) ++ postT t a (b + (atC i + len))) = out at q ho
   refine ee34 (ckR_inv q) fun v μ' st hq hn hm hmu => ?_
   have hX : (txt a b i w ++ TLl t).length ≤ 1000 := by
    have h1 := txt_len (i := i) ha hb hw'
    have h2 := TL_len t
    rw [List.length_append]; omega
   have ht7 := told_is (i := i) ho sp_20 hq
   rw [← cut_txt hW] at ht7
   obtain ⟨sm, sμ⟩ := st
   cases hm
   exact ⟨sμ, l_p7 hX ht7 hn, hmu⟩) h8
 exact ⟨_, X, μ', q1, q2⟩
theorem noC_words {c : Nat} {b i : Nat} {wp : List Nat} (h1 : Nat.beq 32 c = false) (h2 : noC c (ATl 0) = true) (h3 : noC c (ATl 1) = true) (h4 : noC c (ATl 2) = true) (h : noC c wp = true) : noC c (List.replicate b 32 ++ (ATl i ++ wp)) = true :=
 noC_app _ _ _ (noC_rep c 32 h1 b) (noC_app _ _ _ (noC_at c h2 h3 h4 i) h)
theorem wrongT {wp wr W why : List Nat} {mid : Nat → Nat → List Tr} {len : Nat} (tz : TzOk W mid len) (tu : TuW mid why wp.length) (h8 : P8Ok none 4) (hw : Nat.ble (wp ++ 64 :: wr).length 200 = true := by kernel_rfl) (hW : cutC 64 (wp ++ 64 :: wr) = W := by kernel_rfl) (hl : Nat.ble W.length 200 = true := by kernel_rfl)
  (h10 : noC 10 wp = true := by kernel_rfl) (h64 : noC 64 wp = true := by kernel_rfl) (hlay : PyData.canLay0 (.str (S why)) = true := by kernel_rfl) (hcl : closMu 33 (muA ++ spc (kin none) 4) 33 = true := by kernel_rfl) : RowOk (wp ++ 64 :: wr) (.str why) .none := by
 intro ns f s k d a b i t o10 o11 ha hb hi ht h1 h2 h3
 have hw' := Nat.le_of_ble_eq_true hw
 have hX : (txt a b i (wp ++ 64 :: wr) ++ TLl t).length ≤ 1000 := by
  have h1 := txt_len (i := i) ha hb hw'
  have h2 := TL_len t
  rw [List.length_append]; omega
 have hq5 : txt a b i (wp ++ 64 :: wr) ++ TLl t = List.replicate a 10 ++ ((List.replicate b 32 ++ (ATl i ++ wp)) ++ 64 :: (wr ++ TLl t)) := by
  unfold txt; simp
 have hpos : (List.replicate b 32 ++ (ATl i ++ wp)).length + 1 = b + atC i + wp.length := by
  have : (ATl i).length + 1 = atC i := by
   match i, hi with
   | 0, _ => rfl
   | 1, _ => rfl
   | 2, _ => rfl
   | _ + 3, h => omega
  simp; omega
 obtain ⟨X, μ', q1, q2⟩ := rest_is (due := .str why) (due' := .tup [.str why, .tup [.int (.ofNat (a + 1)), .int (.ofNat (b + atC i + wp.length))]]) (kd := none) (n := 4) (kind := .none) (f := f) (s := s) (k := k) (ns := ns) (o10 := o10) (o11 := o11) ha hb hi ht h1 h2 h3 hw' rfl rfl rfl rfl rfl
  (fun o0 o1 o2 o3 o4 o5 o7 o8 o11 => by
   obtain ⟨x, hx⟩ := l_p5w (o0 := o0) (o1 := o1) (o2 := o2) (o3 := o3) (o4 := o4) (o5 := o5) (o7 := o7) (o8 := o8) (o9 := some (.int (i : Int))) (o11 := o11) (why := why) (q := List.replicate b 32 ++ (ATl i ++ wp)) (r := wr ++ TLl t) (μ := muA) ha (noC_words rfl rfl rfl rfl h10) (noC_words rfl rfl rfl rfl h64) (by
    have h1 := AT_len i
    have h2 := TL_len t
    simp at hw' ⊢; omega)
   rw [hpos] at hx
   rw [hq5]
   exact ⟨[x], hx⟩) rfl hcl
  (fun o0 o1 o2 o3 o4 o5 o7 o8 => by
   have q := (tu a (b + 1) (b + atC i) (b + (atC i + len))).get i t hi ht
   have ho := told_out tz (Nat.le_of_ble_eq_true hl) ha hb hi ht (muA ++ spc (kin none) 4)
   generalize preT i a (b + 1) ++ (mid a (b + atC i) ++ postT t a (b + (atC i + len))) = out at q ho
   refine ee12 (ckW_inv q) fun μ' hq hmu => ?_
   have ht7 := told_is (i := i) ho sp_20 hq
   rw [← cut_txt hW] at ht7
   exact ⟨μ', l_p7 hX ht7 (l_neW _ _ _ _ hlay), hmu⟩) h8
 exact ⟨_, X, μ', q1, q2⟩
theorem row0 : RowOk W0 (.tup [.int 0, .obj 0, .int (0 : Nat)]) (kdV none) := rightT tz0 tu0 p8_0
theorem row1 : RowOk W1 (.tup [.int 1, .obj 1, .int (2 : Nat)]) (kdV none) := rightT tz1 tu1 p8_0
theorem row2 : RowOk W2 (.tup [.int 1, .obj 2, .int (2 : Nat)]) (kdV none) := rightT tz2 tu2 p8_0
theorem row3 : RowOk W3 (.tup [.int 1, .obj 3, .int (1 : Nat)]) (kdV none) := rightT tz3 tu3 p8_0
theorem row4 : RowOk W4 (.tup [.int 2, .obj 4, .int (1 : Nat)]) (kdV none) := rightT tz4 tu4 p8_0
theorem row5 : RowOk W5 (.tup [.int 2, .obj 5, .int (3 : Nat)]) (kdV none) := rightT tz5 tu5 p8_0
theorem row6 : RowOk W6 (.tup [.int 3, .obj 6, .int (3 : Nat)]) (kdV none) := rightT tz6 tu6 p8_0
theorem row7 : RowOk W7 (.tup [.int 99, .obj 7, .int (1 : Nat)]) (kdV none) := rightT tz7 tu7 p8_0
theorem row8 : RowOk W8 (.tup [.int 4, .obj 8, .int (1 : Nat)]) (kdV none) := rightT tz8 tu8 p8_0
theorem row9 : RowOk W9 (.tup [.int 0, .obj 9, .int (3 : Nat)]) (kdV none) := rightT tz9 tu9 p8_0
theorem row10 : RowOk W10 (.tup [.int 99, .obj 10, .int (2 : Nat)]) (kdV none) := rightT tz10 tu10 p8_0
theorem row11 : RowOk W11 (.tup [.int 4, .obj 11, .int (4 : Nat)]) (kdV (some (.tup [(.tup [(.int (-1)), (.int (-2)), (.int (-17)), (.int (-1))]), (.tup [])]))) := rightT tz11 tu11 p8_1
theorem row12 : RowOk W12 (.tup [.int 4, .obj 12, .int (1 : Nat)]) (kdV (some (.tup [(.tup []), (.tup [(.int (-2))])]))) := rightT tz12 tu12 p8_2
theorem row13 : RowOk W13 (.tup [.int 4, .obj 13, .int (1 : Nat)]) (kdV (some (.tup [(.tup [(.int (-1))]), (.tup [])]))) := rightT tz13 tu13 p8_3
theorem row14 : RowOk W14 (.tup [.int 4, .obj 14, .int (3 : Nat)]) (kdV (some (.tup [(.tup [(.int (-16)), (.int (-17))]), (.tup [(.int (-1)), (.int (-1))])]))) := rightT tz14 tu14 p8_4
theorem row15 : RowOk W15 (.tup [.int 0, .obj 15, .int (1 : Nat)]) (kdV none) := rightT tz15 tu15 p8_0
theorem row16 : RowOk ([] ++ 64 :: [40, 116, 121, 112, 101, 32, 52, 41, 32, 40, 112, 97, 114, 97, 109, 32, 105, 51, 50, 41]) (.str [117, 110, 107, 110, 111, 119, 110, 32, 116, 121, 112, 101, 32, 52]) .none := wrongT tz16 tu16 p8_0
theorem row17 : RowOk ([] ++ 64 :: [40, 116, 121, 112, 101, 32, 48, 41, 32, 40, 112, 97, 114, 97, 109, 32, 105, 51, 50, 41]) (.str [105, 110, 108, 105, 110, 101, 32, 102, 117, 110, 99, 116, 105, 111, 110, 32, 116, 121, 112, 101]) .none := wrongT tz17 tu17 p8_0
theorem row18 : RowOk ([] ++ 64 :: [40, 116, 121, 112, 101, 32, 57, 57, 41, 32, 40, 114, 101, 115, 117, 108, 116, 32, 105, 54, 52, 41]) (.str [117, 110, 107, 110, 111, 119, 110, 32, 116, 121, 112, 101, 32, 57, 57]) .none := wrongT tz18 tu18 p8_0
theorem row19 : RowOk ([] ++ 64 :: [40, 116, 121, 112, 101, 32, 49, 41, 32, 40, 112, 97, 114, 97, 109, 32, 105, 51, 50, 41]) (.str [105, 110, 108, 105, 110, 101, 32, 102, 117, 110, 99, 116, 105, 111, 110, 32, 116, 121, 112, 101]) .none := wrongT tz19 tu19 p8_0
theorem row20 : RowOk ([] ++ 64 :: [40, 116, 121, 112, 101, 32, 36, 98, 41, 32, 40, 114, 101, 115, 117, 108, 116, 32, 105, 54, 52, 41]) (.str [105, 110, 108, 105, 110, 101, 32, 102, 117, 110, 99, 116, 105, 111, 110, 32, 116, 121, 112, 101]) .none := wrongT tz20 tu20 p8_0
theorem row21 : RowOk ([] ++ 64 :: [40, 116, 121, 112, 101, 32, 49, 41, 32, 40, 112, 97, 114, 97, 109, 32, 105, 54, 52, 41, 32, 40, 114, 101, 115, 117, 108, 116, 32, 105, 54, 52, 41]) (.str [105, 110, 108, 105, 110, 101, 32, 102, 117, 110, 99, 116, 105, 111, 110, 32, 116, 121, 112, 101]) .none := wrongT tz21 tu21 p8_0
theorem row22 : RowOk ([40, 116, 121, 112, 101, 32] ++ 64 :: [36, 110, 111, 110, 101, 41]) (.str [117, 110, 107, 110, 111, 119, 110, 32, 116, 121, 112, 101, 32, 36, 110, 111, 110, 101]) .none := wrongT tz22 tu22 p8_0
theorem row23 : RowOk ([40, 116, 121, 112, 101, 32] ++ 64 :: [120, 41]) (.str [117, 110, 101, 120, 112, 101, 99, 116, 101, 100, 32, 116, 111, 107, 101, 110]) .none := wrongT tz23 tu23 p8_0
theorem row24 : RowOk ([40, 116, 121, 112, 101, 32, 48, 32] ++ 64 :: [48, 41]) (.str [117, 110, 101, 120, 112, 101, 99, 116, 101, 100, 32, 116, 111, 107, 101, 110]) .none := wrongT tz24 tu24 p8_0
theorem row25 : RowOk ([] ++ 64 :: [40, 116, 121, 112, 101, 41]) (.str [117, 110, 101, 120, 112, 101, 99, 116, 101, 100, 32, 116, 111, 107, 101, 110]) .none := wrongT tz25 tu25 p8_0
theorem row26 : RowOk ([40, 116, 121, 112, 101, 32] ++ 64 :: [40, 48, 41, 41]) (.str [117, 110, 101, 120, 112, 101, 99, 116, 101, 100, 32, 116, 111, 107, 101, 110]) .none := wrongT tz26 tu26 p8_0
theorem row27 : RowOk ([40, 116, 121, 112, 101, 32] ++ 64 :: [43, 49, 41]) (.str [117, 110, 101, 120, 112, 101, 99, 116, 101, 100, 32, 116, 111, 107, 101, 110]) .none := wrongT tz27 tu27 p8_0
theorem row28 : RowOk ([40, 116, 121, 112, 101, 32] ++ 64 :: [52, 50, 57, 52, 57, 54, 55, 50, 57, 54, 41]) (.str [105, 51, 50, 32, 99, 111, 110, 115, 116, 97, 110, 116, 32, 111, 117, 116, 32, 111, 102, 32, 114, 97, 110, 103, 101]) .none := wrongT tz28 tu28 p8_0
theorem row29 : RowOk ([40, 112, 97, 114, 97, 109, 32, 36, 120, 32, 105, 51, 50, 41, 32, 40, 112, 97, 114, 97, 109, 32] ++ 64 :: [36, 120, 32, 105, 51, 50, 41]) (.str [100, 117, 112, 108, 105, 99, 97, 116, 101, 32, 108, 111, 99, 97, 108, 32, 36, 120]) .none := wrongT tz29 tu29 p8_0
theorem row30 : RowOk ([40, 112, 97, 114, 97, 109, 32, 36, 120, 32] ++ 64 :: [120, 41]) (.str [117, 110, 101, 120, 112, 101, 99, 116, 101, 100, 32, 116, 111, 107, 101, 110]) .none := wrongT tz30 tu30 p8_0
theorem row31 : RowOk ([] ++ 64 :: [40, 112, 97, 114, 97, 109, 32, 36, 120, 41]) (.str [117, 110, 101, 120, 112, 101, 99, 116, 101, 100, 32, 116, 111, 107, 101, 110]) .none := wrongT tz31 tu31 p8_0
theorem row32 : RowOk ([40, 112, 97, 114, 97, 109, 32, 36, 120, 32, 105, 51, 50, 32] ++ 64 :: [105, 51, 50, 41]) (.str [117, 110, 101, 120, 112, 101, 99, 116, 101, 100, 32, 116, 111, 107, 101, 110]) .none := wrongT tz32 tu32 p8_0
theorem row33 : RowOk ([40, 112, 97, 114, 97, 109, 32, 105, 51, 50, 32] ++ 64 :: [36, 120, 41]) (.str [117, 110, 101, 120, 112, 101, 99, 116, 101, 100, 32, 116, 111, 107, 101, 110]) .none := wrongT tz33 tu33 p8_0
theorem row34 : RowOk ([40, 114, 101, 115, 117, 108, 116, 32] ++ 64 :: [36, 120, 32, 105, 51, 50, 41]) (.str [117, 110, 101, 120, 112, 101, 99, 116, 101, 100, 32, 116, 111, 107, 101, 110]) .none := wrongT tz34 tu34 p8_0
theorem row35 : RowOk ([40, 114, 101, 115, 117, 108, 116, 32, 105, 51, 50, 32] ++ 64 :: [53, 41]) (.str [117, 110, 101, 120, 112, 101, 99, 116, 101, 100, 32, 116, 111, 107, 101, 110]) .none := wrongT tz35 tu35 p8_0
theorem row36 : RowOk ([40, 112, 97, 114, 97, 109, 32] ++ 64 :: [40, 105, 51, 50, 41, 41]) (.str [117, 110, 101, 120, 112, 101, 99, 116, 101, 100, 32, 116, 111, 107, 101, 110]) .none := wrongT tz36 tu36 p8_0
theorem row37 : RowOk ([40, 116, 121, 112, 101, 32, 49, 41, 32, 40, 112, 97, 114, 97, 109, 32, 36, 120, 32, 105, 51, 50, 32] ++ 64 :: [105, 54, 52, 41]) (.str [117, 110, 101, 120, 112, 101, 99, 116, 101, 100, 32, 116, 111, 107, 101, 110]) .none := wrongT tz37 tu37 p8_0
theorem rowAt : ∀ j : Nat, j < 38 → ∃ w due kind, (∀ m, itemM (.obj 19) (.int (.ofNat j)) ⟨m, muA⟩ = some (.val (.tup [.str w, due, kind]), ⟨m, muA⟩)) ∧ RowOk w due kind
 | 0, _ => ⟨_, _, _, fun m => by kernel_rfl, row0⟩
 | 1, _ => ⟨_, _, _, fun m => by kernel_rfl, row1⟩
 | 2, _ => ⟨_, _, _, fun m => by kernel_rfl, row2⟩
 | 3, _ => ⟨_, _, _, fun m => by kernel_rfl, row3⟩
 | 4, _ => ⟨_, _, _, fun m => by kernel_rfl, row4⟩
 | 5, _ => ⟨_, _, _, fun m => by kernel_rfl, row5⟩
 | 6, _ => ⟨_, _, _, fun m => by kernel_rfl, row6⟩
 | 7, _ => ⟨_, _, _, fun m => by kernel_rfl, row7⟩
 | 8, _ => ⟨_, _, _, fun m => by kernel_rfl, row8⟩
 | 9, _ => ⟨_, _, _, fun m => by kernel_rfl, row9⟩
 | 10, _ => ⟨_, _, _, fun m => by kernel_rfl, row10⟩
 | 11, _ => ⟨_, _, _, fun m => by kernel_rfl, row11⟩
 | 12, _ => ⟨_, _, _, fun m => by kernel_rfl, row12⟩
 | 13, _ => ⟨_, _, _, fun m => by kernel_rfl, row13⟩
 | 14, _ => ⟨_, _, _, fun m => by kernel_rfl, row14⟩
 | 15, _ => ⟨_, _, _, fun m => by kernel_rfl, row15⟩
 | 16, _ => ⟨_, _, _, fun m => by kernel_rfl, row16⟩
 | 17, _ => ⟨_, _, _, fun m => by kernel_rfl, row17⟩
 | 18, _ => ⟨_, _, _, fun m => by kernel_rfl, row18⟩
 | 19, _ => ⟨_, _, _, fun m => by kernel_rfl, row19⟩
 | 20, _ => ⟨_, _, _, fun m => by kernel_rfl, row20⟩
 | 21, _ => ⟨_, _, _, fun m => by kernel_rfl, row21⟩
 | 22, _ => ⟨_, _, _, fun m => by kernel_rfl, row22⟩
 | 23, _ => ⟨_, _, _, fun m => by kernel_rfl, row23⟩
 | 24, _ => ⟨_, _, _, fun m => by kernel_rfl, row24⟩
 | 25, _ => ⟨_, _, _, fun m => by kernel_rfl, row25⟩
 | 26, _ => ⟨_, _, _, fun m => by kernel_rfl, row26⟩
 | 27, _ => ⟨_, _, _, fun m => by kernel_rfl, row27⟩
 | 28, _ => ⟨_, _, _, fun m => by kernel_rfl, row28⟩
 | 29, _ => ⟨_, _, _, fun m => by kernel_rfl, row29⟩
 | 30, _ => ⟨_, _, _, fun m => by kernel_rfl, row30⟩
 | 31, _ => ⟨_, _, _, fun m => by kernel_rfl, row31⟩
 | 32, _ => ⟨_, _, _, fun m => by kernel_rfl, row32⟩
 | 33, _ => ⟨_, _, _, fun m => by kernel_rfl, row33⟩
 | 34, _ => ⟨_, _, _, fun m => by kernel_rfl, row34⟩
 | 35, _ => ⟨_, _, _, fun m => by kernel_rfl, row35⟩
 | 36, _ => ⟨_, _, _, fun m => by kernel_rfl, row36⟩
 | 37, _ => ⟨_, _, _, fun m => by kernel_rfl, row37⟩
 | _ + 38, h => absurd h (by omega)
theorem fmod_lt {d : Int} {n : Nat} (hn : 0 < n) : ∃ a : Nat, a < n ∧ d.fmod (n : Int) = (a : Int) := by
 have h1 : (0 : Int) < (n : Int) := by omega
 have h2 := Int.fmod_nonneg_of_pos d h1
 have h3 := Int.fmod_lt_of_pos d h1
 exact ⟨(d.fmod (n : Int)).toNat, by omega, by omega⟩
def Inv (ns : List Int) (f s : Int) (st : St) : Prop := ∃ o1 o5 o6 o7 o8 o9 o10 o11, st = ⟨[some (.scr ns), o1, some (.obj 19), some (.int f), some (.int s), o5, o6, o7, o8, o9, o10, o11], muA⟩
theorem turn_is {ns : List Int} {f s : Int} {k : Nat} (hk : Nat.ble (Builtin.Int.intBits (k : Int)) 64 = true) {st : St} (hI : Inv ns f s st) : ∃ st', turnC.val ⟨st.m.set 5 (some (.int (k : Int))), st.μ⟩ = some (.val .next, st') ∧ Inv ns f s st' := by
 refine ee81 hI fun o1 o5 o6 o7 o8 o9 o10 o11 qe8 => ?_; subst qe8
 refine ee12 (fmod_lt (d := f + s * (k : Int)) (n := 38) (by decide)) fun j hj ej => ?_
 refine ee12 (fmod_lt (d := dig ns (2 + k)) (n := 3) (by decide)) fun i hi ei => ?_
 refine ee12 (fmod_lt (d := (dig ns (2 + k)).fdiv 3) (n := 3) (by decide)) fun a ha ea => ?_
 refine ee12 (fmod_lt (d := (dig ns (2 + k)).fdiv 9) (n := 3) (by decide)) fun b hb eb => ?_
 refine ee12 (fmod_lt (d := (dig ns (2 + k)).fdiv 27) (n := 3) (by decide)) fun t ht et => ?_
 refine ee32 (rowAt j hj) fun w due kind h1 h2 => ?_
 refine ee32 (h2 ns f s k (dig ns (2 + k)) a b i t o10 o11 ha hb hi ht ea eb et) fun due' X μ' q1 q2 => ?_
 have e1 := l_p1 (o0 := some (.scr ns)) (o1 := o1) (o6 := o6) (o7 := o7) (o8 := o8) (o9 := o9) (o10 := o10) (o11 := o11) (μ := muA) hk ej h1
 have e2 := l_p2 (ns := ns) (o1 := some (.str w)) (o2 := some (.obj 19)) (o3 := some (.int f)) (o4 := some (.int s)) (o6 := some due) (o7 := some kind) (o8 := o8) (o9 := o9) (o10 := o10) (o11 := o11) (μ := muA) (k := k) ei
 have e := ((seq_is (k := seqM lawP2.val restC) e1).trans (seq_is (k := restC) e2)).trans q2
 have e' := cut_is2 (μ2 := muA) e (by rw [mu_len]; exact q1) mu_clos
 rw [← turnC_is] at e'
 refine ⟨_, e', ?_⟩
 rw [mu_len]
 exact ⟨_, _, _, _, _, _, _, _, rfl⟩
theorem loop_is {ns : List Int} {f s : Int} : ∀ (ks : List Nat), (∀ k ∈ ks, Nat.ble (Builtin.Int.intBits (k : Int)) 64 = true) → ∀ st, Inv ns f s st → ∃ st', forM 5 turnC.val (ks.map fun k : Nat => .int (k : Int)) st = some (.val .next, st') ∧ Inv ns f s st'
 | [], _, st, h => ⟨st, rfl, h⟩
 | k :: ks, hk, st, h => by
  refine ee12 (turn_is (hk k (.head _)) h) fun st1 e1 h1 => ?_
  refine ee12 (loop_is ks (fun k' hk' => hk k' (.tail _ hk')) st1 h1) fun st2 e2 h2 => ?_
  refine ⟨st2, ?_, h2⟩
  rw [List.map_cons]
  unfold forM
  rw [e1]
  exact e2
theorem iota_is : iotaM 0 9 = [0, 1, 2, 3, 4, 5, 6, 7, 8].map fun k : Nat => .int (k : Int) := by kernel_rfl
theorem lawPA_is (ns : List Int) : lawPA.val ⟨[some (.scr ns), none, none, none, none, none, none, none, none, none, none, none], []⟩ = some (.val .next, ⟨[some (.scr ns), none, some (.obj 19), none, none, none, none, none, none, none, none, none], muA⟩) := by kernel_rfl
theorem bits9 : ∀ a : Nat, a < 9 → Nat.ble (Builtin.Int.intBits (a : Int)) 64 = true := by decide +kernel
theorem lawPB_is (ns : List Int) {o1 o2 o3 o4 o5 o6 o7 o8 o9 o10 o11 : Option MV} (μ : List MO) : ∃ f s, lawPB.val ⟨[some (.scr ns), o1, o2, o3, o4, o5, o6, o7, o8, o9, o10, o11], μ⟩ = some (.val .next, ⟨[some (.scr ns), o1, o2, some (.int f), some (.int s), o5, o6, o7, o8, o9, o10, o11], μ⟩) := by
 refine ee12 (fmod_lt (d := dig ns 1) (n := 9) (by decide)) fun a ha ea => ?_
 have d0 : R526.val [.scr ns, .int 0] μ = some (.val (.int (dig ns 0)), μ) := l_dig ns 0 μ
 have d1 : R526.val [.scr ns, .int 1] μ = some (.val (.int (dig ns 1)), μ) := l_dig ns 1 μ
 have m9 : modM (.int (dig ns 1)) (.int 9) = MM.pure (.int (a : Int)) := by rw [l_mod9]; exact congrArg (fun x => MM.pure (MV.int x)) ea
 refine ⟨dig ns 0, 1 + 2 * (a : Int), ?_⟩
 have lm : mulM (.int 2) (.int (a : Int)) = MM.pure (.int (2 * (a : Int))) := l_mul (bits9 a ha)
 simp only [lawPB, MM.bind, MM.pure, getM, List.getElem?_cons_succ, List.getElem?_cons_zero, callM, d0, d1, m9, lm, addM]
 rfl
theorem lawC_is : lawC.val = seqM lawPA.val (seqM lawPB.val (seqM (rangeK (MM.pure (.int 9)) (forM 5 turnC.val)) (seqM ((MM.pure (.bool true)).bind fun v => MM.pure (.ret v)) (MM.pure .next)))) := by kernel_rfl
theorem range_is (f : List MV → MM MF) : rangeK (MM.pure (.int 9)) f = f (iotaM 0 9) := by kernel_rfl
theorem end_is (st : St) : seqM ((MM.pure (.bool true)).bind fun v => MM.pure (.ret v)) (MM.pure .next) st = some (.val (.ret (.bool true)), st) := by kernel_rfl
theorem law_is (ns : List Int) : ∃ st', lawC.val ⟨[some (.scr ns), none, none, none, none, none, none, none, none, none, none, none], []⟩ = some (.val (.ret (.bool true)), st') := by
 refine ee21 (lawPB_is ns (o1 := none) (o2 := some (.obj 19)) (o3 := none) (o4 := none) (o5 := none) (o6 := none) (o7 := none) (o8 := none) (o9 := none) (o10 := none) (o11 := none) muA) fun f s e2 => ?_
 have hb : ∀ k ∈ ([0, 1, 2, 3, 4, 5, 6, 7, 8] : List Nat), Nat.ble (Builtin.Int.intBits (k : Int)) 64 = true := fun k hk => bits9 k (by simp at hk; omega)
 refine ee12 (loop_is (ns := ns) (f := f) (s := s) [0, 1, 2, 3, 4, 5, 6, 7, 8] hb _ ⟨none, none, none, none, none, none, none, none, rfl⟩) fun st' e3 h3 => ?_
 refine ⟨st', ?_⟩
 rw [← iota_is] at e3
 rw [lawC_is, seq_is (lawPA_is ns), seq_is e2, range_is, seq_is e3]
 exact end_is st'
theorem law_run {w : World} {mean : ExcName → Option Value} {mg mb : Str → Option Value} {h₀ h₁ : Heap} {a L adr : Addr} {vs : List Value} {ns : List Int} {cdv : Value} {gens : Array GenState} {drawn : Drawn} {toks : Nat} {os : OsState} {Q : Flow → Shared → Prop} {E : Value → Shared → Prop}
  (KX : (KO w.params).In h₀) (T : Top viewE LOOSE mean mg mb h₀) (K0 : Below callerA h₀ [] h₀) (hL : h₀.IsList a vs.toArray) (hI : IntsAre vs ns) (hn : ns.length ≤ 1048576)
  (F : Fr h₀ L h₁ (fun x => List.lookup x [(("script" : Str), Value.ref a)].reverse)) (N : News h₀ L h₁ [])
  (hE : PassesOwn (model pw_nm0149_01 w) (callerA.deeper (envOf "law" lawFS.sc L adr cdv)) (envOf "law" lawFS.sc L adr cdv) E)
  (hQ : ∀ h' tk' m' news, Fr h₀ L h' m' → News h₀ L h' news → Q (.ret (.bool true)) ⟨h', gens, drawn, tk', os⟩) :
  wpAny (model pw_nm0149_01 w) (callerA.deeper (envOf "law" lawFS.sc L adr cdv)) (execs (stmtsOf F378) (envOf "law" lawFS.sc L adr cdv)) Q E ⟨h₁, gens, drawn, toks, os⟩ := by
 obtain ⟨st', hlaw⟩ := law_is ns
 refine lawC.2.run ⟨w, mean, mg, mb, callerA, h₀, [], h₀, L, lawFS.sc, callerA.deeper (envOf "law" lawFS.sc L adr cdv), "law", adr, cdv, []⟩ ⟨[], [], [(a, ns)], []⟩ ⟨[some (.scr ns), none, none, none, none, none, none, none, none, none, none, none], []⟩ _ _ _ ⟨rfl, rfl, KX, T⟩ ⟨⟨rfl, fun _ _ => rfl, fun x q => absurd q (noCell (by decide) x), fun _ => hE⟩, ⟨K0, KX, T, rfl, rfl, rfl, (by decide +kernel : callerA.depth + 1 + 13 < recursionLimit), (by decide +kernel : callerA.units + 3 + 40 * 13 < cLine)⟩, ⟨_, [], ⟨F, fun p hp => (nomatch hp), List.nodup_nil, ?_, .nil, ?_⟩⟩, ⟨_, _, hlaw, ?_⟩⟩
 ·intro i x v hx hv
  match i with
  | 0 =>
   obtain rfl := Option.some.inj hx
   obtain rfl := Option.some.inj (Option.some.inj hv)
   exact ⟨.ref a, .inl ⟨rfl, rfl⟩, .scr (.head _)⟩
  | 1 => exact nsE (Option.some.inj hv)
  | 2 => exact nsE (Option.some.inj hv)
  | 3 => exact nsE (Option.some.inj hv)
  | 4 => exact nsE (Option.some.inj hv)
  | 5 => exact nsE (Option.some.inj hv)
  | 6 => exact nsE (Option.some.inj hv)
  | 7 => exact nsE (Option.some.inj hv)
  | 8 => exact nsE (Option.some.inj hv)
  | 9 => exact nsE (Option.some.inj hv)
  | 10 => exact nsE (Option.some.inj hv)
  | 11 => exact nsE (Option.some.inj hv)
  | _ + 12 => exact nsE hv
 ·intro a' xs h
  cases List.mem_singleton.mp h
  exact ⟨vs, hL, hI, hn⟩
 ·intro W' h' tk' m' cs' fl le R' ra
  cases ra with
  | ret hv =>
   apply hv.eBool
   exact hQ _ _ _ _ R'.F R'.N
set_option tactic.hygienic true
noncomputable def pw : Program := pw_nm0149_01
def stsE (i k : Nat) : List Stmt := (bE.drop i).take k
theorem pre_run (w : World) : (fun os : OsState => topGo treeTable pw_nm0149_01 w 11 annE 12 ⟨boot_heap w.params, ⟨[]⟩, boot_drawn, boot_toks, os⟩ (topStub pw_nm0149_01)) = fun os => some (Sa w os, Thread.mk (denote treeTable cE) cE (⟨0, 0, 0, 0⟩ : Pos) BF) := by
 rewrite [PySem.W.Fast.te15667345088766844465, PySem.W.Fast.te14364793385576792824, PySem.W.Fast.te11892475500146522536]; kernel_rfl
theorem block_run (w : World) : (fun os : OsState => segRun treeTable pw_nm0149_01 w 11 annE 1 1 (Sa w os) (blockOf bE E0 cE (⟨0, 0, 0, 0⟩ : Pos) BF)) = fun os => some (Flow.next, ((S0 w os).abs, (cE, (⟨0, 0, 0, 0⟩ : Pos)))) := by
 rewrite [PySem.W.Fast.te14374325043358763698, PySem.W.Fast.te14364793385576792824]; kernel_rfl
theorem run_0 (w : World) : (fun os : OsState => segRunT treeTable pw_nm0149_01 w 11 annE 1 267 (S0 w os) (piecesOf (stsE 0 3) E0 cE (⟨0, 0, 0, 0⟩ : Pos) BF)) = fun os => some (Flow.next, (S1 w os, (cE, (⟨5, 0, 9, 22⟩ : Pos)))) := by
 rewrite [PySem.W.Fast.te10110043849684766642, PySem.W.Fast.te14364793385576792824]; kernel_rfl
theorem run_1 (w : World) : (fun os : OsState => segRunT treeTable pw_nm0149_01 w 11 annE 1 249 (S1 w os) (piecesOf (stsE 3 1) E0 cE (⟨5, 0, 9, 22⟩ : Pos) BF)) = fun os => some (Flow.next, (S2 w os, (cE, (⟨10, 0, 15, 28⟩ : Pos)))) := by
 rewrite [PySem.W.Fast.te10110043849684766642, PySem.W.Fast.te14364793385576792824]; kernel_rfl
theorem run_2 (w : World) : (fun os : OsState => segRunT treeTable pw_nm0149_01 w 11 annE 1 247 (S2 w os) (piecesOf (stsE 4 1) E0 cE (⟨10, 0, 15, 28⟩ : Pos) BF)) = fun os => some (Flow.next, (S3 w os, (cE, (⟨16, 0, 20, 20⟩ : Pos)))) := by
 rewrite [PySem.W.Fast.te10110043849684766642, PySem.W.Fast.te14364793385576792824]; kernel_rfl
theorem run_3 (w : World) : (fun os : OsState => segRunT treeTable pw_nm0149_01 w 11 annE 1 351 (S3 w os) (piecesOf (stsE 5 11) E0 cE (⟨16, 0, 20, 20⟩ : Pos) BF)) = fun os => some (Flow.next, (S4 w os, (cE, (⟨46, 0, 46, 6⟩ : Pos)))) := by
 rewrite [PySem.W.Fast.te10110043849684766642, PySem.W.Fast.te14364793385576792824]; kernel_rfl
theorem run_4 (w : World) : (fun os : OsState => segRunT treeTable pw_nm0149_01 w 11 annE 1 331 (S4 w os) (piecesOf (stsE 16 2) E0 cE (⟨46, 0, 46, 6⟩ : Pos) BF)) = fun os => some (Flow.next, (S5 w os, (cE, (⟨48, 0, 55, 28⟩ : Pos)))) :=
 byRow2 "special-get-raises" (P := fun w => (fun os : OsState => segRunT treeTable pw_nm0149_01 w 11 annE 1 331 (S4 w os) (piecesOf (stsE 16 2) E0 cE (⟨46, 0, 46, 6⟩ : Pos) BF)) = fun os => some (Flow.next, (S5 w os, (cE, (⟨48, 0, 55, 28⟩ : Pos))))) (fun w => by rewrite [PySem.W.Fast.te10110043849684766642, PySem.W.Fast.te14364793385576792824]; kernel_rfl) (fun w => by rewrite [PySem.W.Fast.te10110043849684766642, PySem.W.Fast.te14364793385576792824]; kernel_rfl) w
theorem run_5 (w : World) : (fun os : OsState => segRunT treeTable pw_nm0149_01 w 11 annE 1 342 (S5 w os) (piecesOf (stsE 18 5) E0 cE (⟨48, 0, 55, 28⟩ : Pos) BF)) = fun os => some (Flow.next, (S6 w os, (cE, (⟨71, 0, 71, 14⟩ : Pos)))) := by
 rewrite [PySem.W.Fast.te10110043849684766642, PySem.W.Fast.te14364793385576792824]; kernel_rfl
theorem run_6 (w : World) : (fun os : OsState => segRunT treeTable pw_nm0149_01 w 11 annE 1 614 (S6 w os) (piecesOf (stsE 23 1) E0 cE (⟨71, 0, 71, 14⟩ : Pos) BF)) = fun os => some (Flow.next, (S7 w os, (cE, (⟨72, 0, 123, 23⟩ : Pos)))) := by
 rewrite [PySem.W.Fast.te10110043849684766642, PySem.W.Fast.te14364793385576792824]; kernel_rfl
theorem run_7 (w : World) : (fun os : OsState => segRunT treeTable pw_nm0149_01 w 11 annE 1 125 (S7 w os) (piecesOf (stsE 24 4) E0 cE (⟨72, 0, 123, 23⟩ : Pos) BF)) = fun os => some (Flow.next, (S8 w os, (cE, (⟨143, 0, 151, 29⟩ : Pos)))) := by
 rewrite [PySem.W.Fast.te10110043849684766642, PySem.W.Fast.te14364793385576792824]; kernel_rfl
theorem run_8 (w : World) : (fun os : OsState => segRunT treeTable pw_nm0149_01 w 11 annE 1 596 (S8 w os) (piecesOf (stsE 28 1) E0 cE (⟨143, 0, 151, 29⟩ : Pos) BF)) = fun os => some (Flow.next, (S9 w os, (cE, (⟨152, 0, 284, 25⟩ : Pos)))) := by
 rewrite [PySem.W.Fast.te10110043849684766642, PySem.W.Fast.te14364793385576792824]; kernel_rfl
theorem run_9 (w : World) : (fun os : OsState => segRunT treeTable pw_nm0149_01 w 11 annE 1 393 (S9 w os) (piecesOf (stsE 29 14) E0 cE (⟨152, 0, 284, 25⟩ : Pos) BF)) = fun os => some (Flow.next, (S10 w os, (cE, (⟨324, 0, 327, 45⟩ : Pos)))) :=
 byRow2 "special-get-raises" (P := fun w => (fun os : OsState => segRunT treeTable pw_nm0149_01 w 11 annE 1 393 (S9 w os) (piecesOf (stsE 29 14) E0 cE (⟨152, 0, 284, 25⟩ : Pos) BF)) = fun os => some (Flow.next, (S10 w os, (cE, (⟨324, 0, 327, 45⟩ : Pos))))) (fun w => by rewrite [PySem.W.Fast.te10110043849684766642, PySem.W.Fast.te14364793385576792824]; kernel_rfl) (fun w => by rewrite [PySem.W.Fast.te10110043849684766642, PySem.W.Fast.te14364793385576792824]; kernel_rfl) w
theorem run_10 (w : World) : (fun os : OsState => segRunT treeTable pw_nm0149_01 w 11 annE 1 224 (S10 w os) (piecesOf (stsE 43 6) E0 cE (⟨324, 0, 327, 45⟩ : Pos) BF)) = fun os => some (Flow.next, (S11 w os, (cE, (⟨352, 0, 358, 42⟩ : Pos)))) :=
 byRow2 "special-get-raises" (P := fun w => (fun os : OsState => segRunT treeTable pw_nm0149_01 w 11 annE 1 224 (S10 w os) (piecesOf (stsE 43 6) E0 cE (⟨324, 0, 327, 45⟩ : Pos) BF)) = fun os => some (Flow.next, (S11 w os, (cE, (⟨352, 0, 358, 42⟩ : Pos))))) (fun w => by rewrite [PySem.W.Fast.te10110043849684766642, PySem.W.Fast.te14364793385576792824]; kernel_rfl) (fun w => by rewrite [PySem.W.Fast.te10110043849684766642, PySem.W.Fast.te14364793385576792824]; kernel_rfl) w
theorem run_11 (w : World) : (fun os : OsState => segRunT treeTable pw_nm0149_01 w 11 annE 1 398 (S11 w os) (piecesOf (stsE 49 1) E0 cE (⟨352, 0, 358, 42⟩ : Pos) BF)) = fun os => some (Flow.next, (S12 w os, (cE, (⟨359, 0, 412, 76⟩ : Pos)))) := by
 rewrite [PySem.W.Fast.te10110043849684766642, PySem.W.Fast.te14364793385576792824]; kernel_rfl
theorem run_12 (w : World) : (fun os : OsState => segRunT treeTable pw_nm0149_01 w 11 annE 1 270 (S12 w os) (piecesOf (stsE 50 10) E0 cE (⟨359, 0, 412, 76⟩ : Pos) BF)) = fun os => some (Flow.next, (S13 w os, (cE, (⟨443, 0, 460, 15⟩ : Pos)))) := by
 rewrite [PySem.W.Fast.te10110043849684766642, PySem.W.Fast.te14364793385576792824]; kernel_rfl
theorem fin_run (w : World) : (fun os : OsState => topRun treeTable pw_nm0149_01 w 11 annE 2 ((S13 w os).abs) (Thread.mk (doneF Flow.next) cE (⟨443, 0, 460, 15⟩ : Pos) BF)) = fun os => some (Sg w os) := by
 rewrite [PySem.W.Fast.te14082659384304107361, PySem.W.Fast.te14364793385576792824]; kernel_rfl
theorem body_is : bE = (stsE 0 3 ++ (stsE 3 1 ++ (stsE 4 1 ++ (stsE 5 11 ++ (stsE 16 2 ++ (stsE 18 5 ++ (stsE 23 1 ++ (stsE 24 4 ++ (stsE 28 1 ++ (stsE 29 14 ++ (stsE 43 6 ++ (stsE 49 1 ++ (stsE 50 10 ++ []))))))))))))) := by kernel_rfl
theorem body_len : bE.length = 60 := by kernel_rfl
theorem whole_run (w : World) (os : OsState) : topRun treeTable pw_nm0149_01 w 11 annE (12 + (1 + (267 + (249 + (247 + (351 + (331 + (342 + (614 + (125 + (596 + (393 + (224 + (398 + (270 + 2))))))))))))))) ⟨boot_heap w.params, ⟨[]⟩, boot_drawn, boot_toks, os⟩ (topStub pw_nm0149_01) = some (Sg w os) := by
 have h : topRun treeTable pw_nm0149_01 w 11 annE (267 + (249 + (247 + (351 + (331 + (342 + (614 + (125 + (596 + (393 + (224 + (398 + (270 + 2))))))))))))) ((S0 w os).abs) (restOf (stsE 0 3 ++ (stsE 3 1 ++ (stsE 4 1 ++ (stsE 5 11 ++ (stsE 16 2 ++ (stsE 18 5 ++ (stsE 23 1 ++ (stsE 24 4 ++ (stsE 28 1 ++ (stsE 29 14 ++ (stsE 43 6 ++ (stsE 49 1 ++ (stsE 50 10 ++ []))))))))))))) E0 cE (⟨0, 0, 0, 0⟩ : Pos) BF) = some (Sg w os) := (piece_app (segRun_of (congrFun (run_0 w) os)) (piece_app (segRun_of (congrFun (run_1 w) os)) (piece_app (segRun_of (congrFun (run_2 w) os)) (piece_app (segRun_of (congrFun (run_3 w) os)) (piece_app (segRun_of (congrFun (run_4 w) os)) (piece_app (segRun_of (congrFun (run_5 w) os)) (piece_app (segRun_of (congrFun (run_6 w) os)) (piece_app (segRun_of (congrFun (run_7 w) os)) (piece_app (segRun_of (congrFun (run_8 w) os)) (piece_app (segRun_of (congrFun (run_9 w) os)) (piece_app (segRun_of (congrFun (run_10 w) os)) (piece_app (segRun_of (congrFun (run_11 w) os)) (piece_app (segRun_of (congrFun (run_12 w) os)) (congrFun (fin_run w) os))))))))))))))
 rw [← body_is] at h
 exact go_top (congrFun (pre_run w) os) (piece_block (congrFun (block_run w) os) h)
noncomputable abbrev rowE : RowW := OpenRow.toRowW (OpenLaw.row rw_nm0149_01)
abbrev XtE : Shared → Bool := fun s => xlAt viewE LV s && recOk (RowW.records rowE) s
theorem keys_is (P : Params) : KA = (KO P).map (·.1) := by kernel_rfl
abbrev HK : Hook := kHook KO KA keys_is
theorem open_is : ∀ w : World, (fencedOpening treeTable pw_nm0149_01 w 8914).map (fun s => (s.heap, s.gens, s.drawn, s.toks)) = some (boot_heap w.params, Array.mk [], boot_drawn, boot_toks) :=
 boot_open (by kernel_rfl) (by kernel_rfl) (fun s => by kernel_rfl)
theorem size_is (w : World) : ((boot_heap w.params).isNs mainGlobals && (Array.mk [] : Array GenState).size == 0, (boot_heap w.params).objs.size, (boot_heap w.params).nsMap mainGlobals "__annotations__") = (true, 11, annE) := by kernel_rfl
theorem look_1 (w : World) : (fun os : OsState => ((staticsOk (importedModules pw_nm0149_01.main.body) (boot_heap w.params) (Hf w.params) && namesBound pw_nm0149_01 (Hf w.params) && gensDone (Sg w os) && laidKept (boot_heap w.params) (Hf w.params)))) = fun _ => true := by kernel_rfl
theorem look_2 (w : World) : (fun os : OsState => (openSeen viewE LL (importedModules pw_nm0149_01.main.body) XtE true (Sg w os))) = fun _ => (openGood viewE LL) := by kernel_rfl
theorem look_3 (w : World) : (fun os : OsState => (Hook.obs HK (Sg w os))) = fun _ => (Hook.val HK w) := by kernel_rfl
theorem left : LeftO pw_nm0149_01 viewE LL XtE (Hook.obs HK) (Hook.val HK) 8914 :=
 LeftO.of_pieces (H₀ := boot_heap) (H₁ := Hf) (gs₀ := ⟨[]⟩) (gs₁ := ⟨[]⟩) (m₀ := 11) (ann := annE) open_is size_is whole_run (by decide) (fun w => funext fun os => looks_pair (congrFun (look_1 w) os) (looks_pair (congrFun (look_2 w) os) (congrFun (look_3 w) os)))
theorem holds_all : PySem.Challenge.rw_nm0149_01.Holds := by
 refine holds_law (by kernel_rfl) fun said => ?_
 refine holds_open (q := viewE) (loose := LL) (Xt := XtE) (XP := XL viewE LV) (Yf := Hook.obs HK) (Ya := Hook.val HK) (YP := Hook.says HK) (N := 8914) left (Hook.of HK) (Hook.keeps HK) (fun s e => xl_of s (Bool.and_eq_true_iff.mp e).1) XL.keeps (by rfl) (by rfl) (by rfl) (fun s e => recFacts_of (Bool.and_eq_true_iff.mp e).2) (by rfl) (by first | assumption | decide +kernel) (by decide +kernel) ⟨rfl, rfl, rfl, rfl, rfl, by decide +kernel⟩ ?hw ?hc
 case hw => w_witness2
 case hc =>
  k_fill
  intro w s₀ s₁ mg mb G Y fa o pm cd doc dV kV ho hd hcd hD hmg hg args vals as hpre hlay hrd hwl hlo
  have KX := kIn_of Y
  have X := (Ground.X G).1
  have V := (Ground.X G).2
  refine Ground.open G ?_
  intro T B D TE TW
  try (refine guard_noD D (by decide +kernel) ?_; clear D)
  obtain ⟨_, _, M⟩ := bmod_of_top T
  have TA := at_of_top T
  try (obtain ⟨_, _, he, B0⟩ := based_of_top T rfl hmg ho hd; have he' : cd = _ := he; subst he'; clear he)
  clear hmg
  wrow_args hpre hlay hrd hwl hlo
  all_goals (
   first | refine callC_kw (enter_call ?_) | refine enter_call ?_ | refine callC_kw (enter_callW ?_) | refine enter_callW ?_ | w_how
   w_top on
   try refine codeAny_mono ?_ (fun _ _ g => GoodW.toG g)
   have K0 := below_caller (Top.heap T)
   w_call any ho hd hcd hD T F
   clear hd TA
   k_drop
   skip)
  refine' law_run ?KX ?T ?K0 ?hL ?hI ?hn ?F ?N ?hE ?hQ
  case KX => assumption
  case T => assumption
  case K0 => assumption
  case hL => assumption
  case hI => assumption
  case hn => (have := ‹¬ ((63 : Nat) : Int) < _›; omega)
  case F => assumption
  case N => assumption
  case hE => exact PassesOwn.leaving
  case hQ =>
   intro h' tk' m' news F' N'
   wrow_close
end
end Mine
theorem PySem.Challenge.cw_nm0149_01_holds : PySem.Challenge.rw_nm0149_01.Holds := by
 exact Mine.holds_all
