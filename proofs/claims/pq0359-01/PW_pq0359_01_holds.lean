import PyProof.Rows.All
import Wide.All
import OpenK.AllK
import Wide.FinOn
import Lean
import PySem.Challenge.RW_pq0359_01
open PySem PySem.W PySem.Calls PyProof.Rows
set_option Elab.async false
set_option maxRecDepth 100000
set_option linter.unusedVariables false
namespace Mine
abbrev PP : Program := (OpenRow.toRowW (OpenLaw.row PySem.Challenge.rw_pq0359_01)).1
abbrev pz : Pos := { line := 0, col := 0, endLine := 0, endCol := 0 }
abbrev pe : Pos := { line := 453, col := 0, endLine := 474, endCol := 15 }
abbrev an0 : Option Value := some (.ref 6)
noncomputable abbrev tb0 := Fast.tw14364793385576792824
def envL : Env := { scope := PP.main.scope, locals := mainNs, globals := mainNs, cells := [], code := .ref 13, frame := some 14 }
abbrev bE := behindTheImports PP
abbrev cE : Code := .body bE envL
noncomputable def S0 (w : World) (os : OsState) : Shared := ⟨boot_heap w.params, #[], boot_drawn, boot_toks, os⟩
noncomputable def pre0 (w : World) (os : OsState) := Fast.tw15667345088766844465 tb0 PP w 11 an0 12 (S0 w os) (topStub PP)
noncomputable def Sa (w : World) (os : OsState) : Shared := match pre0 w os with | some (s, _) => s | none => S0 w os
noncomputable def blk0 (w : World) (os : OsState) := Fast.tw14374325043358763698 tb0 PP w 11 an0 1 1 (Sa w os) (blockOf bE envL cE pz [topFrame pz])
theorem l_pre (w : World) (os : OsState) : pre0 w os = some (Sa w os, ⟨Fast.tw11892475500146522536 tb0 cE, cE, pz, [topFrame pz]⟩) := by kernel_rfl
theorem tb0_eq : tb0 = treeTable := Fast.te14364793385576792824.symm
theorem l_open (w : World) : (fencedOpening treeTable PP w 7004).map (fun s => (s.heap, s.gens, s.drawn, s.toks)) = some (boot_heap w.params, #[], boot_drawn, boot_toks) :=
  boot_open (by kernel_rfl) (by decide +kernel) (fun s => by kernel_rfl) w
theorem l_size (w : World) : ((boot_heap w.params).isNs mainGlobals && (#[] : Array GenState).size == 0, (boot_heap w.params).objs.size, (boot_heap w.params).nsMap mainGlobals "__annotations__") = (true, 11, an0) := by kernel_rfl

abbrev sv (x : String) (t : Nat) : Value := .str (Str.ofString x) t
abbrev en (P : Params) (x : String) (t : Nat) (v : Value) : DictEntry := ⟨PyData.keyHash P (Str.ofString x), .str (Str.ofString x) t, v⟩
noncomputable def stA (i : Nat) : Stmt := (PP.main.body[i]?).getD (.Pass pz)
noncomputable def inC (k : Nat) : Stmt → Stmt | .ClassDef _ _ _ b _ _ _ _ _ _ _ => (b[k]?).getD (.Pass pz) | s => s
noncomputable def prm : Stmt → Arguments | .FunctionDef _ a _ _ _ _ _ _ _ _ => a | _ => ⟨[], [], none, [], [], none, []⟩
noncomputable def bdy : Stmt → List Stmt | .FunctionDef _ _ b _ _ _ _ _ _ _ => b | _ => []
noncomputable def scp : Stmt → Scope | .FunctionDef _ _ _ _ _ _ c _ _ _ => c | _ => { kind := .function, names := [], isGenerator := false, isCoroutine := false }
abbrev sg (i j : Nat) : List Stmt := (bE.drop i).take (j - i)
abbrev stt (T : BT) (n k : Nat) (os : OsState) : SharedT := ⟨T, n, {}, #[], {}, k, os⟩
noncomputable def o11_0 (P : Params) : Obj := { cls := .type "tuple", data := .seq #[] 0 }
noncomputable def o12_0 (P : Params) : Obj := { cls := .none, data := .fields #[] }
noncomputable def o13_0 (P : Params) : Obj := { cls := .type "code", data := .fields #[sv "<module>" 182, sv "<module>" 183, sv "/claim/cut.py" 184, .int 1 0, .int 0 0, .int 0 0, .int 0 0, .int 0 0, .ref 11, .bool false, .int 181 0, .ref 12, .none, .none, .none, .none, .int 185 0, .int 1 0, sv "/claim/cut.py" 186] }
noncomputable def o14_0 (P : Params) : Obj := { cls := .type "frame", data := .plain, slots := #[.some (.ref 13), .some (.ref 3), .some (.ref 3), .none, .some (sv "__main__" 164), .none, .some (.ref 0)] }
noncomputable def o2_16 (P : Params) : Obj := { cls := .none, data := .dict #[en P "type.__subclasses__.Exception.0" 214 (.int 31 0), en P "type.__subclasses__.Exception.n" 215 (.int 1 0)] 2 }
noncomputable def o3_16 (P : Params) : Obj := { cls := .type "dict", data := .dict #[en P "__name__" 165 (sv "f77.ints" 250), en P "__doc__" 166 (.none), en P "__package__" 167 (.none), en P "__loader__" 168 (.builtin "__main__.__loader__#opaque"), en P "__spec__" 169 (.none), en P "__annotations__" 170 (.ref 6), en P "__builtins__" 171 (.ref 4), en P "__file__" 173 (sv "/claim/cut.py" 172), en P "__cached__" 174 (.none), en P "F77Error" 217 (.ref 31), en P "CheckFault" 233 (.ref 44), en P "RunFault" 249 (.ref 56), en P "fit_int" 260 (.ref 65), en P "int_add" 269 (.ref 72), en P "int_sub" 278 (.ref 79), en P "int_mul" 287 (.ref 86), en P "cut_quotient" 296 (.ref 93), en P "int_div" 305 (.ref 100), en P "inverse_power" 313 (.ref 107), en P "int_power" 324 (.ref 114), en P "order_of" 332 (.ref 121), en P "holds" 340 (.ref 128), en P "int_binary" 351 (.ref 135)] 23 }
noncomputable def o12_16 (P : Params) : Obj := { cls := .none, data := .fields #[.int 2 0, .int 0 0, .ref 20, .int 7 0, .int 0 0, .ref 40, .int 9 0, .int 0 0, .ref 52, .int 12 0, .int 0 0, .ref 64, .int 17 0, .int 0 0, .ref 71, .int 19 0, .int 0 0, .ref 78, .int 21 0, .int 0 0, .ref 85, .int 23 0, .int 0 0, .ref 92, .int 26 0, .int 0 0, .ref 99, .int 30 0, .int 0 0, .ref 106, .int 36 0, .int 0 0, .ref 113, .int 45 0, .int 0 0, .ref 120, .int 49 0, .int 0 0, .ref 127, .int 63 0, .int 0 0, .ref 134] }
noncomputable def o15_16 (P : Params) : Obj := { cls := .type "tuple", data := .seq #[.type "Exception"] 0 }
noncomputable def o16_16 (P : Params) : Obj := { cls := .type "builtin_function_or_method", data := .fields #[.builtin "type.__prepare__", .type "type"] }
noncomputable def o17_16 (P : Params) : Obj := { cls := .type "dict", data := .dict #[en P "__module__" 196 (sv "f77.errors" 187), en P "__qualname__" 198 (sv "F77Error" 197), en P "__firstlineno__" 200 (.int 2 199), en P "__init__" 208 (.ref 28), en P "__static_attributes__" 210 (.ref 29)] 5 }
noncomputable def o18_16 (P : Params) : Obj := { cls := .type "tuple", data := .seq #[] 0 }
noncomputable def o19_16 (P : Params) : Obj := { cls := .none, data := .fields #[.int 4 0, .int 4 0, .ref 27] }
noncomputable def o20_16 (P : Params) : Obj := { cls := .type "code", data := .fields #[sv "F77Error" 191, sv "F77Error" 192, sv "/claim/cut.py" 193, .int 2 0, .int 0 0, .int 0 0, .int 0 0, .int 0 0, .ref 18, .bool false, .int 181 0, .ref 19, .none, .none, .none, .none, .int 194 0, .int 2 0, sv "/claim/cut.py" 195] }
noncomputable def o21_16 (P : Params) : Obj := { cls := .type "frame", data := .plain, slots := #[.some (.ref 20), .some (.ref 3), .some (.ref 17), .none, .some (sv "f77.errors" 187), .none, .some (.ref 0)] }
noncomputable def o22_16 (P : Params) : Obj := { cls := .type "tuple", data := .seq #[] 0 }
noncomputable def o23_16 (P : Params) : Obj := { cls := .none, data := .fields #[] }
noncomputable def o24_16 (P : Params) : Obj := { cls := .type "tuple", data := .seq #[sv "self" 204, sv "text" 205] 0 }
noncomputable def o25_16 (P : Params) : Obj := { cls := .type "tuple", data := .seq #[] 0 }
noncomputable def o26_16 (P : Params) : Obj := { cls := .none, data := .func { name := Str.ofString "__init__", qualname := Str.ofString "F77Error.__init__", params := prm (inC 0 (stA 1)), body := .stmts (bdy (inC 0 (stA 1))), scope := scp (inC 0 (stA 1)), globals := 0, closure := [], defaults := .none, kwdefaults := .none, doc := .none, pyModule := .none, annotations := .none, code := .none, closureTuple := .none, builtins := 0 } }
noncomputable def o27_16 (P : Params) : Obj := { cls := .type "code", data := .fields #[sv "__init__" 201, sv "F77Error.__init__" 202, sv "/claim/cut.py" 203, .int 4 0, .int 2 0, .int 0 0, .int 0 0, .int 3 0, .ref 22, .bool true, .int 181 0, .ref 23, .none, .ref 24, .ref 25, .ref 26, .int 206 0, .int 4 0, sv "/claim/cut.py" 207] }
noncomputable def o28_16 (P : Params) : Obj := { cls := .type "function", data := .func { name := Str.ofString "__init__", qualname := Str.ofString "F77Error.__init__", params := prm (inC 0 (stA 1)), body := .stmts (bdy (inC 0 (stA 1))), scope := scp (inC 0 (stA 1)), globals := 3, closure := [], defaults := .none, kwdefaults := .none, doc := .none, pyModule := sv "f77.errors" 187, annotations := .none, code := .ref 27, closureTuple := .none, builtins := 0 } }
noncomputable def o29_16 (P : Params) : Obj := { cls := .type "tuple", data := .seq #[sv "text" 209] 0 }
noncomputable def o30_16 (P : Params) : Obj := { cls := .type "dict", data := .dict #[en P "__module__" 196 (sv "f77.errors" 187), en P "__firstlineno__" 200 (.int 2 199), en P "__init__" 208 (.ref 28), en P "__static_attributes__" 210 (.ref 29), en P "__weakref__" 212 (.ref 32), en P "__doc__" 213 (.none)] 3 }
noncomputable def o31_16 (P : Params) : Obj := { cls := .type "type", data := .cls { name := Str.ofString "F77Error", bases := [.type "Exception"], mro := [.ref 31, .type "Exception", .type "BaseException", .type "object"], ns := 30, qualname := Str.ofString "F77Error", hasDict := true, slotNames := [], subclasses := [.ref 44, .ref 56], abstract := false, collection := .none, hasDel := false }, slots := #[.some (.ref 15), .none, .some (sv "F77Error" 189), .some (sv "F77Error" 197), .some (.builtin "Exception.__new__"), .some (.bool true)] }
noncomputable def o32_16 (P : Params) : Obj := { cls := .type "getset_descriptor", data := .fields #[sv "__weakref__" 211, .ref 31, .builtin "ExceptionGroup.__weakref__", .none] }
noncomputable def o33_16 (P : Params) : Obj := { cls := .type "super", data := .fields #[.ref 31, .ref 31, .ref 31] }
noncomputable def o34_16 (P : Params) : Obj := { cls := .type "builtin_function_or_method", data := .fields #[.builtin "object.__init_subclass__", .ref 31] }
noncomputable def o35_16 (P : Params) : Obj := { cls := .type "tuple", data := .seq #[.ref 31] 0 }
noncomputable def o36_16 (P : Params) : Obj := { cls := .type "builtin_function_or_method", data := .fields #[.builtin "type.__prepare__", .type "type"] }
noncomputable def o37_16 (P : Params) : Obj := { cls := .type "dict", data := .dict #[en P "__module__" 225 (sv "f77.errors" 187), en P "__qualname__" 227 (sv "CheckFault" 226), en P "__firstlineno__" 229 (.int 7 228), en P "__static_attributes__" 230 (.ref 42)] 4 }
noncomputable def o38_16 (P : Params) : Obj := { cls := .type "tuple", data := .seq #[] 0 }
noncomputable def o39_16 (P : Params) : Obj := { cls := .none, data := .fields #[] }
noncomputable def o40_16 (P : Params) : Obj := { cls := .type "code", data := .fields #[sv "CheckFault" 220, sv "CheckFault" 221, sv "/claim/cut.py" 222, .int 7 0, .int 0 0, .int 0 0, .int 0 0, .int 0 0, .ref 38, .bool false, .int 181 0, .ref 39, .none, .none, .none, .none, .int 223 0, .int 7 0, sv "/claim/cut.py" 224] }
noncomputable def o41_16 (P : Params) : Obj := { cls := .type "frame", data := .plain, slots := #[.some (.ref 40), .some (.ref 3), .some (.ref 37), .none, .some (sv "f77.errors" 187), .none, .some (.ref 0)] }
noncomputable def o42_16 (P : Params) : Obj := { cls := .type "tuple", data := .seq #[] 0 }
noncomputable def o43_16 (P : Params) : Obj := { cls := .type "dict", data := .dict #[en P "__module__" 225 (sv "f77.errors" 187), en P "__firstlineno__" 229 (.int 7 228), en P "__static_attributes__" 230 (.ref 42), en P "__doc__" 231 (.none)] 2 }
noncomputable def o44_16 (P : Params) : Obj := { cls := .type "type", data := .cls { name := Str.ofString "CheckFault", bases := [.ref 31], mro := [.ref 44, .ref 31, .type "Exception", .type "BaseException", .type "object"], ns := 43, qualname := Str.ofString "CheckFault", hasDict := true, slotNames := [], subclasses := [], abstract := false, collection := .none, hasDel := false }, slots := #[.some (.ref 35), .none, .some (sv "CheckFault" 218), .some (sv "CheckFault" 226), .some (.builtin "Exception.__new__"), .some (.bool true)] }
noncomputable def o45_16 (P : Params) : Obj := { cls := .type "super", data := .fields #[.ref 44, .ref 44, .ref 44] }
noncomputable def o46_16 (P : Params) : Obj := { cls := .type "builtin_function_or_method", data := .fields #[.builtin "object.__init_subclass__", .ref 44] }
noncomputable def o47_16 (P : Params) : Obj := { cls := .type "tuple", data := .seq #[.ref 31] 0 }
noncomputable def o48_16 (P : Params) : Obj := { cls := .type "builtin_function_or_method", data := .fields #[.builtin "type.__prepare__", .type "type"] }
noncomputable def o49_16 (P : Params) : Obj := { cls := .type "dict", data := .dict #[en P "__module__" 241 (sv "f77.errors" 187), en P "__qualname__" 243 (sv "RunFault" 242), en P "__firstlineno__" 245 (.int 9 244), en P "__static_attributes__" 246 (.ref 54)] 4 }
noncomputable def o50_16 (P : Params) : Obj := { cls := .type "tuple", data := .seq #[] 0 }
noncomputable def o51_16 (P : Params) : Obj := { cls := .none, data := .fields #[] }
noncomputable def o52_16 (P : Params) : Obj := { cls := .type "code", data := .fields #[sv "RunFault" 236, sv "RunFault" 237, sv "/claim/cut.py" 238, .int 9 0, .int 0 0, .int 0 0, .int 0 0, .int 0 0, .ref 50, .bool false, .int 181 0, .ref 51, .none, .none, .none, .none, .int 239 0, .int 9 0, sv "/claim/cut.py" 240] }
noncomputable def o53_16 (P : Params) : Obj := { cls := .type "frame", data := .plain, slots := #[.some (.ref 52), .some (.ref 3), .some (.ref 49), .none, .some (sv "f77.errors" 187), .none, .some (.ref 0)] }
noncomputable def o54_16 (P : Params) : Obj := { cls := .type "tuple", data := .seq #[] 0 }
noncomputable def o55_16 (P : Params) : Obj := { cls := .type "dict", data := .dict #[en P "__module__" 241 (sv "f77.errors" 187), en P "__firstlineno__" 245 (.int 9 244), en P "__static_attributes__" 246 (.ref 54), en P "__doc__" 247 (.none)] 2 }
noncomputable def o56_16 (P : Params) : Obj := { cls := .type "type", data := .cls { name := Str.ofString "RunFault", bases := [.ref 31], mro := [.ref 56, .ref 31, .type "Exception", .type "BaseException", .type "object"], ns := 55, qualname := Str.ofString "RunFault", hasDict := true, slotNames := [], subclasses := [], abstract := false, collection := .none, hasDel := false }, slots := #[.some (.ref 47), .none, .some (sv "RunFault" 234), .some (sv "RunFault" 242), .some (.builtin "Exception.__new__"), .some (.bool true)] }
noncomputable def o57_16 (P : Params) : Obj := { cls := .type "super", data := .fields #[.ref 56, .ref 56, .ref 56] }
noncomputable def o58_16 (P : Params) : Obj := { cls := .type "builtin_function_or_method", data := .fields #[.builtin "object.__init_subclass__", .ref 56] }
noncomputable def o59_16 (P : Params) : Obj := { cls := .type "tuple", data := .seq #[] 0 }
noncomputable def o60_16 (P : Params) : Obj := { cls := .none, data := .fields #[] }
noncomputable def o61_16 (P : Params) : Obj := { cls := .type "tuple", data := .seq #[sv "n" 255, sv "width" 256, sv "most" 257] 0 }
noncomputable def o62_16 (P : Params) : Obj := { cls := .type "tuple", data := .seq #[] 0 }
noncomputable def o63_16 (P : Params) : Obj := { cls := .none, data := .func { name := Str.ofString "fit_int", qualname := Str.ofString "fit_int", params := prm (stA 5), body := .stmts (bdy (stA 5)), scope := scp (stA 5), globals := 0, closure := [], defaults := .none, kwdefaults := .none, doc := .none, pyModule := .none, annotations := .none, code := .none, closureTuple := .none, builtins := 0 } }
noncomputable def o64_16 (P : Params) : Obj := { cls := .type "code", data := .fields #[sv "fit_int" 252, sv "fit_int" 253, sv "/claim/cut.py" 254, .int 12 0, .int 2 0, .int 0 0, .int 0 0, .int 3 0, .ref 59, .bool true, .int 181 0, .ref 60, .none, .ref 61, .ref 62, .ref 63, .int 258 0, .int 12 0, sv "/claim/cut.py" 259] }
noncomputable def o65_16 (P : Params) : Obj := { cls := .type "function", data := .func { name := Str.ofString "fit_int", qualname := Str.ofString "fit_int", params := prm (stA 5), body := .stmts (bdy (stA 5)), scope := scp (stA 5), globals := 3, closure := [], defaults := .none, kwdefaults := .none, doc := .none, pyModule := sv "f77.ints" 250, annotations := .none, code := .ref 64, closureTuple := .none, builtins := 0 } }
noncomputable def o66_16 (P : Params) : Obj := { cls := .type "tuple", data := .seq #[] 0 }
noncomputable def o67_16 (P : Params) : Obj := { cls := .none, data := .fields #[] }
noncomputable def o68_16 (P : Params) : Obj := { cls := .type "tuple", data := .seq #[sv "x" 264, sv "y" 265, sv "width" 266] 0 }
noncomputable def o69_16 (P : Params) : Obj := { cls := .type "tuple", data := .seq #[] 0 }
noncomputable def o70_16 (P : Params) : Obj := { cls := .none, data := .func { name := Str.ofString "int_add", qualname := Str.ofString "int_add", params := prm (stA 6), body := .stmts (bdy (stA 6)), scope := scp (stA 6), globals := 0, closure := [], defaults := .none, kwdefaults := .none, doc := .none, pyModule := .none, annotations := .none, code := .none, closureTuple := .none, builtins := 0 } }
noncomputable def o71_16 (P : Params) : Obj := { cls := .type "code", data := .fields #[sv "int_add" 261, sv "int_add" 262, sv "/claim/cut.py" 263, .int 17 0, .int 3 0, .int 0 0, .int 0 0, .int 3 0, .ref 66, .bool true, .int 181 0, .ref 67, .none, .ref 68, .ref 69, .ref 70, .int 267 0, .int 17 0, sv "/claim/cut.py" 268] }
noncomputable def o72_16 (P : Params) : Obj := { cls := .type "function", data := .func { name := Str.ofString "int_add", qualname := Str.ofString "int_add", params := prm (stA 6), body := .stmts (bdy (stA 6)), scope := scp (stA 6), globals := 3, closure := [], defaults := .none, kwdefaults := .none, doc := .none, pyModule := sv "f77.ints" 250, annotations := .none, code := .ref 71, closureTuple := .none, builtins := 0 } }
noncomputable def o73_16 (P : Params) : Obj := { cls := .type "tuple", data := .seq #[] 0 }
noncomputable def o74_16 (P : Params) : Obj := { cls := .none, data := .fields #[] }
noncomputable def o75_16 (P : Params) : Obj := { cls := .type "tuple", data := .seq #[sv "x" 273, sv "y" 274, sv "width" 275] 0 }
noncomputable def o76_16 (P : Params) : Obj := { cls := .type "tuple", data := .seq #[] 0 }
noncomputable def o77_16 (P : Params) : Obj := { cls := .none, data := .func { name := Str.ofString "int_sub", qualname := Str.ofString "int_sub", params := prm (stA 7), body := .stmts (bdy (stA 7)), scope := scp (stA 7), globals := 0, closure := [], defaults := .none, kwdefaults := .none, doc := .none, pyModule := .none, annotations := .none, code := .none, closureTuple := .none, builtins := 0 } }
noncomputable def o78_16 (P : Params) : Obj := { cls := .type "code", data := .fields #[sv "int_sub" 270, sv "int_sub" 271, sv "/claim/cut.py" 272, .int 19 0, .int 3 0, .int 0 0, .int 0 0, .int 3 0, .ref 73, .bool true, .int 181 0, .ref 74, .none, .ref 75, .ref 76, .ref 77, .int 276 0, .int 19 0, sv "/claim/cut.py" 277] }
noncomputable def o79_16 (P : Params) : Obj := { cls := .type "function", data := .func { name := Str.ofString "int_sub", qualname := Str.ofString "int_sub", params := prm (stA 7), body := .stmts (bdy (stA 7)), scope := scp (stA 7), globals := 3, closure := [], defaults := .none, kwdefaults := .none, doc := .none, pyModule := sv "f77.ints" 250, annotations := .none, code := .ref 78, closureTuple := .none, builtins := 0 } }
noncomputable def o80_16 (P : Params) : Obj := { cls := .type "tuple", data := .seq #[] 0 }
noncomputable def o81_16 (P : Params) : Obj := { cls := .none, data := .fields #[] }
noncomputable def o82_16 (P : Params) : Obj := { cls := .type "tuple", data := .seq #[sv "x" 282, sv "y" 283, sv "width" 284] 0 }
noncomputable def o83_16 (P : Params) : Obj := { cls := .type "tuple", data := .seq #[] 0 }
noncomputable def o84_16 (P : Params) : Obj := { cls := .none, data := .func { name := Str.ofString "int_mul", qualname := Str.ofString "int_mul", params := prm (stA 8), body := .stmts (bdy (stA 8)), scope := scp (stA 8), globals := 0, closure := [], defaults := .none, kwdefaults := .none, doc := .none, pyModule := .none, annotations := .none, code := .none, closureTuple := .none, builtins := 0 } }
noncomputable def o85_16 (P : Params) : Obj := { cls := .type "code", data := .fields #[sv "int_mul" 279, sv "int_mul" 280, sv "/claim/cut.py" 281, .int 21 0, .int 3 0, .int 0 0, .int 0 0, .int 3 0, .ref 80, .bool true, .int 181 0, .ref 81, .none, .ref 82, .ref 83, .ref 84, .int 285 0, .int 21 0, sv "/claim/cut.py" 286] }
noncomputable def o86_16 (P : Params) : Obj := { cls := .type "function", data := .func { name := Str.ofString "int_mul", qualname := Str.ofString "int_mul", params := prm (stA 8), body := .stmts (bdy (stA 8)), scope := scp (stA 8), globals := 3, closure := [], defaults := .none, kwdefaults := .none, doc := .none, pyModule := sv "f77.ints" 250, annotations := .none, code := .ref 85, closureTuple := .none, builtins := 0 } }
noncomputable def o87_16 (P : Params) : Obj := { cls := .type "tuple", data := .seq #[] 0 }
noncomputable def o88_16 (P : Params) : Obj := { cls := .none, data := .fields #[] }
noncomputable def o89_16 (P : Params) : Obj := { cls := .type "tuple", data := .seq #[sv "x" 291, sv "y" 292, sv "found" 293] 0 }
noncomputable def o90_16 (P : Params) : Obj := { cls := .type "tuple", data := .seq #[] 0 }
noncomputable def o91_16 (P : Params) : Obj := { cls := .none, data := .func { name := Str.ofString "cut_quotient", qualname := Str.ofString "cut_quotient", params := prm (stA 9), body := .stmts (bdy (stA 9)), scope := scp (stA 9), globals := 0, closure := [], defaults := .none, kwdefaults := .none, doc := .none, pyModule := .none, annotations := .none, code := .none, closureTuple := .none, builtins := 0 } }
noncomputable def o92_16 (P : Params) : Obj := { cls := .type "code", data := .fields #[sv "cut_quotient" 288, sv "cut_quotient" 289, sv "/claim/cut.py" 290, .int 23 0, .int 2 0, .int 0 0, .int 0 0, .int 3 0, .ref 87, .bool true, .int 181 0, .ref 88, .none, .ref 89, .ref 90, .ref 91, .int 294 0, .int 23 0, sv "/claim/cut.py" 295] }
noncomputable def o93_16 (P : Params) : Obj := { cls := .type "function", data := .func { name := Str.ofString "cut_quotient", qualname := Str.ofString "cut_quotient", params := prm (stA 9), body := .stmts (bdy (stA 9)), scope := scp (stA 9), globals := 3, closure := [], defaults := .none, kwdefaults := .none, doc := .none, pyModule := sv "f77.ints" 250, annotations := .none, code := .ref 92, closureTuple := .none, builtins := 0 } }
noncomputable def o94_16 (P : Params) : Obj := { cls := .type "tuple", data := .seq #[] 0 }
noncomputable def o95_16 (P : Params) : Obj := { cls := .none, data := .fields #[] }
noncomputable def o96_16 (P : Params) : Obj := { cls := .type "tuple", data := .seq #[sv "x" 300, sv "y" 301, sv "width" 302] 0 }
noncomputable def o97_16 (P : Params) : Obj := { cls := .type "tuple", data := .seq #[] 0 }
noncomputable def o98_16 (P : Params) : Obj := { cls := .none, data := .func { name := Str.ofString "int_div", qualname := Str.ofString "int_div", params := prm (stA 10), body := .stmts (bdy (stA 10)), scope := scp (stA 10), globals := 0, closure := [], defaults := .none, kwdefaults := .none, doc := .none, pyModule := .none, annotations := .none, code := .none, closureTuple := .none, builtins := 0 } }
noncomputable def o99_16 (P : Params) : Obj := { cls := .type "code", data := .fields #[sv "int_div" 297, sv "int_div" 298, sv "/claim/cut.py" 299, .int 26 0, .int 3 0, .int 0 0, .int 0 0, .int 3 0, .ref 94, .bool true, .int 181 0, .ref 95, .none, .ref 96, .ref 97, .ref 98, .int 303 0, .int 26 0, sv "/claim/cut.py" 304] }
noncomputable def o100_16 (P : Params) : Obj := { cls := .type "function", data := .func { name := Str.ofString "int_div", qualname := Str.ofString "int_div", params := prm (stA 10), body := .stmts (bdy (stA 10)), scope := scp (stA 10), globals := 3, closure := [], defaults := .none, kwdefaults := .none, doc := .none, pyModule := sv "f77.ints" 250, annotations := .none, code := .ref 99, closureTuple := .none, builtins := 0 } }
noncomputable def o101_16 (P : Params) : Obj := { cls := .type "tuple", data := .seq #[] 0 }
noncomputable def o102_16 (P : Params) : Obj := { cls := .none, data := .fields #[] }
noncomputable def o103_16 (P : Params) : Obj := { cls := .type "tuple", data := .seq #[sv "x" 309, sv "n" 310] 0 }
noncomputable def o104_16 (P : Params) : Obj := { cls := .type "tuple", data := .seq #[] 0 }
noncomputable def o105_16 (P : Params) : Obj := { cls := .none, data := .func { name := Str.ofString "inverse_power", qualname := Str.ofString "inverse_power", params := prm (stA 11), body := .stmts (bdy (stA 11)), scope := scp (stA 11), globals := 0, closure := [], defaults := .none, kwdefaults := .none, doc := .none, pyModule := .none, annotations := .none, code := .none, closureTuple := .none, builtins := 0 } }
noncomputable def o106_16 (P : Params) : Obj := { cls := .type "code", data := .fields #[sv "inverse_power" 306, sv "inverse_power" 307, sv "/claim/cut.py" 308, .int 30 0, .int 2 0, .int 0 0, .int 0 0, .int 3 0, .ref 101, .bool true, .int 181 0, .ref 102, .none, .ref 103, .ref 104, .ref 105, .int 311 0, .int 30 0, sv "/claim/cut.py" 312] }
noncomputable def o107_16 (P : Params) : Obj := { cls := .type "function", data := .func { name := Str.ofString "inverse_power", qualname := Str.ofString "inverse_power", params := prm (stA 11), body := .stmts (bdy (stA 11)), scope := scp (stA 11), globals := 3, closure := [], defaults := .none, kwdefaults := .none, doc := .none, pyModule := sv "f77.ints" 250, annotations := .none, code := .ref 106, closureTuple := .none, builtins := 0 } }
noncomputable def o108_16 (P : Params) : Obj := { cls := .type "tuple", data := .seq #[] 0 }
noncomputable def o109_16 (P : Params) : Obj := { cls := .none, data := .fields #[] }
noncomputable def o110_16 (P : Params) : Obj := { cls := .type "tuple", data := .seq #[sv "x" 317, sv "n" 318, sv "width" 319, sv "found" 320, sv "turn" 321] 0 }
noncomputable def o111_16 (P : Params) : Obj := { cls := .type "tuple", data := .seq #[] 0 }
noncomputable def o112_16 (P : Params) : Obj := { cls := .none, data := .func { name := Str.ofString "int_power", qualname := Str.ofString "int_power", params := prm (stA 12), body := .stmts (bdy (stA 12)), scope := scp (stA 12), globals := 0, closure := [], defaults := .none, kwdefaults := .none, doc := .none, pyModule := .none, annotations := .none, code := .none, closureTuple := .none, builtins := 0 } }
noncomputable def o113_16 (P : Params) : Obj := { cls := .type "code", data := .fields #[sv "int_power" 314, sv "int_power" 315, sv "/claim/cut.py" 316, .int 36 0, .int 3 0, .int 0 0, .int 0 0, .int 3 0, .ref 108, .bool true, .int 181 0, .ref 109, .none, .ref 110, .ref 111, .ref 112, .int 322 0, .int 36 0, sv "/claim/cut.py" 323] }
noncomputable def o114_16 (P : Params) : Obj := { cls := .type "function", data := .func { name := Str.ofString "int_power", qualname := Str.ofString "int_power", params := prm (stA 12), body := .stmts (bdy (stA 12)), scope := scp (stA 12), globals := 3, closure := [], defaults := .none, kwdefaults := .none, doc := .none, pyModule := sv "f77.ints" 250, annotations := .none, code := .ref 113, closureTuple := .none, builtins := 0 } }
noncomputable def o115_16 (P : Params) : Obj := { cls := .type "tuple", data := .seq #[] 0 }
noncomputable def o116_16 (P : Params) : Obj := { cls := .none, data := .fields #[] }
noncomputable def o117_16 (P : Params) : Obj := { cls := .type "tuple", data := .seq #[sv "x" 328, sv "y" 329] 0 }
noncomputable def o118_16 (P : Params) : Obj := { cls := .type "tuple", data := .seq #[] 0 }
noncomputable def o119_16 (P : Params) : Obj := { cls := .none, data := .func { name := Str.ofString "order_of", qualname := Str.ofString "order_of", params := prm (stA 13), body := .stmts (bdy (stA 13)), scope := scp (stA 13), globals := 0, closure := [], defaults := .none, kwdefaults := .none, doc := .none, pyModule := .none, annotations := .none, code := .none, closureTuple := .none, builtins := 0 } }
noncomputable def o120_16 (P : Params) : Obj := { cls := .type "code", data := .fields #[sv "order_of" 325, sv "order_of" 326, sv "/claim/cut.py" 327, .int 45 0, .int 2 0, .int 0 0, .int 0 0, .int 3 0, .ref 115, .bool true, .int 181 0, .ref 116, .none, .ref 117, .ref 118, .ref 119, .int 330 0, .int 45 0, sv "/claim/cut.py" 331] }
noncomputable def o121_16 (P : Params) : Obj := { cls := .type "function", data := .func { name := Str.ofString "order_of", qualname := Str.ofString "order_of", params := prm (stA 13), body := .stmts (bdy (stA 13)), scope := scp (stA 13), globals := 3, closure := [], defaults := .none, kwdefaults := .none, doc := .none, pyModule := sv "f77.ints" 250, annotations := .none, code := .ref 120, closureTuple := .none, builtins := 0 } }
noncomputable def o122_16 (P : Params) : Obj := { cls := .type "tuple", data := .seq #[] 0 }
noncomputable def o123_16 (P : Params) : Obj := { cls := .none, data := .fields #[] }
noncomputable def o124_16 (P : Params) : Obj := { cls := .type "tuple", data := .seq #[sv "op" 336, sv "order" 337] 0 }
noncomputable def o125_16 (P : Params) : Obj := { cls := .type "tuple", data := .seq #[] 0 }
noncomputable def o126_16 (P : Params) : Obj := { cls := .none, data := .func { name := Str.ofString "holds", qualname := Str.ofString "holds", params := prm (stA 14), body := .stmts (bdy (stA 14)), scope := scp (stA 14), globals := 0, closure := [], defaults := .none, kwdefaults := .none, doc := .none, pyModule := .none, annotations := .none, code := .none, closureTuple := .none, builtins := 0 } }
noncomputable def o127_16 (P : Params) : Obj := { cls := .type "code", data := .fields #[sv "holds" 333, sv "holds" 334, sv "/claim/cut.py" 335, .int 49 0, .int 2 0, .int 0 0, .int 0 0, .int 3 0, .ref 122, .bool true, .int 181 0, .ref 123, .none, .ref 124, .ref 125, .ref 126, .int 338 0, .int 49 0, sv "/claim/cut.py" 339] }
noncomputable def o128_16 (P : Params) : Obj := { cls := .type "function", data := .func { name := Str.ofString "holds", qualname := Str.ofString "holds", params := prm (stA 14), body := .stmts (bdy (stA 14)), scope := scp (stA 14), globals := 3, closure := [], defaults := .none, kwdefaults := .none, doc := .none, pyModule := sv "f77.ints" 250, annotations := .none, code := .ref 127, closureTuple := .none, builtins := 0 } }
noncomputable def o129_16 (P : Params) : Obj := { cls := .type "tuple", data := .seq #[] 0 }
noncomputable def o130_16 (P : Params) : Obj := { cls := .none, data := .fields #[] }
noncomputable def o131_16 (P : Params) : Obj := { cls := .type "tuple", data := .seq #[sv "op" 344, sv "kind" 345, sv "x" 346, sv "y" 347, sv "limits" 348] 0 }
noncomputable def o132_16 (P : Params) : Obj := { cls := .type "tuple", data := .seq #[] 0 }
noncomputable def o133_16 (P : Params) : Obj := { cls := .none, data := .func { name := Str.ofString "int_binary", qualname := Str.ofString "int_binary", params := prm (stA 15), body := .stmts (bdy (stA 15)), scope := scp (stA 15), globals := 0, closure := [], defaults := .none, kwdefaults := .none, doc := .none, pyModule := .none, annotations := .none, code := .none, closureTuple := .none, builtins := 0 } }
noncomputable def o134_16 (P : Params) : Obj := { cls := .type "code", data := .fields #[sv "int_binary" 341, sv "int_binary" 342, sv "/claim/cut.py" 343, .int 63 0, .int 5 0, .int 0 0, .int 0 0, .int 3 0, .ref 129, .bool true, .int 181 0, .ref 130, .none, .ref 131, .ref 132, .ref 133, .int 349 0, .int 63 0, sv "/claim/cut.py" 350] }
noncomputable def o135_16 (P : Params) : Obj := { cls := .type "function", data := .func { name := Str.ofString "int_binary", qualname := Str.ofString "int_binary", params := prm (stA 15), body := .stmts (bdy (stA 15)), scope := scp (stA 15), globals := 3, closure := [], defaults := .none, kwdefaults := .none, doc := .none, pyModule := sv "f77.ints" 250, annotations := .none, code := .ref 134, closureTuple := .none, builtins := 0 } }
noncomputable def o3_44 (P : Params) : Obj := { cls := .type "dict", data := .dict #[en P "__name__" 165 (sv "f77.reals" 402), en P "__doc__" 166 (.none), en P "__package__" 167 (.none), en P "__loader__" 168 (.builtin "__main__.__loader__#opaque"), en P "__spec__" 169 (.none), en P "__annotations__" 170 (.ref 6), en P "__builtins__" 171 (.ref 4), en P "__file__" 173 (sv "/claim/cut.py" 172), en P "__cached__" 174 (.none), en P "F77Error" 217 (.ref 31), en P "CheckFault" 233 (.ref 44), en P "RunFault" 249 (.ref 56), en P "fit_int" 260 (.ref 65), en P "int_add" 269 (.ref 72), en P "int_sub" 278 (.ref 79), en P "int_mul" 287 (.ref 86), en P "cut_quotient" 296 (.ref 93), en P "int_div" 305 (.ref 100), en P "inverse_power" 313 (.ref 107), en P "int_power" 324 (.ref 114), en P "order_of" 332 (.ref 121), en P "holds" 340 (.ref 128), en P "int_binary" 351 (.ref 135), en P "logic_binary" 362 (.ref 142), en P "INTEGER" 366 (.int 0 365), en P "REAL" 368 (.int 1 367), en P "DOUBLE" 370 (.int 2 369), en P "COMPLEX" 372 (.int 3 371), en P "LOGICAL" 374 (.int 4 373), en P "CHARACTER" 376 (.int 5 375), en P "is_numeric" 383 (.ref 149), en P "higher_kind" 391 (.ref 156), en P "pad" 401 (.ref 163), en P "NOUGHT" 406 (.ref 164), en P "GUARD" 408 (.int 8 407), en P "EXACT_POWER" 410 (.int 64 409), en P "count_digits" 418 (.ref 171), en P "strip_zeros" 426 (.ref 178), en P "round_digits" 439 (.ref 185), en P "round_real" 450 (.ref 192), en P "exact_add" 459 (.ref 199), en P "exact_mul" 467 (.ref 206), en P "real_neg" 474 (.ref 213), en P "quotient" 488 (.ref 220), en P "real_add" 500 (.ref 227), en P "real_sub" 512 (.ref 234), en P "real_mul" 524 (.ref 241), en P "real_div" 536 (.ref 248)] 48 }
noncomputable def o12_44 (P : Params) : Obj := { cls := .none, data := .fields #[.int 2 0, .int 0 0, .ref 20, .int 7 0, .int 0 0, .ref 40, .int 9 0, .int 0 0, .ref 52, .int 12 0, .int 0 0, .ref 64, .int 17 0, .int 0 0, .ref 71, .int 19 0, .int 0 0, .ref 78, .int 21 0, .int 0 0, .ref 85, .int 23 0, .int 0 0, .ref 92, .int 26 0, .int 0 0, .ref 99, .int 30 0, .int 0 0, .ref 106, .int 36 0, .int 0 0, .ref 113, .int 45 0, .int 0 0, .ref 120, .int 49 0, .int 0 0, .ref 127, .int 63 0, .int 0 0, .ref 134, .int 75 0, .int 0 0, .ref 141, .int 92 0, .int 0 0, .ref 148, .int 94 0, .int 0 0, .ref 155, .int 101 0, .int 0 0, .ref 162, .int 107 0, .int 0 0, .ref 170, .int 117 0, .int 0 0, .ref 177, .int 124 0, .int 0 0, .ref 184, .int 134 0, .int 0 0, .ref 191, .int 142 0, .int 0 0, .ref 198, .int 149 0, .int 0 0, .ref 205, .int 151 0, .int 0 0, .ref 212, .int 153 0, .int 0 0, .ref 219, .int 160 0, .int 0 0, .ref 226, .int 163 0, .int 0 0, .ref 233, .int 166 0, .int 0 0, .ref 240, .int 169 0, .int 0 0, .ref 247] }
noncomputable def o136_44 (P : Params) : Obj := { cls := .type "tuple", data := .seq #[] 0 }
noncomputable def o137_44 (P : Params) : Obj := { cls := .none, data := .fields #[] }
noncomputable def o138_44 (P : Params) : Obj := { cls := .type "tuple", data := .seq #[sv "op" 355, sv "kind" 356, sv "x" 357, sv "y" 358, sv "limits" 359] 0 }
noncomputable def o139_44 (P : Params) : Obj := { cls := .type "tuple", data := .seq #[] 0 }
noncomputable def o140_44 (P : Params) : Obj := { cls := .none, data := .func { name := Str.ofString "logic_binary", qualname := Str.ofString "logic_binary", params := prm (stA 16), body := .stmts (bdy (stA 16)), scope := scp (stA 16), globals := 0, closure := [], defaults := .none, kwdefaults := .none, doc := .none, pyModule := .none, annotations := .none, code := .none, closureTuple := .none, builtins := 0 } }
noncomputable def o141_44 (P : Params) : Obj := { cls := .type "code", data := .fields #[sv "logic_binary" 352, sv "logic_binary" 353, sv "/claim/cut.py" 354, .int 75 0, .int 5 0, .int 0 0, .int 0 0, .int 3 0, .ref 136, .bool true, .int 181 0, .ref 137, .none, .ref 138, .ref 139, .ref 140, .int 360 0, .int 75 0, sv "/claim/cut.py" 361] }
noncomputable def o142_44 (P : Params) : Obj := { cls := .type "function", data := .func { name := Str.ofString "logic_binary", qualname := Str.ofString "logic_binary", params := prm (stA 16), body := .stmts (bdy (stA 16)), scope := scp (stA 16), globals := 3, closure := [], defaults := .none, kwdefaults := .none, doc := .none, pyModule := sv "f77.ints" 250, annotations := .none, code := .ref 141, closureTuple := .none, builtins := 0 } }
noncomputable def o143_44 (P : Params) : Obj := { cls := .type "tuple", data := .seq #[] 0 }
noncomputable def o144_44 (P : Params) : Obj := { cls := .none, data := .fields #[] }
noncomputable def o145_44 (P : Params) : Obj := { cls := .type "tuple", data := .seq #[sv "kind" 380] 0 }
noncomputable def o146_44 (P : Params) : Obj := { cls := .type "tuple", data := .seq #[] 0 }
noncomputable def o147_44 (P : Params) : Obj := { cls := .none, data := .func { name := Str.ofString "is_numeric", qualname := Str.ofString "is_numeric", params := prm (stA 24), body := .stmts (bdy (stA 24)), scope := scp (stA 24), globals := 0, closure := [], defaults := .none, kwdefaults := .none, doc := .none, pyModule := .none, annotations := .none, code := .none, closureTuple := .none, builtins := 0 } }
noncomputable def o148_44 (P : Params) : Obj := { cls := .type "code", data := .fields #[sv "is_numeric" 377, sv "is_numeric" 378, sv "/claim/cut.py" 379, .int 92 0, .int 1 0, .int 0 0, .int 0 0, .int 3 0, .ref 143, .bool true, .int 181 0, .ref 144, .none, .ref 145, .ref 146, .ref 147, .int 381 0, .int 92 0, sv "/claim/cut.py" 382] }
noncomputable def o149_44 (P : Params) : Obj := { cls := .type "function", data := .func { name := Str.ofString "is_numeric", qualname := Str.ofString "is_numeric", params := prm (stA 24), body := .stmts (bdy (stA 24)), scope := scp (stA 24), globals := 3, closure := [], defaults := .none, kwdefaults := .none, doc := .none, pyModule := sv "f77.kinds" 363, annotations := .none, code := .ref 148, closureTuple := .none, builtins := 0 } }
noncomputable def o150_44 (P : Params) : Obj := { cls := .type "tuple", data := .seq #[] 0 }
noncomputable def o151_44 (P : Params) : Obj := { cls := .none, data := .fields #[] }
noncomputable def o152_44 (P : Params) : Obj := { cls := .type "tuple", data := .seq #[sv "a" 387, sv "b" 388] 0 }
noncomputable def o153_44 (P : Params) : Obj := { cls := .type "tuple", data := .seq #[] 0 }
noncomputable def o154_44 (P : Params) : Obj := { cls := .none, data := .func { name := Str.ofString "higher_kind", qualname := Str.ofString "higher_kind", params := prm (stA 25), body := .stmts (bdy (stA 25)), scope := scp (stA 25), globals := 0, closure := [], defaults := .none, kwdefaults := .none, doc := .none, pyModule := .none, annotations := .none, code := .none, closureTuple := .none, builtins := 0 } }
noncomputable def o155_44 (P : Params) : Obj := { cls := .type "code", data := .fields #[sv "higher_kind" 384, sv "higher_kind" 385, sv "/claim/cut.py" 386, .int 94 0, .int 2 0, .int 0 0, .int 0 0, .int 3 0, .ref 150, .bool true, .int 181 0, .ref 151, .none, .ref 152, .ref 153, .ref 154, .int 389 0, .int 94 0, sv "/claim/cut.py" 390] }
noncomputable def o156_44 (P : Params) : Obj := { cls := .type "function", data := .func { name := Str.ofString "higher_kind", qualname := Str.ofString "higher_kind", params := prm (stA 25), body := .stmts (bdy (stA 25)), scope := scp (stA 25), globals := 3, closure := [], defaults := .none, kwdefaults := .none, doc := .none, pyModule := sv "f77.kinds" 363, annotations := .none, code := .ref 155, closureTuple := .none, builtins := 0 } }
noncomputable def o157_44 (P : Params) : Obj := { cls := .type "tuple", data := .seq #[] 0 }
noncomputable def o158_44 (P : Params) : Obj := { cls := .none, data := .fields #[] }
noncomputable def o159_44 (P : Params) : Obj := { cls := .type "tuple", data := .seq #[sv "text" 397, sv "length" 398] 0 }
noncomputable def o160_44 (P : Params) : Obj := { cls := .type "tuple", data := .seq #[] 0 }
noncomputable def o161_44 (P : Params) : Obj := { cls := .none, data := .func { name := Str.ofString "pad", qualname := Str.ofString "pad", params := prm (stA 27), body := .stmts (bdy (stA 27)), scope := scp (stA 27), globals := 0, closure := [], defaults := .none, kwdefaults := .none, doc := .none, pyModule := .none, annotations := .none, code := .none, closureTuple := .none, builtins := 0 } }
noncomputable def o162_44 (P : Params) : Obj := { cls := .type "code", data := .fields #[sv "pad" 394, sv "pad" 395, sv "/claim/cut.py" 396, .int 101 0, .int 2 0, .int 0 0, .int 0 0, .int 3 0, .ref 157, .bool true, .int 181 0, .ref 158, .none, .ref 159, .ref 160, .ref 161, .int 399 0, .int 101 0, sv "/claim/cut.py" 400] }
noncomputable def o163_44 (P : Params) : Obj := { cls := .type "function", data := .func { name := Str.ofString "pad", qualname := Str.ofString "pad", params := prm (stA 27), body := .stmts (bdy (stA 27)), scope := scp (stA 27), globals := 3, closure := [], defaults := .none, kwdefaults := .none, doc := .none, pyModule := sv "f77.memory" 392, annotations := .none, code := .ref 162, closureTuple := .none, builtins := 0 } }
noncomputable def o164_44 (P : Params) : Obj := { cls := .type "tuple", data := .seq #[.int 0 404, .int 0 405] 0 }
noncomputable def o165_44 (P : Params) : Obj := { cls := .type "tuple", data := .seq #[] 0 }
noncomputable def o166_44 (P : Params) : Obj := { cls := .none, data := .fields #[] }
noncomputable def o167_44 (P : Params) : Obj := { cls := .type "tuple", data := .seq #[sv "n" 414, sv "count" 415] 0 }
noncomputable def o168_44 (P : Params) : Obj := { cls := .type "tuple", data := .seq #[] 0 }
noncomputable def o169_44 (P : Params) : Obj := { cls := .none, data := .func { name := Str.ofString "count_digits", qualname := Str.ofString "count_digits", params := prm (stA 32), body := .stmts (bdy (stA 32)), scope := scp (stA 32), globals := 0, closure := [], defaults := .none, kwdefaults := .none, doc := .none, pyModule := .none, annotations := .none, code := .none, closureTuple := .none, builtins := 0 } }
noncomputable def o170_44 (P : Params) : Obj := { cls := .type "code", data := .fields #[sv "count_digits" 411, sv "count_digits" 412, sv "/claim/cut.py" 413, .int 107 0, .int 1 0, .int 0 0, .int 0 0, .int 3 0, .ref 165, .bool true, .int 181 0, .ref 166, .none, .ref 167, .ref 168, .ref 169, .int 416 0, .int 107 0, sv "/claim/cut.py" 417] }
noncomputable def o171_44 (P : Params) : Obj := { cls := .type "function", data := .func { name := Str.ofString "count_digits", qualname := Str.ofString "count_digits", params := prm (stA 32), body := .stmts (bdy (stA 32)), scope := scp (stA 32), globals := 3, closure := [], defaults := .none, kwdefaults := .none, doc := .none, pyModule := sv "f77.reals" 402, annotations := .none, code := .ref 170, closureTuple := .none, builtins := 0 } }
noncomputable def o172_44 (P : Params) : Obj := { cls := .type "tuple", data := .seq #[] 0 }
noncomputable def o173_44 (P : Params) : Obj := { cls := .none, data := .fields #[] }
noncomputable def o174_44 (P : Params) : Obj := { cls := .type "tuple", data := .seq #[sv "m" 422, sv "e" 423] 0 }
noncomputable def o175_44 (P : Params) : Obj := { cls := .type "tuple", data := .seq #[] 0 }
noncomputable def o176_44 (P : Params) : Obj := { cls := .none, data := .func { name := Str.ofString "strip_zeros", qualname := Str.ofString "strip_zeros", params := prm (stA 33), body := .stmts (bdy (stA 33)), scope := scp (stA 33), globals := 0, closure := [], defaults := .none, kwdefaults := .none, doc := .none, pyModule := .none, annotations := .none, code := .none, closureTuple := .none, builtins := 0 } }
noncomputable def o177_44 (P : Params) : Obj := { cls := .type "code", data := .fields #[sv "strip_zeros" 419, sv "strip_zeros" 420, sv "/claim/cut.py" 421, .int 117 0, .int 2 0, .int 0 0, .int 0 0, .int 3 0, .ref 172, .bool true, .int 181 0, .ref 173, .none, .ref 174, .ref 175, .ref 176, .int 424 0, .int 117 0, sv "/claim/cut.py" 425] }
noncomputable def o178_44 (P : Params) : Obj := { cls := .type "function", data := .func { name := Str.ofString "strip_zeros", qualname := Str.ofString "strip_zeros", params := prm (stA 33), body := .stmts (bdy (stA 33)), scope := scp (stA 33), globals := 3, closure := [], defaults := .none, kwdefaults := .none, doc := .none, pyModule := sv "f77.reals" 402, annotations := .none, code := .ref 177, closureTuple := .none, builtins := 0 } }
noncomputable def o179_44 (P : Params) : Obj := { cls := .type "tuple", data := .seq #[] 0 }
noncomputable def o180_44 (P : Params) : Obj := { cls := .none, data := .fields #[] }
noncomputable def o181_44 (P : Params) : Obj := { cls := .type "tuple", data := .seq #[sv "m" 430, sv "e" 431, sv "digits" 432, sv "drop" 433, sv "power" 434, sv "kept" 435, sv "rest" 436] 0 }
noncomputable def o182_44 (P : Params) : Obj := { cls := .type "tuple", data := .seq #[] 0 }
noncomputable def o183_44 (P : Params) : Obj := { cls := .none, data := .func { name := Str.ofString "round_digits", qualname := Str.ofString "round_digits", params := prm (stA 34), body := .stmts (bdy (stA 34)), scope := scp (stA 34), globals := 0, closure := [], defaults := .none, kwdefaults := .none, doc := .none, pyModule := .none, annotations := .none, code := .none, closureTuple := .none, builtins := 0 } }
noncomputable def o184_44 (P : Params) : Obj := { cls := .type "code", data := .fields #[sv "round_digits" 427, sv "round_digits" 428, sv "/claim/cut.py" 429, .int 124 0, .int 3 0, .int 0 0, .int 0 0, .int 3 0, .ref 179, .bool true, .int 181 0, .ref 180, .none, .ref 181, .ref 182, .ref 183, .int 437 0, .int 124 0, sv "/claim/cut.py" 438] }
noncomputable def o185_44 (P : Params) : Obj := { cls := .type "function", data := .func { name := Str.ofString "round_digits", qualname := Str.ofString "round_digits", params := prm (stA 34), body := .stmts (bdy (stA 34)), scope := scp (stA 34), globals := 3, closure := [], defaults := .none, kwdefaults := .none, doc := .none, pyModule := sv "f77.reals" 402, annotations := .none, code := .ref 184, closureTuple := .none, builtins := 0 } }
noncomputable def o186_44 (P : Params) : Obj := { cls := .type "tuple", data := .seq #[] 0 }
noncomputable def o187_44 (P : Params) : Obj := { cls := .none, data := .fields #[] }
noncomputable def o188_44 (P : Params) : Obj := { cls := .type "tuple", data := .seq #[sv "m" 443, sv "e" 444, sv "digits" 445, sv "top" 446, sv "lead" 447] 0 }
noncomputable def o189_44 (P : Params) : Obj := { cls := .type "tuple", data := .seq #[] 0 }
noncomputable def o190_44 (P : Params) : Obj := { cls := .none, data := .func { name := Str.ofString "round_real", qualname := Str.ofString "round_real", params := prm (stA 35), body := .stmts (bdy (stA 35)), scope := scp (stA 35), globals := 0, closure := [], defaults := .none, kwdefaults := .none, doc := .none, pyModule := .none, annotations := .none, code := .none, closureTuple := .none, builtins := 0 } }
noncomputable def o191_44 (P : Params) : Obj := { cls := .type "code", data := .fields #[sv "round_real" 440, sv "round_real" 441, sv "/claim/cut.py" 442, .int 134 0, .int 4 0, .int 0 0, .int 0 0, .int 3 0, .ref 186, .bool true, .int 181 0, .ref 187, .none, .ref 188, .ref 189, .ref 190, .int 448 0, .int 134 0, sv "/claim/cut.py" 449] }
noncomputable def o192_44 (P : Params) : Obj := { cls := .type "function", data := .func { name := Str.ofString "round_real", qualname := Str.ofString "round_real", params := prm (stA 35), body := .stmts (bdy (stA 35)), scope := scp (stA 35), globals := 3, closure := [], defaults := .none, kwdefaults := .none, doc := .none, pyModule := sv "f77.reals" 402, annotations := .none, code := .ref 191, closureTuple := .none, builtins := 0 } }
noncomputable def o193_44 (P : Params) : Obj := { cls := .type "tuple", data := .seq #[] 0 }
noncomputable def o194_44 (P : Params) : Obj := { cls := .none, data := .fields #[] }
noncomputable def o195_44 (P : Params) : Obj := { cls := .type "tuple", data := .seq #[sv "x" 454, sv "y" 455, sv "low" 456] 0 }
noncomputable def o196_44 (P : Params) : Obj := { cls := .type "tuple", data := .seq #[] 0 }
noncomputable def o197_44 (P : Params) : Obj := { cls := .none, data := .func { name := Str.ofString "exact_add", qualname := Str.ofString "exact_add", params := prm (stA 36), body := .stmts (bdy (stA 36)), scope := scp (stA 36), globals := 0, closure := [], defaults := .none, kwdefaults := .none, doc := .none, pyModule := .none, annotations := .none, code := .none, closureTuple := .none, builtins := 0 } }
noncomputable def o198_44 (P : Params) : Obj := { cls := .type "code", data := .fields #[sv "exact_add" 451, sv "exact_add" 452, sv "/claim/cut.py" 453, .int 142 0, .int 2 0, .int 0 0, .int 0 0, .int 3 0, .ref 193, .bool true, .int 181 0, .ref 194, .none, .ref 195, .ref 196, .ref 197, .int 457 0, .int 142 0, sv "/claim/cut.py" 458] }
noncomputable def o199_44 (P : Params) : Obj := { cls := .type "function", data := .func { name := Str.ofString "exact_add", qualname := Str.ofString "exact_add", params := prm (stA 36), body := .stmts (bdy (stA 36)), scope := scp (stA 36), globals := 3, closure := [], defaults := .none, kwdefaults := .none, doc := .none, pyModule := sv "f77.reals" 402, annotations := .none, code := .ref 198, closureTuple := .none, builtins := 0 } }
noncomputable def o200_44 (P : Params) : Obj := { cls := .type "tuple", data := .seq #[] 0 }
noncomputable def o201_44 (P : Params) : Obj := { cls := .none, data := .fields #[] }
noncomputable def o202_44 (P : Params) : Obj := { cls := .type "tuple", data := .seq #[sv "x" 463, sv "y" 464] 0 }
noncomputable def o203_44 (P : Params) : Obj := { cls := .type "tuple", data := .seq #[] 0 }
noncomputable def o204_44 (P : Params) : Obj := { cls := .none, data := .func { name := Str.ofString "exact_mul", qualname := Str.ofString "exact_mul", params := prm (stA 37), body := .stmts (bdy (stA 37)), scope := scp (stA 37), globals := 0, closure := [], defaults := .none, kwdefaults := .none, doc := .none, pyModule := .none, annotations := .none, code := .none, closureTuple := .none, builtins := 0 } }
noncomputable def o205_44 (P : Params) : Obj := { cls := .type "code", data := .fields #[sv "exact_mul" 460, sv "exact_mul" 461, sv "/claim/cut.py" 462, .int 149 0, .int 2 0, .int 0 0, .int 0 0, .int 3 0, .ref 200, .bool true, .int 181 0, .ref 201, .none, .ref 202, .ref 203, .ref 204, .int 465 0, .int 149 0, sv "/claim/cut.py" 466] }
noncomputable def o206_44 (P : Params) : Obj := { cls := .type "function", data := .func { name := Str.ofString "exact_mul", qualname := Str.ofString "exact_mul", params := prm (stA 37), body := .stmts (bdy (stA 37)), scope := scp (stA 37), globals := 3, closure := [], defaults := .none, kwdefaults := .none, doc := .none, pyModule := sv "f77.reals" 402, annotations := .none, code := .ref 205, closureTuple := .none, builtins := 0 } }
noncomputable def o207_44 (P : Params) : Obj := { cls := .type "tuple", data := .seq #[] 0 }
noncomputable def o208_44 (P : Params) : Obj := { cls := .none, data := .fields #[] }
noncomputable def o209_44 (P : Params) : Obj := { cls := .type "tuple", data := .seq #[sv "x" 471] 0 }
noncomputable def o210_44 (P : Params) : Obj := { cls := .type "tuple", data := .seq #[] 0 }
noncomputable def o211_44 (P : Params) : Obj := { cls := .none, data := .func { name := Str.ofString "real_neg", qualname := Str.ofString "real_neg", params := prm (stA 38), body := .stmts (bdy (stA 38)), scope := scp (stA 38), globals := 0, closure := [], defaults := .none, kwdefaults := .none, doc := .none, pyModule := .none, annotations := .none, code := .none, closureTuple := .none, builtins := 0 } }
noncomputable def o212_44 (P : Params) : Obj := { cls := .type "code", data := .fields #[sv "real_neg" 468, sv "real_neg" 469, sv "/claim/cut.py" 470, .int 151 0, .int 1 0, .int 0 0, .int 0 0, .int 3 0, .ref 207, .bool true, .int 181 0, .ref 208, .none, .ref 209, .ref 210, .ref 211, .int 472 0, .int 151 0, sv "/claim/cut.py" 473] }
noncomputable def o213_44 (P : Params) : Obj := { cls := .type "function", data := .func { name := Str.ofString "real_neg", qualname := Str.ofString "real_neg", params := prm (stA 38), body := .stmts (bdy (stA 38)), scope := scp (stA 38), globals := 3, closure := [], defaults := .none, kwdefaults := .none, doc := .none, pyModule := sv "f77.reals" 402, annotations := .none, code := .ref 212, closureTuple := .none, builtins := 0 } }
noncomputable def o214_44 (P : Params) : Obj := { cls := .type "tuple", data := .seq #[] 0 }
noncomputable def o215_44 (P : Params) : Obj := { cls := .none, data := .fields #[] }
noncomputable def o216_44 (P : Params) : Obj := { cls := .type "tuple", data := .seq #[sv "over" 478, sv "under" 479, sv "e" 480, sv "digits" 481, sv "shift" 482, sv "kept" 483, sv "rest" 484, sv "m" 485] 0 }
noncomputable def o217_44 (P : Params) : Obj := { cls := .type "tuple", data := .seq #[] 0 }
noncomputable def o218_44 (P : Params) : Obj := { cls := .none, data := .func { name := Str.ofString "quotient", qualname := Str.ofString "quotient", params := prm (stA 39), body := .stmts (bdy (stA 39)), scope := scp (stA 39), globals := 0, closure := [], defaults := .none, kwdefaults := .none, doc := .none, pyModule := .none, annotations := .none, code := .none, closureTuple := .none, builtins := 0 } }
noncomputable def o219_44 (P : Params) : Obj := { cls := .type "code", data := .fields #[sv "quotient" 475, sv "quotient" 476, sv "/claim/cut.py" 477, .int 153 0, .int 4 0, .int 0 0, .int 0 0, .int 3 0, .ref 214, .bool true, .int 181 0, .ref 215, .none, .ref 216, .ref 217, .ref 218, .int 486 0, .int 153 0, sv "/claim/cut.py" 487] }
noncomputable def o220_44 (P : Params) : Obj := { cls := .type "function", data := .func { name := Str.ofString "quotient", qualname := Str.ofString "quotient", params := prm (stA 39), body := .stmts (bdy (stA 39)), scope := scp (stA 39), globals := 3, closure := [], defaults := .none, kwdefaults := .none, doc := .none, pyModule := sv "f77.reals" 402, annotations := .none, code := .ref 219, closureTuple := .none, builtins := 0 } }
noncomputable def o221_44 (P : Params) : Obj := { cls := .type "tuple", data := .seq #[] 0 }
noncomputable def o222_44 (P : Params) : Obj := { cls := .none, data := .fields #[] }
noncomputable def o223_44 (P : Params) : Obj := { cls := .type "tuple", data := .seq #[sv "x" 492, sv "y" 493, sv "digits" 494, sv "top" 495, sv "m" 496, sv "e" 497] 0 }
noncomputable def o224_44 (P : Params) : Obj := { cls := .type "tuple", data := .seq #[] 0 }
noncomputable def o225_44 (P : Params) : Obj := { cls := .none, data := .func { name := Str.ofString "real_add", qualname := Str.ofString "real_add", params := prm (stA 40), body := .stmts (bdy (stA 40)), scope := scp (stA 40), globals := 0, closure := [], defaults := .none, kwdefaults := .none, doc := .none, pyModule := .none, annotations := .none, code := .none, closureTuple := .none, builtins := 0 } }
noncomputable def o226_44 (P : Params) : Obj := { cls := .type "code", data := .fields #[sv "real_add" 489, sv "real_add" 490, sv "/claim/cut.py" 491, .int 160 0, .int 4 0, .int 0 0, .int 0 0, .int 3 0, .ref 221, .bool true, .int 181 0, .ref 222, .none, .ref 223, .ref 224, .ref 225, .int 498 0, .int 160 0, sv "/claim/cut.py" 499] }
noncomputable def o227_44 (P : Params) : Obj := { cls := .type "function", data := .func { name := Str.ofString "real_add", qualname := Str.ofString "real_add", params := prm (stA 40), body := .stmts (bdy (stA 40)), scope := scp (stA 40), globals := 3, closure := [], defaults := .none, kwdefaults := .none, doc := .none, pyModule := sv "f77.reals" 402, annotations := .none, code := .ref 226, closureTuple := .none, builtins := 0 } }
noncomputable def o228_44 (P : Params) : Obj := { cls := .type "tuple", data := .seq #[] 0 }
noncomputable def o229_44 (P : Params) : Obj := { cls := .none, data := .fields #[] }
noncomputable def o230_44 (P : Params) : Obj := { cls := .type "tuple", data := .seq #[sv "x" 504, sv "y" 505, sv "digits" 506, sv "top" 507, sv "m" 508, sv "e" 509] 0 }
noncomputable def o231_44 (P : Params) : Obj := { cls := .type "tuple", data := .seq #[] 0 }
noncomputable def o232_44 (P : Params) : Obj := { cls := .none, data := .func { name := Str.ofString "real_sub", qualname := Str.ofString "real_sub", params := prm (stA 41), body := .stmts (bdy (stA 41)), scope := scp (stA 41), globals := 0, closure := [], defaults := .none, kwdefaults := .none, doc := .none, pyModule := .none, annotations := .none, code := .none, closureTuple := .none, builtins := 0 } }
noncomputable def o233_44 (P : Params) : Obj := { cls := .type "code", data := .fields #[sv "real_sub" 501, sv "real_sub" 502, sv "/claim/cut.py" 503, .int 163 0, .int 4 0, .int 0 0, .int 0 0, .int 3 0, .ref 228, .bool true, .int 181 0, .ref 229, .none, .ref 230, .ref 231, .ref 232, .int 510 0, .int 163 0, sv "/claim/cut.py" 511] }
noncomputable def o234_44 (P : Params) : Obj := { cls := .type "function", data := .func { name := Str.ofString "real_sub", qualname := Str.ofString "real_sub", params := prm (stA 41), body := .stmts (bdy (stA 41)), scope := scp (stA 41), globals := 3, closure := [], defaults := .none, kwdefaults := .none, doc := .none, pyModule := sv "f77.reals" 402, annotations := .none, code := .ref 233, closureTuple := .none, builtins := 0 } }
noncomputable def o235_44 (P : Params) : Obj := { cls := .type "tuple", data := .seq #[] 0 }
noncomputable def o236_44 (P : Params) : Obj := { cls := .none, data := .fields #[] }
noncomputable def o237_44 (P : Params) : Obj := { cls := .type "tuple", data := .seq #[sv "x" 516, sv "y" 517, sv "digits" 518, sv "top" 519, sv "m" 520, sv "e" 521] 0 }
noncomputable def o238_44 (P : Params) : Obj := { cls := .type "tuple", data := .seq #[] 0 }
noncomputable def o239_44 (P : Params) : Obj := { cls := .none, data := .func { name := Str.ofString "real_mul", qualname := Str.ofString "real_mul", params := prm (stA 42), body := .stmts (bdy (stA 42)), scope := scp (stA 42), globals := 0, closure := [], defaults := .none, kwdefaults := .none, doc := .none, pyModule := .none, annotations := .none, code := .none, closureTuple := .none, builtins := 0 } }
noncomputable def o240_44 (P : Params) : Obj := { cls := .type "code", data := .fields #[sv "real_mul" 513, sv "real_mul" 514, sv "/claim/cut.py" 515, .int 166 0, .int 4 0, .int 0 0, .int 0 0, .int 3 0, .ref 235, .bool true, .int 181 0, .ref 236, .none, .ref 237, .ref 238, .ref 239, .int 522 0, .int 166 0, sv "/claim/cut.py" 523] }
noncomputable def o241_44 (P : Params) : Obj := { cls := .type "function", data := .func { name := Str.ofString "real_mul", qualname := Str.ofString "real_mul", params := prm (stA 42), body := .stmts (bdy (stA 42)), scope := scp (stA 42), globals := 3, closure := [], defaults := .none, kwdefaults := .none, doc := .none, pyModule := sv "f77.reals" 402, annotations := .none, code := .ref 240, closureTuple := .none, builtins := 0 } }
noncomputable def o242_44 (P : Params) : Obj := { cls := .type "tuple", data := .seq #[] 0 }
noncomputable def o243_44 (P : Params) : Obj := { cls := .none, data := .fields #[] }
noncomputable def o244_44 (P : Params) : Obj := { cls := .type "tuple", data := .seq #[sv "x" 528, sv "y" 529, sv "digits" 530, sv "top" 531, sv "m" 532, sv "e" 533] 0 }
noncomputable def o245_44 (P : Params) : Obj := { cls := .type "tuple", data := .seq #[] 0 }
noncomputable def o246_44 (P : Params) : Obj := { cls := .none, data := .func { name := Str.ofString "real_div", qualname := Str.ofString "real_div", params := prm (stA 43), body := .stmts (bdy (stA 43)), scope := scp (stA 43), globals := 0, closure := [], defaults := .none, kwdefaults := .none, doc := .none, pyModule := .none, annotations := .none, code := .none, closureTuple := .none, builtins := 0 } }
noncomputable def o247_44 (P : Params) : Obj := { cls := .type "code", data := .fields #[sv "real_div" 525, sv "real_div" 526, sv "/claim/cut.py" 527, .int 169 0, .int 4 0, .int 0 0, .int 0 0, .int 3 0, .ref 242, .bool true, .int 181 0, .ref 243, .none, .ref 244, .ref 245, .ref 246, .int 534 0, .int 169 0, sv "/claim/cut.py" 535] }
noncomputable def o248_44 (P : Params) : Obj := { cls := .type "function", data := .func { name := Str.ofString "real_div", qualname := Str.ofString "real_div", params := prm (stA 43), body := .stmts (bdy (stA 43)), scope := scp (stA 43), globals := 3, closure := [], defaults := .none, kwdefaults := .none, doc := .none, pyModule := sv "f77.reals" 402, annotations := .none, code := .ref 247, closureTuple := .none, builtins := 0 } }
noncomputable def o3_73 (P : Params) : Obj := { cls := .type "dict", data := .dict #[en P "__name__" 165 (sv "f77.consts" 796), en P "__doc__" 166 (.none), en P "__package__" 167 (.none), en P "__loader__" 168 (.builtin "__main__.__loader__#opaque"), en P "__spec__" 169 (.none), en P "__annotations__" 170 (.ref 6), en P "__builtins__" 171 (.ref 4), en P "__file__" 173 (sv "/claim/cut.py" 172), en P "__cached__" 174 (.none), en P "F77Error" 217 (.ref 31), en P "CheckFault" 233 (.ref 44), en P "RunFault" 249 (.ref 56), en P "fit_int" 260 (.ref 65), en P "int_add" 269 (.ref 72), en P "int_sub" 278 (.ref 79), en P "int_mul" 287 (.ref 86), en P "cut_quotient" 296 (.ref 93), en P "int_div" 305 (.ref 100), en P "inverse_power" 313 (.ref 107), en P "int_power" 324 (.ref 114), en P "order_of" 332 (.ref 121), en P "holds" 340 (.ref 128), en P "int_binary" 351 (.ref 135), en P "logic_binary" 362 (.ref 142), en P "INTEGER" 366 (.int 0 365), en P "REAL" 368 (.int 1 367), en P "DOUBLE" 370 (.int 2 369), en P "COMPLEX" 372 (.int 3 371), en P "LOGICAL" 374 (.int 4 373), en P "CHARACTER" 376 (.int 5 375), en P "is_numeric" 383 (.ref 149), en P "higher_kind" 391 (.ref 156), en P "pad" 401 (.ref 163), en P "NOUGHT" 406 (.ref 164), en P "GUARD" 408 (.int 8 407), en P "EXACT_POWER" 410 (.int 64 409), en P "count_digits" 418 (.ref 171), en P "strip_zeros" 426 (.ref 178), en P "round_digits" 439 (.ref 185), en P "round_real" 450 (.ref 192), en P "exact_add" 459 (.ref 199), en P "exact_mul" 467 (.ref 206), en P "real_neg" 474 (.ref 213), en P "quotient" 488 (.ref 220), en P "real_add" 500 (.ref 227), en P "real_sub" 512 (.ref 234), en P "real_mul" 524 (.ref 241), en P "real_div" 536 (.ref 248), en P "real_compare" 545 (.ref 255), en P "real_of_int" 554 (.ref 262), en P "real_to_int" 564 (.ref 269), en P "raised" 574 (.ref 276), en P "real_power" 586 (.ref 283), en P "digits_of" 594 (.ref 290), en P "real_binary" 607 (.ref 297), en P "ONE" 614 (.ref 300), en P "EXACT_COMPLEX_POWER" 616 (.int 16 615), en P "round_parts" 625 (.ref 307), en P "complex_add" 635 (.ref 314), en P "complex_neg" 642 (.ref 321), en P "complex_sub" 652 (.ref 328), en P "exact_product" 661 (.ref 335), en P "complex_mul" 671 (.ref 342), en P "complex_div" 685 (.ref 349), en P "guarded_product" 696 (.ref 356), en P "complex_raised" 707 (.ref 363), en P "complex_power" 718 (.ref 370), en P "complex_binary" 731 (.ref 377), en P "collate" 742 (.ref 384), en P "text_binary" 753 (.ref 391), en P "binary" 764 (.ref 398), en P "unary" 774 (.ref 405), en P "real_as" 785 (.ref 412), en P "convert" 795 (.ref 419)] 74 }
noncomputable def o12_73 (P : Params) : Obj := { cls := .none, data := .fields #[.int 2 0, .int 0 0, .ref 20, .int 7 0, .int 0 0, .ref 40, .int 9 0, .int 0 0, .ref 52, .int 12 0, .int 0 0, .ref 64, .int 17 0, .int 0 0, .ref 71, .int 19 0, .int 0 0, .ref 78, .int 21 0, .int 0 0, .ref 85, .int 23 0, .int 0 0, .ref 92, .int 26 0, .int 0 0, .ref 99, .int 30 0, .int 0 0, .ref 106, .int 36 0, .int 0 0, .ref 113, .int 45 0, .int 0 0, .ref 120, .int 49 0, .int 0 0, .ref 127, .int 63 0, .int 0 0, .ref 134, .int 75 0, .int 0 0, .ref 141, .int 92 0, .int 0 0, .ref 148, .int 94 0, .int 0 0, .ref 155, .int 101 0, .int 0 0, .ref 162, .int 107 0, .int 0 0, .ref 170, .int 117 0, .int 0 0, .ref 177, .int 124 0, .int 0 0, .ref 184, .int 134 0, .int 0 0, .ref 191, .int 142 0, .int 0 0, .ref 198, .int 149 0, .int 0 0, .ref 205, .int 151 0, .int 0 0, .ref 212, .int 153 0, .int 0 0, .ref 219, .int 160 0, .int 0 0, .ref 226, .int 163 0, .int 0 0, .ref 233, .int 166 0, .int 0 0, .ref 240, .int 169 0, .int 0 0, .ref 247, .int 174 0, .int 0 0, .ref 254, .int 179 0, .int 0 0, .ref 261, .int 181 0, .int 0 0, .ref 268, .int 187 0, .int 0 0, .ref 275, .int 197 0, .int 0 0, .ref 282, .int 204 0, .int 0 0, .ref 289, .int 206 0, .int 0 0, .ref 296, .int 223 0, .int 0 0, .ref 306, .int 225 0, .int 0 0, .ref 313, .int 227 0, .int 0 0, .ref 320, .int 229 0, .int 0 0, .ref 327, .int 231 0, .int 0 0, .ref 334, .int 234 0, .int 0 0, .ref 341, .int 236 0, .int 0 0, .ref 348, .int 244 0, .int 0 0, .ref 355, .int 248 0, .int 0 0, .ref 362, .int 260 0, .int 0 0, .ref 369, .int 265 0, .int 0 0, .ref 376, .int 284 0, .int 0 0, .ref 383, .int 287 0, .int 0 0, .ref 390, .int 291 0, .int 0 0, .ref 397, .int 303 0, .int 0 0, .ref 404, .int 313 0, .int 0 0, .ref 411, .int 320 0, .int 0 0, .ref 418] }
noncomputable def o249_73 (P : Params) : Obj := { cls := .type "tuple", data := .seq #[] 0 }
noncomputable def o250_73 (P : Params) : Obj := { cls := .none, data := .fields #[] }
noncomputable def o251_73 (P : Params) : Obj := { cls := .type "tuple", data := .seq #[sv "x" 540, sv "y" 541, sv "m" 542] 0 }
noncomputable def o252_73 (P : Params) : Obj := { cls := .type "tuple", data := .seq #[] 0 }
noncomputable def o253_73 (P : Params) : Obj := { cls := .none, data := .func { name := Str.ofString "real_compare", qualname := Str.ofString "real_compare", params := prm (stA 44), body := .stmts (bdy (stA 44)), scope := scp (stA 44), globals := 0, closure := [], defaults := .none, kwdefaults := .none, doc := .none, pyModule := .none, annotations := .none, code := .none, closureTuple := .none, builtins := 0 } }
noncomputable def o254_73 (P : Params) : Obj := { cls := .type "code", data := .fields #[sv "real_compare" 537, sv "real_compare" 538, sv "/claim/cut.py" 539, .int 174 0, .int 2 0, .int 0 0, .int 0 0, .int 3 0, .ref 249, .bool true, .int 181 0, .ref 250, .none, .ref 251, .ref 252, .ref 253, .int 543 0, .int 174 0, sv "/claim/cut.py" 544] }
noncomputable def o255_73 (P : Params) : Obj := { cls := .type "function", data := .func { name := Str.ofString "real_compare", qualname := Str.ofString "real_compare", params := prm (stA 44), body := .stmts (bdy (stA 44)), scope := scp (stA 44), globals := 3, closure := [], defaults := .none, kwdefaults := .none, doc := .none, pyModule := sv "f77.reals" 402, annotations := .none, code := .ref 254, closureTuple := .none, builtins := 0 } }
noncomputable def o256_73 (P : Params) : Obj := { cls := .type "tuple", data := .seq #[] 0 }
noncomputable def o257_73 (P : Params) : Obj := { cls := .none, data := .fields #[] }
noncomputable def o258_73 (P : Params) : Obj := { cls := .type "tuple", data := .seq #[sv "n" 549, sv "digits" 550, sv "top" 551] 0 }
noncomputable def o259_73 (P : Params) : Obj := { cls := .type "tuple", data := .seq #[] 0 }
noncomputable def o260_73 (P : Params) : Obj := { cls := .none, data := .func { name := Str.ofString "real_of_int", qualname := Str.ofString "real_of_int", params := prm (stA 45), body := .stmts (bdy (stA 45)), scope := scp (stA 45), globals := 0, closure := [], defaults := .none, kwdefaults := .none, doc := .none, pyModule := .none, annotations := .none, code := .none, closureTuple := .none, builtins := 0 } }
noncomputable def o261_73 (P : Params) : Obj := { cls := .type "code", data := .fields #[sv "real_of_int" 546, sv "real_of_int" 547, sv "/claim/cut.py" 548, .int 179 0, .int 3 0, .int 0 0, .int 0 0, .int 3 0, .ref 256, .bool true, .int 181 0, .ref 257, .none, .ref 258, .ref 259, .ref 260, .int 552 0, .int 179 0, sv "/claim/cut.py" 553] }
noncomputable def o262_73 (P : Params) : Obj := { cls := .type "function", data := .func { name := Str.ofString "real_of_int", qualname := Str.ofString "real_of_int", params := prm (stA 45), body := .stmts (bdy (stA 45)), scope := scp (stA 45), globals := 3, closure := [], defaults := .none, kwdefaults := .none, doc := .none, pyModule := sv "f77.reals" 402, annotations := .none, code := .ref 261, closureTuple := .none, builtins := 0 } }
noncomputable def o263_73 (P : Params) : Obj := { cls := .type "tuple", data := .seq #[] 0 }
noncomputable def o264_73 (P : Params) : Obj := { cls := .none, data := .fields #[] }
noncomputable def o265_73 (P : Params) : Obj := { cls := .type "tuple", data := .seq #[sv "x" 558, sv "m" 559, sv "e" 560, sv "found" 561] 0 }
noncomputable def o266_73 (P : Params) : Obj := { cls := .type "tuple", data := .seq #[] 0 }
noncomputable def o267_73 (P : Params) : Obj := { cls := .none, data := .func { name := Str.ofString "real_to_int", qualname := Str.ofString "real_to_int", params := prm (stA 46), body := .stmts (bdy (stA 46)), scope := scp (stA 46), globals := 0, closure := [], defaults := .none, kwdefaults := .none, doc := .none, pyModule := .none, annotations := .none, code := .none, closureTuple := .none, builtins := 0 } }
noncomputable def o268_73 (P : Params) : Obj := { cls := .type "code", data := .fields #[sv "real_to_int" 555, sv "real_to_int" 556, sv "/claim/cut.py" 557, .int 181 0, .int 1 0, .int 0 0, .int 0 0, .int 3 0, .ref 263, .bool true, .int 181 0, .ref 264, .none, .ref 265, .ref 266, .ref 267, .int 562 0, .int 181 0, sv "/claim/cut.py" 563] }
noncomputable def o269_73 (P : Params) : Obj := { cls := .type "function", data := .func { name := Str.ofString "real_to_int", qualname := Str.ofString "real_to_int", params := prm (stA 46), body := .stmts (bdy (stA 46)), scope := scp (stA 46), globals := 3, closure := [], defaults := .none, kwdefaults := .none, doc := .none, pyModule := sv "f77.reals" 402, annotations := .none, code := .ref 268, closureTuple := .none, builtins := 0 } }
noncomputable def o270_73 (P : Params) : Obj := { cls := .type "tuple", data := .seq #[] 0 }
noncomputable def o271_73 (P : Params) : Obj := { cls := .none, data := .fields #[] }
noncomputable def o272_73 (P : Params) : Obj := { cls := .type "tuple", data := .seq #[sv "x" 568, sv "n" 569, sv "digits" 570, sv "found" 571] 0 }
noncomputable def o273_73 (P : Params) : Obj := { cls := .type "tuple", data := .seq #[] 0 }
noncomputable def o274_73 (P : Params) : Obj := { cls := .none, data := .func { name := Str.ofString "raised", qualname := Str.ofString "raised", params := prm (stA 47), body := .stmts (bdy (stA 47)), scope := scp (stA 47), globals := 0, closure := [], defaults := .none, kwdefaults := .none, doc := .none, pyModule := .none, annotations := .none, code := .none, closureTuple := .none, builtins := 0 } }
noncomputable def o275_73 (P : Params) : Obj := { cls := .type "code", data := .fields #[sv "raised" 565, sv "raised" 566, sv "/claim/cut.py" 567, .int 187 0, .int 3 0, .int 0 0, .int 0 0, .int 3 0, .ref 270, .bool true, .int 181 0, .ref 271, .none, .ref 272, .ref 273, .ref 274, .int 572 0, .int 187 0, sv "/claim/cut.py" 573] }
noncomputable def o276_73 (P : Params) : Obj := { cls := .type "function", data := .func { name := Str.ofString "raised", qualname := Str.ofString "raised", params := prm (stA 47), body := .stmts (bdy (stA 47)), scope := scp (stA 47), globals := 3, closure := [], defaults := .none, kwdefaults := .none, doc := .none, pyModule := sv "f77.reals" 402, annotations := .none, code := .ref 275, closureTuple := .none, builtins := 0 } }
noncomputable def o277_73 (P : Params) : Obj := { cls := .type "tuple", data := .seq #[] 0 }
noncomputable def o278_73 (P : Params) : Obj := { cls := .none, data := .fields #[] }
noncomputable def o279_73 (P : Params) : Obj := { cls := .type "tuple", data := .seq #[sv "x" 578, sv "n" 579, sv "digits" 580, sv "top" 581, sv "m" 582, sv "e" 583] 0 }
noncomputable def o280_73 (P : Params) : Obj := { cls := .type "tuple", data := .seq #[] 0 }
noncomputable def o281_73 (P : Params) : Obj := { cls := .none, data := .func { name := Str.ofString "real_power", qualname := Str.ofString "real_power", params := prm (stA 48), body := .stmts (bdy (stA 48)), scope := scp (stA 48), globals := 0, closure := [], defaults := .none, kwdefaults := .none, doc := .none, pyModule := .none, annotations := .none, code := .none, closureTuple := .none, builtins := 0 } }
noncomputable def o282_73 (P : Params) : Obj := { cls := .type "code", data := .fields #[sv "real_power" 575, sv "real_power" 576, sv "/claim/cut.py" 577, .int 197 0, .int 4 0, .int 0 0, .int 0 0, .int 3 0, .ref 277, .bool true, .int 181 0, .ref 278, .none, .ref 279, .ref 280, .ref 281, .int 584 0, .int 197 0, sv "/claim/cut.py" 585] }
noncomputable def o283_73 (P : Params) : Obj := { cls := .type "function", data := .func { name := Str.ofString "real_power", qualname := Str.ofString "real_power", params := prm (stA 48), body := .stmts (bdy (stA 48)), scope := scp (stA 48), globals := 3, closure := [], defaults := .none, kwdefaults := .none, doc := .none, pyModule := sv "f77.reals" 402, annotations := .none, code := .ref 282, closureTuple := .none, builtins := 0 } }
noncomputable def o284_73 (P : Params) : Obj := { cls := .type "tuple", data := .seq #[] 0 }
noncomputable def o285_73 (P : Params) : Obj := { cls := .none, data := .fields #[] }
noncomputable def o286_73 (P : Params) : Obj := { cls := .type "tuple", data := .seq #[sv "kind" 590, sv "limits" 591] 0 }
noncomputable def o287_73 (P : Params) : Obj := { cls := .type "tuple", data := .seq #[] 0 }
noncomputable def o288_73 (P : Params) : Obj := { cls := .none, data := .func { name := Str.ofString "digits_of", qualname := Str.ofString "digits_of", params := prm (stA 49), body := .stmts (bdy (stA 49)), scope := scp (stA 49), globals := 0, closure := [], defaults := .none, kwdefaults := .none, doc := .none, pyModule := .none, annotations := .none, code := .none, closureTuple := .none, builtins := 0 } }
noncomputable def o289_73 (P : Params) : Obj := { cls := .type "code", data := .fields #[sv "digits_of" 587, sv "digits_of" 588, sv "/claim/cut.py" 589, .int 204 0, .int 2 0, .int 0 0, .int 0 0, .int 3 0, .ref 284, .bool true, .int 181 0, .ref 285, .none, .ref 286, .ref 287, .ref 288, .int 592 0, .int 204 0, sv "/claim/cut.py" 593] }
noncomputable def o290_73 (P : Params) : Obj := { cls := .type "function", data := .func { name := Str.ofString "digits_of", qualname := Str.ofString "digits_of", params := prm (stA 49), body := .stmts (bdy (stA 49)), scope := scp (stA 49), globals := 3, closure := [], defaults := .none, kwdefaults := .none, doc := .none, pyModule := sv "f77.reals" 402, annotations := .none, code := .ref 289, closureTuple := .none, builtins := 0 } }
noncomputable def o291_73 (P : Params) : Obj := { cls := .type "tuple", data := .seq #[] 0 }
noncomputable def o292_73 (P : Params) : Obj := { cls := .none, data := .fields #[] }
noncomputable def o293_73 (P : Params) : Obj := { cls := .type "tuple", data := .seq #[sv "op" 598, sv "kind" 599, sv "x" 600, sv "y" 601, sv "limits" 602, sv "digits" 603, sv "top" 604] 0 }
noncomputable def o294_73 (P : Params) : Obj := { cls := .type "tuple", data := .seq #[] 0 }
noncomputable def o295_73 (P : Params) : Obj := { cls := .none, data := .func { name := Str.ofString "real_binary", qualname := Str.ofString "real_binary", params := prm (stA 50), body := .stmts (bdy (stA 50)), scope := scp (stA 50), globals := 0, closure := [], defaults := .none, kwdefaults := .none, doc := .none, pyModule := .none, annotations := .none, code := .none, closureTuple := .none, builtins := 0 } }
noncomputable def o296_73 (P : Params) : Obj := { cls := .type "code", data := .fields #[sv "real_binary" 595, sv "real_binary" 596, sv "/claim/cut.py" 597, .int 206 0, .int 5 0, .int 0 0, .int 0 0, .int 3 0, .ref 291, .bool true, .int 181 0, .ref 292, .none, .ref 293, .ref 294, .ref 295, .int 605 0, .int 206 0, sv "/claim/cut.py" 606] }
noncomputable def o297_73 (P : Params) : Obj := { cls := .type "function", data := .func { name := Str.ofString "real_binary", qualname := Str.ofString "real_binary", params := prm (stA 50), body := .stmts (bdy (stA 50)), scope := scp (stA 50), globals := 3, closure := [], defaults := .none, kwdefaults := .none, doc := .none, pyModule := sv "f77.reals" 402, annotations := .none, code := .ref 296, closureTuple := .none, builtins := 0 } }
noncomputable def o298_73 (P : Params) : Obj := { cls := .type "tuple", data := .seq #[.int 1 610, .int 0 611] 0 }
noncomputable def o299_73 (P : Params) : Obj := { cls := .type "tuple", data := .seq #[.int 0 612, .int 0 613] 0 }
noncomputable def o300_73 (P : Params) : Obj := { cls := .type "tuple", data := .seq #[.ref 298, .ref 299] 0 }
noncomputable def o301_73 (P : Params) : Obj := { cls := .type "tuple", data := .seq #[] 0 }
noncomputable def o302_73 (P : Params) : Obj := { cls := .none, data := .fields #[] }
noncomputable def o303_73 (P : Params) : Obj := { cls := .type "tuple", data := .seq #[sv "x" 620, sv "digits" 621, sv "top" 622] 0 }
noncomputable def o304_73 (P : Params) : Obj := { cls := .type "tuple", data := .seq #[] 0 }
noncomputable def o305_73 (P : Params) : Obj := { cls := .none, data := .func { name := Str.ofString "round_parts", qualname := Str.ofString "round_parts", params := prm (stA 54), body := .stmts (bdy (stA 54)), scope := scp (stA 54), globals := 0, closure := [], defaults := .none, kwdefaults := .none, doc := .none, pyModule := .none, annotations := .none, code := .none, closureTuple := .none, builtins := 0 } }
noncomputable def o306_73 (P : Params) : Obj := { cls := .type "code", data := .fields #[sv "round_parts" 617, sv "round_parts" 618, sv "/claim/cut.py" 619, .int 223 0, .int 3 0, .int 0 0, .int 0 0, .int 3 0, .ref 301, .bool true, .int 181 0, .ref 302, .none, .ref 303, .ref 304, .ref 305, .int 623 0, .int 223 0, sv "/claim/cut.py" 624] }
noncomputable def o307_73 (P : Params) : Obj := { cls := .type "function", data := .func { name := Str.ofString "round_parts", qualname := Str.ofString "round_parts", params := prm (stA 54), body := .stmts (bdy (stA 54)), scope := scp (stA 54), globals := 3, closure := [], defaults := .none, kwdefaults := .none, doc := .none, pyModule := sv "f77.complexes" 608, annotations := .none, code := .ref 306, closureTuple := .none, builtins := 0 } }
noncomputable def o308_73 (P : Params) : Obj := { cls := .type "tuple", data := .seq #[] 0 }
noncomputable def o309_73 (P : Params) : Obj := { cls := .none, data := .fields #[] }
noncomputable def o310_73 (P : Params) : Obj := { cls := .type "tuple", data := .seq #[sv "x" 629, sv "y" 630, sv "digits" 631, sv "top" 632] 0 }
noncomputable def o311_73 (P : Params) : Obj := { cls := .type "tuple", data := .seq #[] 0 }
noncomputable def o312_73 (P : Params) : Obj := { cls := .none, data := .func { name := Str.ofString "complex_add", qualname := Str.ofString "complex_add", params := prm (stA 55), body := .stmts (bdy (stA 55)), scope := scp (stA 55), globals := 0, closure := [], defaults := .none, kwdefaults := .none, doc := .none, pyModule := .none, annotations := .none, code := .none, closureTuple := .none, builtins := 0 } }
noncomputable def o313_73 (P : Params) : Obj := { cls := .type "code", data := .fields #[sv "complex_add" 626, sv "complex_add" 627, sv "/claim/cut.py" 628, .int 225 0, .int 4 0, .int 0 0, .int 0 0, .int 3 0, .ref 308, .bool true, .int 181 0, .ref 309, .none, .ref 310, .ref 311, .ref 312, .int 633 0, .int 225 0, sv "/claim/cut.py" 634] }
noncomputable def o314_73 (P : Params) : Obj := { cls := .type "function", data := .func { name := Str.ofString "complex_add", qualname := Str.ofString "complex_add", params := prm (stA 55), body := .stmts (bdy (stA 55)), scope := scp (stA 55), globals := 3, closure := [], defaults := .none, kwdefaults := .none, doc := .none, pyModule := sv "f77.complexes" 608, annotations := .none, code := .ref 313, closureTuple := .none, builtins := 0 } }
noncomputable def o315_73 (P : Params) : Obj := { cls := .type "tuple", data := .seq #[] 0 }
noncomputable def o316_73 (P : Params) : Obj := { cls := .none, data := .fields #[] }
noncomputable def o317_73 (P : Params) : Obj := { cls := .type "tuple", data := .seq #[sv "x" 639] 0 }
noncomputable def o318_73 (P : Params) : Obj := { cls := .type "tuple", data := .seq #[] 0 }
noncomputable def o319_73 (P : Params) : Obj := { cls := .none, data := .func { name := Str.ofString "complex_neg", qualname := Str.ofString "complex_neg", params := prm (stA 56), body := .stmts (bdy (stA 56)), scope := scp (stA 56), globals := 0, closure := [], defaults := .none, kwdefaults := .none, doc := .none, pyModule := .none, annotations := .none, code := .none, closureTuple := .none, builtins := 0 } }
noncomputable def o320_73 (P : Params) : Obj := { cls := .type "code", data := .fields #[sv "complex_neg" 636, sv "complex_neg" 637, sv "/claim/cut.py" 638, .int 227 0, .int 1 0, .int 0 0, .int 0 0, .int 3 0, .ref 315, .bool true, .int 181 0, .ref 316, .none, .ref 317, .ref 318, .ref 319, .int 640 0, .int 227 0, sv "/claim/cut.py" 641] }
noncomputable def o321_73 (P : Params) : Obj := { cls := .type "function", data := .func { name := Str.ofString "complex_neg", qualname := Str.ofString "complex_neg", params := prm (stA 56), body := .stmts (bdy (stA 56)), scope := scp (stA 56), globals := 3, closure := [], defaults := .none, kwdefaults := .none, doc := .none, pyModule := sv "f77.complexes" 608, annotations := .none, code := .ref 320, closureTuple := .none, builtins := 0 } }
noncomputable def o322_73 (P : Params) : Obj := { cls := .type "tuple", data := .seq #[] 0 }
noncomputable def o323_73 (P : Params) : Obj := { cls := .none, data := .fields #[] }
noncomputable def o324_73 (P : Params) : Obj := { cls := .type "tuple", data := .seq #[sv "x" 646, sv "y" 647, sv "digits" 648, sv "top" 649] 0 }
noncomputable def o325_73 (P : Params) : Obj := { cls := .type "tuple", data := .seq #[] 0 }
noncomputable def o326_73 (P : Params) : Obj := { cls := .none, data := .func { name := Str.ofString "complex_sub", qualname := Str.ofString "complex_sub", params := prm (stA 57), body := .stmts (bdy (stA 57)), scope := scp (stA 57), globals := 0, closure := [], defaults := .none, kwdefaults := .none, doc := .none, pyModule := .none, annotations := .none, code := .none, closureTuple := .none, builtins := 0 } }
noncomputable def o327_73 (P : Params) : Obj := { cls := .type "code", data := .fields #[sv "complex_sub" 643, sv "complex_sub" 644, sv "/claim/cut.py" 645, .int 229 0, .int 4 0, .int 0 0, .int 0 0, .int 3 0, .ref 322, .bool true, .int 181 0, .ref 323, .none, .ref 324, .ref 325, .ref 326, .int 650 0, .int 229 0, sv "/claim/cut.py" 651] }
noncomputable def o328_73 (P : Params) : Obj := { cls := .type "function", data := .func { name := Str.ofString "complex_sub", qualname := Str.ofString "complex_sub", params := prm (stA 57), body := .stmts (bdy (stA 57)), scope := scp (stA 57), globals := 3, closure := [], defaults := .none, kwdefaults := .none, doc := .none, pyModule := sv "f77.complexes" 608, annotations := .none, code := .ref 327, closureTuple := .none, builtins := 0 } }
noncomputable def o329_73 (P : Params) : Obj := { cls := .type "tuple", data := .seq #[] 0 }
noncomputable def o330_73 (P : Params) : Obj := { cls := .none, data := .fields #[] }
noncomputable def o331_73 (P : Params) : Obj := { cls := .type "tuple", data := .seq #[sv "x" 656, sv "y" 657, sv "across" 658] 0 }
noncomputable def o332_73 (P : Params) : Obj := { cls := .type "tuple", data := .seq #[] 0 }
noncomputable def o333_73 (P : Params) : Obj := { cls := .none, data := .func { name := Str.ofString "exact_product", qualname := Str.ofString "exact_product", params := prm (stA 58), body := .stmts (bdy (stA 58)), scope := scp (stA 58), globals := 0, closure := [], defaults := .none, kwdefaults := .none, doc := .none, pyModule := .none, annotations := .none, code := .none, closureTuple := .none, builtins := 0 } }
noncomputable def o334_73 (P : Params) : Obj := { cls := .type "code", data := .fields #[sv "exact_product" 653, sv "exact_product" 654, sv "/claim/cut.py" 655, .int 231 0, .int 2 0, .int 0 0, .int 0 0, .int 3 0, .ref 329, .bool true, .int 181 0, .ref 330, .none, .ref 331, .ref 332, .ref 333, .int 659 0, .int 231 0, sv "/claim/cut.py" 660] }
noncomputable def o335_73 (P : Params) : Obj := { cls := .type "function", data := .func { name := Str.ofString "exact_product", qualname := Str.ofString "exact_product", params := prm (stA 58), body := .stmts (bdy (stA 58)), scope := scp (stA 58), globals := 3, closure := [], defaults := .none, kwdefaults := .none, doc := .none, pyModule := sv "f77.complexes" 608, annotations := .none, code := .ref 334, closureTuple := .none, builtins := 0 } }
noncomputable def o336_73 (P : Params) : Obj := { cls := .type "tuple", data := .seq #[] 0 }
noncomputable def o337_73 (P : Params) : Obj := { cls := .none, data := .fields #[] }
noncomputable def o338_73 (P : Params) : Obj := { cls := .type "tuple", data := .seq #[sv "x" 665, sv "y" 666, sv "digits" 667, sv "top" 668] 0 }
noncomputable def o339_73 (P : Params) : Obj := { cls := .type "tuple", data := .seq #[] 0 }
noncomputable def o340_73 (P : Params) : Obj := { cls := .none, data := .func { name := Str.ofString "complex_mul", qualname := Str.ofString "complex_mul", params := prm (stA 59), body := .stmts (bdy (stA 59)), scope := scp (stA 59), globals := 0, closure := [], defaults := .none, kwdefaults := .none, doc := .none, pyModule := .none, annotations := .none, code := .none, closureTuple := .none, builtins := 0 } }
noncomputable def o341_73 (P : Params) : Obj := { cls := .type "code", data := .fields #[sv "complex_mul" 662, sv "complex_mul" 663, sv "/claim/cut.py" 664, .int 234 0, .int 4 0, .int 0 0, .int 0 0, .int 3 0, .ref 336, .bool true, .int 181 0, .ref 337, .none, .ref 338, .ref 339, .ref 340, .int 669 0, .int 234 0, sv "/claim/cut.py" 670] }
noncomputable def o342_73 (P : Params) : Obj := { cls := .type "function", data := .func { name := Str.ofString "complex_mul", qualname := Str.ofString "complex_mul", params := prm (stA 59), body := .stmts (bdy (stA 59)), scope := scp (stA 59), globals := 3, closure := [], defaults := .none, kwdefaults := .none, doc := .none, pyModule := sv "f77.complexes" 608, annotations := .none, code := .ref 341, closureTuple := .none, builtins := 0 } }
noncomputable def o343_73 (P : Params) : Obj := { cls := .type "tuple", data := .seq #[] 0 }
noncomputable def o344_73 (P : Params) : Obj := { cls := .none, data := .fields #[] }
noncomputable def o345_73 (P : Params) : Obj := { cls := .type "tuple", data := .seq #[sv "x" 675, sv "y" 676, sv "digits" 677, sv "top" 678, sv "size" 679, sv "whole" 680, sv "across" 681, sv "upward" 682] 0 }
noncomputable def o346_73 (P : Params) : Obj := { cls := .type "tuple", data := .seq #[] 0 }
noncomputable def o347_73 (P : Params) : Obj := { cls := .none, data := .func { name := Str.ofString "complex_div", qualname := Str.ofString "complex_div", params := prm (stA 60), body := .stmts (bdy (stA 60)), scope := scp (stA 60), globals := 0, closure := [], defaults := .none, kwdefaults := .none, doc := .none, pyModule := .none, annotations := .none, code := .none, closureTuple := .none, builtins := 0 } }
noncomputable def o348_73 (P : Params) : Obj := { cls := .type "code", data := .fields #[sv "complex_div" 672, sv "complex_div" 673, sv "/claim/cut.py" 674, .int 236 0, .int 4 0, .int 0 0, .int 0 0, .int 3 0, .ref 343, .bool true, .int 181 0, .ref 344, .none, .ref 345, .ref 346, .ref 347, .int 683 0, .int 236 0, sv "/claim/cut.py" 684] }
noncomputable def o349_73 (P : Params) : Obj := { cls := .type "function", data := .func { name := Str.ofString "complex_div", qualname := Str.ofString "complex_div", params := prm (stA 60), body := .stmts (bdy (stA 60)), scope := scp (stA 60), globals := 3, closure := [], defaults := .none, kwdefaults := .none, doc := .none, pyModule := sv "f77.complexes" 608, annotations := .none, code := .ref 348, closureTuple := .none, builtins := 0 } }
noncomputable def o350_73 (P : Params) : Obj := { cls := .type "tuple", data := .seq #[] 0 }
noncomputable def o351_73 (P : Params) : Obj := { cls := .none, data := .fields #[] }
noncomputable def o352_73 (P : Params) : Obj := { cls := .type "tuple", data := .seq #[sv "x" 689, sv "y" 690, sv "digits" 691, sv "found" 692, sv "more" 693] 0 }
noncomputable def o353_73 (P : Params) : Obj := { cls := .type "tuple", data := .seq #[] 0 }
noncomputable def o354_73 (P : Params) : Obj := { cls := .none, data := .func { name := Str.ofString "guarded_product", qualname := Str.ofString "guarded_product", params := prm (stA 61), body := .stmts (bdy (stA 61)), scope := scp (stA 61), globals := 0, closure := [], defaults := .none, kwdefaults := .none, doc := .none, pyModule := .none, annotations := .none, code := .none, closureTuple := .none, builtins := 0 } }
noncomputable def o355_73 (P : Params) : Obj := { cls := .type "code", data := .fields #[sv "guarded_product" 686, sv "guarded_product" 687, sv "/claim/cut.py" 688, .int 244 0, .int 3 0, .int 0 0, .int 0 0, .int 3 0, .ref 350, .bool true, .int 181 0, .ref 351, .none, .ref 352, .ref 353, .ref 354, .int 694 0, .int 244 0, sv "/claim/cut.py" 695] }
noncomputable def o356_73 (P : Params) : Obj := { cls := .type "function", data := .func { name := Str.ofString "guarded_product", qualname := Str.ofString "guarded_product", params := prm (stA 61), body := .stmts (bdy (stA 61)), scope := scp (stA 61), globals := 3, closure := [], defaults := .none, kwdefaults := .none, doc := .none, pyModule := sv "f77.complexes" 608, annotations := .none, code := .ref 355, closureTuple := .none, builtins := 0 } }
noncomputable def o357_73 (P : Params) : Obj := { cls := .type "tuple", data := .seq #[] 0 }
noncomputable def o358_73 (P : Params) : Obj := { cls := .none, data := .fields #[] }
noncomputable def o359_73 (P : Params) : Obj := { cls := .type "tuple", data := .seq #[sv "x" 700, sv "n" 701, sv "digits" 702, sv "found" 703, sv "turn" 704] 0 }
noncomputable def o360_73 (P : Params) : Obj := { cls := .type "tuple", data := .seq #[] 0 }
noncomputable def o361_73 (P : Params) : Obj := { cls := .none, data := .func { name := Str.ofString "complex_raised", qualname := Str.ofString "complex_raised", params := prm (stA 62), body := .stmts (bdy (stA 62)), scope := scp (stA 62), globals := 0, closure := [], defaults := .none, kwdefaults := .none, doc := .none, pyModule := .none, annotations := .none, code := .none, closureTuple := .none, builtins := 0 } }
noncomputable def o362_73 (P : Params) : Obj := { cls := .type "code", data := .fields #[sv "complex_raised" 697, sv "complex_raised" 698, sv "/claim/cut.py" 699, .int 248 0, .int 3 0, .int 0 0, .int 0 0, .int 3 0, .ref 357, .bool true, .int 181 0, .ref 358, .none, .ref 359, .ref 360, .ref 361, .int 705 0, .int 248 0, sv "/claim/cut.py" 706] }
noncomputable def o363_73 (P : Params) : Obj := { cls := .type "function", data := .func { name := Str.ofString "complex_raised", qualname := Str.ofString "complex_raised", params := prm (stA 62), body := .stmts (bdy (stA 62)), scope := scp (stA 62), globals := 3, closure := [], defaults := .none, kwdefaults := .none, doc := .none, pyModule := sv "f77.complexes" 608, annotations := .none, code := .ref 362, closureTuple := .none, builtins := 0 } }
noncomputable def o364_73 (P : Params) : Obj := { cls := .type "tuple", data := .seq #[] 0 }
noncomputable def o365_73 (P : Params) : Obj := { cls := .none, data := .fields #[] }
noncomputable def o366_73 (P : Params) : Obj := { cls := .type "tuple", data := .seq #[sv "x" 711, sv "n" 712, sv "digits" 713, sv "top" 714, sv "found" 715] 0 }
noncomputable def o367_73 (P : Params) : Obj := { cls := .type "tuple", data := .seq #[] 0 }
noncomputable def o368_73 (P : Params) : Obj := { cls := .none, data := .func { name := Str.ofString "complex_power", qualname := Str.ofString "complex_power", params := prm (stA 63), body := .stmts (bdy (stA 63)), scope := scp (stA 63), globals := 0, closure := [], defaults := .none, kwdefaults := .none, doc := .none, pyModule := .none, annotations := .none, code := .none, closureTuple := .none, builtins := 0 } }
noncomputable def o369_73 (P : Params) : Obj := { cls := .type "code", data := .fields #[sv "complex_power" 708, sv "complex_power" 709, sv "/claim/cut.py" 710, .int 260 0, .int 4 0, .int 0 0, .int 0 0, .int 3 0, .ref 364, .bool true, .int 181 0, .ref 365, .none, .ref 366, .ref 367, .ref 368, .int 716 0, .int 260 0, sv "/claim/cut.py" 717] }
noncomputable def o370_73 (P : Params) : Obj := { cls := .type "function", data := .func { name := Str.ofString "complex_power", qualname := Str.ofString "complex_power", params := prm (stA 63), body := .stmts (bdy (stA 63)), scope := scp (stA 63), globals := 3, closure := [], defaults := .none, kwdefaults := .none, doc := .none, pyModule := sv "f77.complexes" 608, annotations := .none, code := .ref 369, closureTuple := .none, builtins := 0 } }
noncomputable def o371_73 (P : Params) : Obj := { cls := .type "tuple", data := .seq #[] 0 }
noncomputable def o372_73 (P : Params) : Obj := { cls := .none, data := .fields #[] }
noncomputable def o373_73 (P : Params) : Obj := { cls := .type "tuple", data := .seq #[sv "op" 722, sv "kind" 723, sv "x" 724, sv "y" 725, sv "limits" 726, sv "digits" 727, sv "top" 728] 0 }
noncomputable def o374_73 (P : Params) : Obj := { cls := .type "tuple", data := .seq #[] 0 }
noncomputable def o375_73 (P : Params) : Obj := { cls := .none, data := .func { name := Str.ofString "complex_binary", qualname := Str.ofString "complex_binary", params := prm (stA 64), body := .stmts (bdy (stA 64)), scope := scp (stA 64), globals := 0, closure := [], defaults := .none, kwdefaults := .none, doc := .none, pyModule := .none, annotations := .none, code := .none, closureTuple := .none, builtins := 0 } }
noncomputable def o376_73 (P : Params) : Obj := { cls := .type "code", data := .fields #[sv "complex_binary" 719, sv "complex_binary" 720, sv "/claim/cut.py" 721, .int 265 0, .int 5 0, .int 0 0, .int 0 0, .int 3 0, .ref 371, .bool true, .int 181 0, .ref 372, .none, .ref 373, .ref 374, .ref 375, .int 729 0, .int 265 0, sv "/claim/cut.py" 730] }
noncomputable def o377_73 (P : Params) : Obj := { cls := .type "function", data := .func { name := Str.ofString "complex_binary", qualname := Str.ofString "complex_binary", params := prm (stA 64), body := .stmts (bdy (stA 64)), scope := scp (stA 64), globals := 3, closure := [], defaults := .none, kwdefaults := .none, doc := .none, pyModule := sv "f77.complexes" 608, annotations := .none, code := .ref 376, closureTuple := .none, builtins := 0 } }
noncomputable def o378_73 (P : Params) : Obj := { cls := .type "tuple", data := .seq #[] 0 }
noncomputable def o379_73 (P : Params) : Obj := { cls := .none, data := .fields #[] }
noncomputable def o380_73 (P : Params) : Obj := { cls := .type "tuple", data := .seq #[sv "x" 737, sv "y" 738, sv "wide" 739] 0 }
noncomputable def o381_73 (P : Params) : Obj := { cls := .type "tuple", data := .seq #[] 0 }
noncomputable def o382_73 (P : Params) : Obj := { cls := .none, data := .func { name := Str.ofString "collate", qualname := Str.ofString "collate", params := prm (stA 66), body := .stmts (bdy (stA 66)), scope := scp (stA 66), globals := 0, closure := [], defaults := .none, kwdefaults := .none, doc := .none, pyModule := .none, annotations := .none, code := .none, closureTuple := .none, builtins := 0 } }
noncomputable def o383_73 (P : Params) : Obj := { cls := .type "code", data := .fields #[sv "collate" 734, sv "collate" 735, sv "/claim/cut.py" 736, .int 284 0, .int 2 0, .int 0 0, .int 0 0, .int 3 0, .ref 378, .bool true, .int 181 0, .ref 379, .none, .ref 380, .ref 381, .ref 382, .int 740 0, .int 284 0, sv "/claim/cut.py" 741] }
noncomputable def o384_73 (P : Params) : Obj := { cls := .type "function", data := .func { name := Str.ofString "collate", qualname := Str.ofString "collate", params := prm (stA 66), body := .stmts (bdy (stA 66)), scope := scp (stA 66), globals := 3, closure := [], defaults := .none, kwdefaults := .none, doc := .none, pyModule := sv "f77.operate" 732, annotations := .none, code := .ref 383, closureTuple := .none, builtins := 0 } }
noncomputable def o385_73 (P : Params) : Obj := { cls := .type "tuple", data := .seq #[] 0 }
noncomputable def o386_73 (P : Params) : Obj := { cls := .none, data := .fields #[] }
noncomputable def o387_73 (P : Params) : Obj := { cls := .type "tuple", data := .seq #[sv "op" 746, sv "kind" 747, sv "x" 748, sv "y" 749, sv "limits" 750] 0 }
noncomputable def o388_73 (P : Params) : Obj := { cls := .type "tuple", data := .seq #[] 0 }
noncomputable def o389_73 (P : Params) : Obj := { cls := .none, data := .func { name := Str.ofString "text_binary", qualname := Str.ofString "text_binary", params := prm (stA 67), body := .stmts (bdy (stA 67)), scope := scp (stA 67), globals := 0, closure := [], defaults := .none, kwdefaults := .none, doc := .none, pyModule := .none, annotations := .none, code := .none, closureTuple := .none, builtins := 0 } }
noncomputable def o390_73 (P : Params) : Obj := { cls := .type "code", data := .fields #[sv "text_binary" 743, sv "text_binary" 744, sv "/claim/cut.py" 745, .int 287 0, .int 5 0, .int 0 0, .int 0 0, .int 3 0, .ref 385, .bool true, .int 181 0, .ref 386, .none, .ref 387, .ref 388, .ref 389, .int 751 0, .int 287 0, sv "/claim/cut.py" 752] }
noncomputable def o391_73 (P : Params) : Obj := { cls := .type "function", data := .func { name := Str.ofString "text_binary", qualname := Str.ofString "text_binary", params := prm (stA 67), body := .stmts (bdy (stA 67)), scope := scp (stA 67), globals := 3, closure := [], defaults := .none, kwdefaults := .none, doc := .none, pyModule := sv "f77.operate" 732, annotations := .none, code := .ref 390, closureTuple := .none, builtins := 0 } }
noncomputable def o392_73 (P : Params) : Obj := { cls := .type "tuple", data := .seq #[] 0 }
noncomputable def o393_73 (P : Params) : Obj := { cls := .none, data := .fields #[] }
noncomputable def o394_73 (P : Params) : Obj := { cls := .type "tuple", data := .seq #[sv "op" 757, sv "kind" 758, sv "x" 759, sv "y" 760, sv "limits" 761] 0 }
noncomputable def o395_73 (P : Params) : Obj := { cls := .type "tuple", data := .seq #[] 0 }
noncomputable def o396_73 (P : Params) : Obj := { cls := .none, data := .func { name := Str.ofString "binary", qualname := Str.ofString "binary", params := prm (stA 68), body := .stmts (bdy (stA 68)), scope := scp (stA 68), globals := 0, closure := [], defaults := .none, kwdefaults := .none, doc := .none, pyModule := .none, annotations := .none, code := .none, closureTuple := .none, builtins := 0 } }
noncomputable def o397_73 (P : Params) : Obj := { cls := .type "code", data := .fields #[sv "binary" 754, sv "binary" 755, sv "/claim/cut.py" 756, .int 291 0, .int 5 0, .int 0 0, .int 0 0, .int 3 0, .ref 392, .bool true, .int 181 0, .ref 393, .none, .ref 394, .ref 395, .ref 396, .int 762 0, .int 291 0, sv "/claim/cut.py" 763] }
noncomputable def o398_73 (P : Params) : Obj := { cls := .type "function", data := .func { name := Str.ofString "binary", qualname := Str.ofString "binary", params := prm (stA 68), body := .stmts (bdy (stA 68)), scope := scp (stA 68), globals := 3, closure := [], defaults := .none, kwdefaults := .none, doc := .none, pyModule := sv "f77.operate" 732, annotations := .none, code := .ref 397, closureTuple := .none, builtins := 0 } }
noncomputable def o399_73 (P : Params) : Obj := { cls := .type "tuple", data := .seq #[] 0 }
noncomputable def o400_73 (P : Params) : Obj := { cls := .none, data := .fields #[] }
noncomputable def o401_73 (P : Params) : Obj := { cls := .type "tuple", data := .seq #[sv "op" 768, sv "kind" 769, sv "x" 770, sv "limits" 771] 0 }
noncomputable def o402_73 (P : Params) : Obj := { cls := .type "tuple", data := .seq #[] 0 }
noncomputable def o403_73 (P : Params) : Obj := { cls := .none, data := .func { name := Str.ofString "unary", qualname := Str.ofString "unary", params := prm (stA 69), body := .stmts (bdy (stA 69)), scope := scp (stA 69), globals := 0, closure := [], defaults := .none, kwdefaults := .none, doc := .none, pyModule := .none, annotations := .none, code := .none, closureTuple := .none, builtins := 0 } }
noncomputable def o404_73 (P : Params) : Obj := { cls := .type "code", data := .fields #[sv "unary" 765, sv "unary" 766, sv "/claim/cut.py" 767, .int 303 0, .int 4 0, .int 0 0, .int 0 0, .int 3 0, .ref 399, .bool true, .int 181 0, .ref 400, .none, .ref 401, .ref 402, .ref 403, .int 772 0, .int 303 0, sv "/claim/cut.py" 773] }
noncomputable def o405_73 (P : Params) : Obj := { cls := .type "function", data := .func { name := Str.ofString "unary", qualname := Str.ofString "unary", params := prm (stA 69), body := .stmts (bdy (stA 69)), scope := scp (stA 69), globals := 3, closure := [], defaults := .none, kwdefaults := .none, doc := .none, pyModule := sv "f77.operate" 732, annotations := .none, code := .ref 404, closureTuple := .none, builtins := 0 } }
noncomputable def o406_73 (P : Params) : Obj := { cls := .type "tuple", data := .seq #[] 0 }
noncomputable def o407_73 (P : Params) : Obj := { cls := .none, data := .fields #[] }
noncomputable def o408_73 (P : Params) : Obj := { cls := .type "tuple", data := .seq #[sv "value" 778, sv "of" 779, sv "to" 780, sv "limits" 781, sv "digits" 782] 0 }
noncomputable def o409_73 (P : Params) : Obj := { cls := .type "tuple", data := .seq #[] 0 }
noncomputable def o410_73 (P : Params) : Obj := { cls := .none, data := .func { name := Str.ofString "real_as", qualname := Str.ofString "real_as", params := prm (stA 70), body := .stmts (bdy (stA 70)), scope := scp (stA 70), globals := 0, closure := [], defaults := .none, kwdefaults := .none, doc := .none, pyModule := .none, annotations := .none, code := .none, closureTuple := .none, builtins := 0 } }
noncomputable def o411_73 (P : Params) : Obj := { cls := .type "code", data := .fields #[sv "real_as" 775, sv "real_as" 776, sv "/claim/cut.py" 777, .int 313 0, .int 4 0, .int 0 0, .int 0 0, .int 3 0, .ref 406, .bool true, .int 181 0, .ref 407, .none, .ref 408, .ref 409, .ref 410, .int 783 0, .int 313 0, sv "/claim/cut.py" 784] }
noncomputable def o412_73 (P : Params) : Obj := { cls := .type "function", data := .func { name := Str.ofString "real_as", qualname := Str.ofString "real_as", params := prm (stA 70), body := .stmts (bdy (stA 70)), scope := scp (stA 70), globals := 3, closure := [], defaults := .none, kwdefaults := .none, doc := .none, pyModule := sv "f77.operate" 732, annotations := .none, code := .ref 411, closureTuple := .none, builtins := 0 } }
noncomputable def o413_73 (P : Params) : Obj := { cls := .type "tuple", data := .seq #[] 0 }
noncomputable def o414_73 (P : Params) : Obj := { cls := .none, data := .fields #[] }
noncomputable def o415_73 (P : Params) : Obj := { cls := .type "tuple", data := .seq #[sv "value" 789, sv "of" 790, sv "to" 791, sv "limits" 792] 0 }
noncomputable def o416_73 (P : Params) : Obj := { cls := .type "tuple", data := .seq #[] 0 }
noncomputable def o417_73 (P : Params) : Obj := { cls := .none, data := .func { name := Str.ofString "convert", qualname := Str.ofString "convert", params := prm (stA 71), body := .stmts (bdy (stA 71)), scope := scp (stA 71), globals := 0, closure := [], defaults := .none, kwdefaults := .none, doc := .none, pyModule := .none, annotations := .none, code := .none, closureTuple := .none, builtins := 0 } }
noncomputable def o418_73 (P : Params) : Obj := { cls := .type "code", data := .fields #[sv "convert" 786, sv "convert" 787, sv "/claim/cut.py" 788, .int 320 0, .int 4 0, .int 0 0, .int 0 0, .int 3 0, .ref 413, .bool true, .int 181 0, .ref 414, .none, .ref 415, .ref 416, .ref 417, .int 793 0, .int 320 0, sv "/claim/cut.py" 794] }
noncomputable def o419_73 (P : Params) : Obj := { cls := .type "function", data := .func { name := Str.ofString "convert", qualname := Str.ofString "convert", params := prm (stA 71), body := .stmts (bdy (stA 71)), scope := scp (stA 71), globals := 3, closure := [], defaults := .none, kwdefaults := .none, doc := .none, pyModule := sv "f77.operate" 732, annotations := .none, code := .ref 418, closureTuple := .none, builtins := 0 } }
noncomputable def o3_76 (P : Params) : Obj := { cls := .type "dict", data := .dict #[en P "__name__" 165 (sv "f77.consts" 796), en P "__doc__" 166 (.none), en P "__package__" 167 (.none), en P "__loader__" 168 (.builtin "__main__.__loader__#opaque"), en P "__spec__" 169 (.none), en P "__annotations__" 170 (.ref 6), en P "__builtins__" 171 (.ref 4), en P "__file__" 173 (sv "/claim/cut.py" 172), en P "__cached__" 174 (.none), en P "F77Error" 217 (.ref 31), en P "CheckFault" 233 (.ref 44), en P "RunFault" 249 (.ref 56), en P "fit_int" 260 (.ref 65), en P "int_add" 269 (.ref 72), en P "int_sub" 278 (.ref 79), en P "int_mul" 287 (.ref 86), en P "cut_quotient" 296 (.ref 93), en P "int_div" 305 (.ref 100), en P "inverse_power" 313 (.ref 107), en P "int_power" 324 (.ref 114), en P "order_of" 332 (.ref 121), en P "holds" 340 (.ref 128), en P "int_binary" 351 (.ref 135), en P "logic_binary" 362 (.ref 142), en P "INTEGER" 366 (.int 0 365), en P "REAL" 368 (.int 1 367), en P "DOUBLE" 370 (.int 2 369), en P "COMPLEX" 372 (.int 3 371), en P "LOGICAL" 374 (.int 4 373), en P "CHARACTER" 376 (.int 5 375), en P "is_numeric" 383 (.ref 149), en P "higher_kind" 391 (.ref 156), en P "pad" 401 (.ref 163), en P "NOUGHT" 406 (.ref 164), en P "GUARD" 408 (.int 8 407), en P "EXACT_POWER" 410 (.int 64 409), en P "count_digits" 418 (.ref 171), en P "strip_zeros" 426 (.ref 178), en P "round_digits" 439 (.ref 185), en P "round_real" 450 (.ref 192), en P "exact_add" 459 (.ref 199), en P "exact_mul" 467 (.ref 206), en P "real_neg" 474 (.ref 213), en P "quotient" 488 (.ref 220), en P "real_add" 500 (.ref 227), en P "real_sub" 512 (.ref 234), en P "real_mul" 524 (.ref 241), en P "real_div" 536 (.ref 248), en P "real_compare" 545 (.ref 255), en P "real_of_int" 554 (.ref 262), en P "real_to_int" 564 (.ref 269), en P "raised" 574 (.ref 276), en P "real_power" 586 (.ref 283), en P "digits_of" 594 (.ref 290), en P "real_binary" 607 (.ref 297), en P "ONE" 614 (.ref 300), en P "EXACT_COMPLEX_POWER" 616 (.int 16 615), en P "round_parts" 625 (.ref 307), en P "complex_add" 635 (.ref 314), en P "complex_neg" 642 (.ref 321), en P "complex_sub" 652 (.ref 328), en P "exact_product" 661 (.ref 335), en P "complex_mul" 671 (.ref 342), en P "complex_div" 685 (.ref 349), en P "guarded_product" 696 (.ref 356), en P "complex_raised" 707 (.ref 363), en P "complex_power" 718 (.ref 370), en P "complex_binary" 731 (.ref 377), en P "collate" 742 (.ref 384), en P "text_binary" 753 (.ref 391), en P "binary" 764 (.ref 398), en P "unary" 774 (.ref 405), en P "real_as" 785 (.ref 412), en P "convert" 795 (.ref 419), en P "ARITHMETIC" 810 (.ref 420), en P "RELATIONS" 829 (.ref 421), en P "CONNECTIVES" 842 (.ref 422)] 77 }
noncomputable def o420_76 (P : Params) : Obj := { cls := .type "dict", data := .dict #[en P "+" 798 (sv "add" 799), en P "-" 800 (sv "sub" 801), en P "*" 802 (sv "mul" 803), en P "/" 804 (sv "div" 805)] 4 }
noncomputable def o421_76 (P : Params) : Obj := { cls := .type "dict", data := .dict #[en P ".EQ." 811 (sv "eq" 812), en P ".NE." 813 (sv "ne" 814), en P ".LT." 815 (sv "lt" 816), en P ".LE." 817 (sv "le" 818), en P ".GT." 819 (sv "gt" 820), en P ".GE." 821 (sv "ge" 822)] 6 }
noncomputable def o422_76 (P : Params) : Obj := { cls := .type "dict", data := .dict #[en P ".AND." 830 (sv "and" 831), en P ".OR." 832 (sv "or" 833), en P ".EQV." 834 (sv "eqv" 835), en P ".NEQV." 836 (sv "neqv" 837)] 4 }
noncomputable def o3_94 (P : Params) : Obj := { cls := .type "dict", data := .dict #[en P "__name__" 165 (sv "law_pq0359_01" 1003), en P "__doc__" 166 (.none), en P "__package__" 167 (.none), en P "__loader__" 168 (.builtin "__main__.__loader__#opaque"), en P "__spec__" 169 (.none), en P "__annotations__" 170 (.ref 6), en P "__builtins__" 171 (.ref 4), en P "__file__" 173 (sv "/claim/cut.py" 172), en P "__cached__" 174 (.none), en P "F77Error" 217 (.ref 31), en P "CheckFault" 233 (.ref 44), en P "RunFault" 249 (.ref 56), en P "fit_int" 260 (.ref 65), en P "int_add" 269 (.ref 72), en P "int_sub" 278 (.ref 79), en P "int_mul" 287 (.ref 86), en P "cut_quotient" 296 (.ref 93), en P "int_div" 305 (.ref 100), en P "inverse_power" 313 (.ref 107), en P "int_power" 324 (.ref 114), en P "order_of" 332 (.ref 121), en P "holds" 340 (.ref 128), en P "int_binary" 351 (.ref 135), en P "logic_binary" 362 (.ref 142), en P "INTEGER" 366 (.int 0 365), en P "REAL" 368 (.int 1 367), en P "DOUBLE" 370 (.int 2 369), en P "COMPLEX" 372 (.int 3 371), en P "LOGICAL" 374 (.int 4 373), en P "CHARACTER" 376 (.int 5 375), en P "is_numeric" 383 (.ref 149), en P "higher_kind" 391 (.ref 156), en P "pad" 401 (.ref 163), en P "NOUGHT" 406 (.ref 164), en P "GUARD" 408 (.int 8 407), en P "EXACT_POWER" 410 (.int 64 409), en P "count_digits" 418 (.ref 171), en P "strip_zeros" 426 (.ref 178), en P "round_digits" 439 (.ref 185), en P "round_real" 450 (.ref 192), en P "exact_add" 459 (.ref 199), en P "exact_mul" 467 (.ref 206), en P "real_neg" 474 (.ref 213), en P "quotient" 488 (.ref 220), en P "real_add" 500 (.ref 227), en P "real_sub" 512 (.ref 234), en P "real_mul" 524 (.ref 241), en P "real_div" 536 (.ref 248), en P "real_compare" 545 (.ref 255), en P "real_of_int" 554 (.ref 262), en P "real_to_int" 564 (.ref 269), en P "raised" 574 (.ref 276), en P "real_power" 586 (.ref 283), en P "digits_of" 594 (.ref 290), en P "real_binary" 607 (.ref 297), en P "ONE" 614 (.ref 300), en P "EXACT_COMPLEX_POWER" 616 (.int 16 615), en P "round_parts" 625 (.ref 307), en P "complex_add" 635 (.ref 314), en P "complex_neg" 642 (.ref 321), en P "complex_sub" 652 (.ref 328), en P "exact_product" 661 (.ref 335), en P "complex_mul" 671 (.ref 342), en P "complex_div" 685 (.ref 349), en P "guarded_product" 696 (.ref 356), en P "complex_raised" 707 (.ref 363), en P "complex_power" 718 (.ref 370), en P "complex_binary" 731 (.ref 377), en P "collate" 742 (.ref 384), en P "text_binary" 753 (.ref 391), en P "binary" 764 (.ref 398), en P "unary" 774 (.ref 405), en P "real_as" 785 (.ref 412), en P "convert" 795 (.ref 419), en P "ARITHMETIC" 810 (.ref 420), en P "RELATIONS" 829 (.ref 421), en P "CONNECTIVES" 842 (.ref 422), en P "constant_kind" 850 (.ref 429), en P "part_value" 858 (.ref 436), en P "constant_value" 867 (.ref 443), en P "eval_const" 877 (.ref 450), en P "const_of" 886 (.ref 457), en P "const_sign" 897 (.ref 464), en P "check_text" 905 (.ref 471), en P "const_pair" 916 (.ref 478), en P "as_kind" 925 (.ref 485), en P "const_relation" 936 (.ref 492), en P "named_const" 949 (.ref 499), en P "Limits" 1002 (.ref 517), en P "_law_names" 1006 (sv "ABCDEFG" 1005), en P "_law_pull" 1015 (.ref 528), en P "_law_tree" 1033 (.ref 535), en P "law" 1051 (.ref 542)] 93 }
noncomputable def o12_94 (P : Params) : Obj := { cls := .none, data := .fields #[.int 2 0, .int 0 0, .ref 20, .int 7 0, .int 0 0, .ref 40, .int 9 0, .int 0 0, .ref 52, .int 12 0, .int 0 0, .ref 64, .int 17 0, .int 0 0, .ref 71, .int 19 0, .int 0 0, .ref 78, .int 21 0, .int 0 0, .ref 85, .int 23 0, .int 0 0, .ref 92, .int 26 0, .int 0 0, .ref 99, .int 30 0, .int 0 0, .ref 106, .int 36 0, .int 0 0, .ref 113, .int 45 0, .int 0 0, .ref 120, .int 49 0, .int 0 0, .ref 127, .int 63 0, .int 0 0, .ref 134, .int 75 0, .int 0 0, .ref 141, .int 92 0, .int 0 0, .ref 148, .int 94 0, .int 0 0, .ref 155, .int 101 0, .int 0 0, .ref 162, .int 107 0, .int 0 0, .ref 170, .int 117 0, .int 0 0, .ref 177, .int 124 0, .int 0 0, .ref 184, .int 134 0, .int 0 0, .ref 191, .int 142 0, .int 0 0, .ref 198, .int 149 0, .int 0 0, .ref 205, .int 151 0, .int 0 0, .ref 212, .int 153 0, .int 0 0, .ref 219, .int 160 0, .int 0 0, .ref 226, .int 163 0, .int 0 0, .ref 233, .int 166 0, .int 0 0, .ref 240, .int 169 0, .int 0 0, .ref 247, .int 174 0, .int 0 0, .ref 254, .int 179 0, .int 0 0, .ref 261, .int 181 0, .int 0 0, .ref 268, .int 187 0, .int 0 0, .ref 275, .int 197 0, .int 0 0, .ref 282, .int 204 0, .int 0 0, .ref 289, .int 206 0, .int 0 0, .ref 296, .int 223 0, .int 0 0, .ref 306, .int 225 0, .int 0 0, .ref 313, .int 227 0, .int 0 0, .ref 320, .int 229 0, .int 0 0, .ref 327, .int 231 0, .int 0 0, .ref 334, .int 234 0, .int 0 0, .ref 341, .int 236 0, .int 0 0, .ref 348, .int 244 0, .int 0 0, .ref 355, .int 248 0, .int 0 0, .ref 362, .int 260 0, .int 0 0, .ref 369, .int 265 0, .int 0 0, .ref 376, .int 284 0, .int 0 0, .ref 383, .int 287 0, .int 0 0, .ref 390, .int 291 0, .int 0 0, .ref 397, .int 303 0, .int 0 0, .ref 404, .int 313 0, .int 0 0, .ref 411, .int 320 0, .int 0 0, .ref 418, .int 336 0, .int 0 0, .ref 428, .int 339 0, .int 0 0, .ref 435, .int 343 0, .int 0 0, .ref 442, .int 352 0, .int 0 0, .ref 449, .int 357 0, .int 0 0, .ref 456, .int 371 0, .int 0 0, .ref 463, .int 382 0, .int 0 0, .ref 470, .int 385 0, .int 0 0, .ref 477, .int 403 0, .int 0 0, .ref 484, .int 405 0, .int 0 0, .ref 491, .int 410 0, .int 0 0, .ref 498, .int 424 0, .int 0 0, .ref 505, .int 437 0, .int 0 0, .ref 527, .int 441 0, .int 0 0, .ref 534, .int 453 0, .int 0 0, .ref 541] }
noncomputable def o423_94 (P : Params) : Obj := { cls := .type "tuple", data := .seq #[] 0 }
noncomputable def o424_94 (P : Params) : Obj := { cls := .none, data := .fields #[] }
noncomputable def o425_94 (P : Params) : Obj := { cls := .type "tuple", data := .seq #[sv "tree" 846, sv "kinds" 847] 0 }
noncomputable def o426_94 (P : Params) : Obj := { cls := .type "tuple", data := .seq #[] 0 }
noncomputable def o427_94 (P : Params) : Obj := { cls := .none, data := .func { name := Str.ofString "constant_kind", qualname := Str.ofString "constant_kind", params := prm (stA 76), body := .stmts (bdy (stA 76)), scope := scp (stA 76), globals := 0, closure := [], defaults := .none, kwdefaults := .none, doc := .none, pyModule := .none, annotations := .none, code := .none, closureTuple := .none, builtins := 0 } }
noncomputable def o428_94 (P : Params) : Obj := { cls := .type "code", data := .fields #[sv "constant_kind" 843, sv "constant_kind" 844, sv "/claim/cut.py" 845, .int 336 0, .int 1 0, .int 0 0, .int 0 0, .int 3 0, .ref 423, .bool true, .int 181 0, .ref 424, .none, .ref 425, .ref 426, .ref 427, .int 848 0, .int 336 0, sv "/claim/cut.py" 849] }
noncomputable def o429_94 (P : Params) : Obj := { cls := .type "function", data := .func { name := Str.ofString "constant_kind", qualname := Str.ofString "constant_kind", params := prm (stA 76), body := .stmts (bdy (stA 76)), scope := scp (stA 76), globals := 3, closure := [], defaults := .none, kwdefaults := .none, doc := .none, pyModule := sv "f77.consts" 796, annotations := .none, code := .ref 428, closureTuple := .none, builtins := 0 } }
noncomputable def o430_94 (P : Params) : Obj := { cls := .type "tuple", data := .seq #[] 0 }
noncomputable def o431_94 (P : Params) : Obj := { cls := .none, data := .fields #[] }
noncomputable def o432_94 (P : Params) : Obj := { cls := .type "tuple", data := .seq #[sv "tree" 854, sv "limits" 855] 0 }
noncomputable def o433_94 (P : Params) : Obj := { cls := .type "tuple", data := .seq #[] 0 }
noncomputable def o434_94 (P : Params) : Obj := { cls := .none, data := .func { name := Str.ofString "part_value", qualname := Str.ofString "part_value", params := prm (stA 77), body := .stmts (bdy (stA 77)), scope := scp (stA 77), globals := 0, closure := [], defaults := .none, kwdefaults := .none, doc := .none, pyModule := .none, annotations := .none, code := .none, closureTuple := .none, builtins := 0 } }
noncomputable def o435_94 (P : Params) : Obj := { cls := .type "code", data := .fields #[sv "part_value" 851, sv "part_value" 852, sv "/claim/cut.py" 853, .int 339 0, .int 2 0, .int 0 0, .int 0 0, .int 3 0, .ref 430, .bool true, .int 181 0, .ref 431, .none, .ref 432, .ref 433, .ref 434, .int 856 0, .int 339 0, sv "/claim/cut.py" 857] }
noncomputable def o436_94 (P : Params) : Obj := { cls := .type "function", data := .func { name := Str.ofString "part_value", qualname := Str.ofString "part_value", params := prm (stA 77), body := .stmts (bdy (stA 77)), scope := scp (stA 77), globals := 3, closure := [], defaults := .none, kwdefaults := .none, doc := .none, pyModule := sv "f77.consts" 796, annotations := .none, code := .ref 435, closureTuple := .none, builtins := 0 } }
noncomputable def o437_94 (P : Params) : Obj := { cls := .type "tuple", data := .seq #[] 0 }
noncomputable def o438_94 (P : Params) : Obj := { cls := .none, data := .fields #[] }
noncomputable def o439_94 (P : Params) : Obj := { cls := .type "tuple", data := .seq #[sv "tree" 862, sv "limits" 863, sv "kind" 864] 0 }
noncomputable def o440_94 (P : Params) : Obj := { cls := .type "tuple", data := .seq #[] 0 }
noncomputable def o441_94 (P : Params) : Obj := { cls := .none, data := .func { name := Str.ofString "constant_value", qualname := Str.ofString "constant_value", params := prm (stA 78), body := .stmts (bdy (stA 78)), scope := scp (stA 78), globals := 0, closure := [], defaults := .none, kwdefaults := .none, doc := .none, pyModule := .none, annotations := .none, code := .none, closureTuple := .none, builtins := 0 } }
noncomputable def o442_94 (P : Params) : Obj := { cls := .type "code", data := .fields #[sv "constant_value" 859, sv "constant_value" 860, sv "/claim/cut.py" 861, .int 343 0, .int 2 0, .int 0 0, .int 0 0, .int 3 0, .ref 437, .bool true, .int 181 0, .ref 438, .none, .ref 439, .ref 440, .ref 441, .int 865 0, .int 343 0, sv "/claim/cut.py" 866] }
noncomputable def o443_94 (P : Params) : Obj := { cls := .type "function", data := .func { name := Str.ofString "constant_value", qualname := Str.ofString "constant_value", params := prm (stA 78), body := .stmts (bdy (stA 78)), scope := scp (stA 78), globals := 3, closure := [], defaults := .none, kwdefaults := .none, doc := .none, pyModule := sv "f77.consts" 796, annotations := .none, code := .ref 442, closureTuple := .none, builtins := 0 } }
noncomputable def o444_94 (P : Params) : Obj := { cls := .type "tuple", data := .seq #[] 0 }
noncomputable def o445_94 (P : Params) : Obj := { cls := .none, data := .fields #[] }
noncomputable def o446_94 (P : Params) : Obj := { cls := .type "tuple", data := .seq #[sv "tree" 871, sv "values" 872, sv "limits" 873, sv "fault" 874] 0 }
noncomputable def o447_94 (P : Params) : Obj := { cls := .type "tuple", data := .seq #[] 0 }
noncomputable def o448_94 (P : Params) : Obj := { cls := .none, data := .func { name := Str.ofString "eval_const", qualname := Str.ofString "eval_const", params := prm (stA 79), body := .stmts (bdy (stA 79)), scope := scp (stA 79), globals := 0, closure := [], defaults := .none, kwdefaults := .none, doc := .none, pyModule := .none, annotations := .none, code := .none, closureTuple := .none, builtins := 0 } }
noncomputable def o449_94 (P : Params) : Obj := { cls := .type "code", data := .fields #[sv "eval_const" 868, sv "eval_const" 869, sv "/claim/cut.py" 870, .int 352 0, .int 3 0, .int 0 0, .int 0 0, .int 3 0, .ref 444, .bool true, .int 181 0, .ref 445, .none, .ref 446, .ref 447, .ref 448, .int 875 0, .int 352 0, sv "/claim/cut.py" 876] }
noncomputable def o450_94 (P : Params) : Obj := { cls := .type "function", data := .func { name := Str.ofString "eval_const", qualname := Str.ofString "eval_const", params := prm (stA 79), body := .stmts (bdy (stA 79)), scope := scp (stA 79), globals := 3, closure := [], defaults := .none, kwdefaults := .none, doc := .none, pyModule := sv "f77.consts" 796, annotations := .none, code := .ref 449, closureTuple := .none, builtins := 0 } }
noncomputable def o451_94 (P : Params) : Obj := { cls := .type "tuple", data := .seq #[] 0 }
noncomputable def o452_94 (P : Params) : Obj := { cls := .none, data := .fields #[] }
noncomputable def o453_94 (P : Params) : Obj := { cls := .type "tuple", data := .seq #[sv "tree" 881, sv "values" 882, sv "limits" 883] 0 }
noncomputable def o454_94 (P : Params) : Obj := { cls := .type "tuple", data := .seq #[] 0 }
noncomputable def o455_94 (P : Params) : Obj := { cls := .none, data := .func { name := Str.ofString "const_of", qualname := Str.ofString "const_of", params := prm (stA 80), body := .stmts (bdy (stA 80)), scope := scp (stA 80), globals := 0, closure := [], defaults := .none, kwdefaults := .none, doc := .none, pyModule := .none, annotations := .none, code := .none, closureTuple := .none, builtins := 0 } }
noncomputable def o456_94 (P : Params) : Obj := { cls := .type "code", data := .fields #[sv "const_of" 878, sv "const_of" 879, sv "/claim/cut.py" 880, .int 357 0, .int 3 0, .int 0 0, .int 0 0, .int 3 0, .ref 451, .bool true, .int 181 0, .ref 452, .none, .ref 453, .ref 454, .ref 455, .int 884 0, .int 357 0, sv "/claim/cut.py" 885] }
noncomputable def o457_94 (P : Params) : Obj := { cls := .type "function", data := .func { name := Str.ofString "const_of", qualname := Str.ofString "const_of", params := prm (stA 80), body := .stmts (bdy (stA 80)), scope := scp (stA 80), globals := 3, closure := [], defaults := .none, kwdefaults := .none, doc := .none, pyModule := sv "f77.consts" 796, annotations := .none, code := .ref 456, closureTuple := .none, builtins := 0 } }
noncomputable def o458_94 (P : Params) : Obj := { cls := .type "tuple", data := .seq #[] 0 }
noncomputable def o459_94 (P : Params) : Obj := { cls := .none, data := .fields #[] }
noncomputable def o460_94 (P : Params) : Obj := { cls := .type "tuple", data := .seq #[sv "op" 890, sv "told" 891, sv "limits" 892, sv "kind" 893, sv "value" 894] 0 }
noncomputable def o461_94 (P : Params) : Obj := { cls := .type "tuple", data := .seq #[] 0 }
noncomputable def o462_94 (P : Params) : Obj := { cls := .none, data := .func { name := Str.ofString "const_sign", qualname := Str.ofString "const_sign", params := prm (stA 81), body := .stmts (bdy (stA 81)), scope := scp (stA 81), globals := 0, closure := [], defaults := .none, kwdefaults := .none, doc := .none, pyModule := .none, annotations := .none, code := .none, closureTuple := .none, builtins := 0 } }
noncomputable def o463_94 (P : Params) : Obj := { cls := .type "code", data := .fields #[sv "const_sign" 887, sv "const_sign" 888, sv "/claim/cut.py" 889, .int 371 0, .int 3 0, .int 0 0, .int 0 0, .int 3 0, .ref 458, .bool true, .int 181 0, .ref 459, .none, .ref 460, .ref 461, .ref 462, .int 895 0, .int 371 0, sv "/claim/cut.py" 896] }
noncomputable def o464_94 (P : Params) : Obj := { cls := .type "function", data := .func { name := Str.ofString "const_sign", qualname := Str.ofString "const_sign", params := prm (stA 81), body := .stmts (bdy (stA 81)), scope := scp (stA 81), globals := 3, closure := [], defaults := .none, kwdefaults := .none, doc := .none, pyModule := sv "f77.consts" 796, annotations := .none, code := .ref 463, closureTuple := .none, builtins := 0 } }
noncomputable def o465_94 (P : Params) : Obj := { cls := .type "tuple", data := .seq #[] 0 }
noncomputable def o466_94 (P : Params) : Obj := { cls := .none, data := .fields #[] }
noncomputable def o467_94 (P : Params) : Obj := { cls := .type "tuple", data := .seq #[sv "length" 901, sv "limits" 902] 0 }
noncomputable def o468_94 (P : Params) : Obj := { cls := .type "tuple", data := .seq #[] 0 }
noncomputable def o469_94 (P : Params) : Obj := { cls := .none, data := .func { name := Str.ofString "check_text", qualname := Str.ofString "check_text", params := prm (stA 82), body := .stmts (bdy (stA 82)), scope := scp (stA 82), globals := 0, closure := [], defaults := .none, kwdefaults := .none, doc := .none, pyModule := .none, annotations := .none, code := .none, closureTuple := .none, builtins := 0 } }
noncomputable def o470_94 (P : Params) : Obj := { cls := .type "code", data := .fields #[sv "check_text" 898, sv "check_text" 899, sv "/claim/cut.py" 900, .int 382 0, .int 2 0, .int 0 0, .int 0 0, .int 3 0, .ref 465, .bool true, .int 181 0, .ref 466, .none, .ref 467, .ref 468, .ref 469, .int 903 0, .int 382 0, sv "/claim/cut.py" 904] }
noncomputable def o471_94 (P : Params) : Obj := { cls := .type "function", data := .func { name := Str.ofString "check_text", qualname := Str.ofString "check_text", params := prm (stA 82), body := .stmts (bdy (stA 82)), scope := scp (stA 82), globals := 3, closure := [], defaults := .none, kwdefaults := .none, doc := .none, pyModule := sv "f77.consts" 796, annotations := .none, code := .ref 470, closureTuple := .none, builtins := 0 } }
noncomputable def o472_94 (P : Params) : Obj := { cls := .type "tuple", data := .seq #[] 0 }
noncomputable def o473_94 (P : Params) : Obj := { cls := .none, data := .fields #[] }
noncomputable def o474_94 (P : Params) : Obj := { cls := .type "tuple", data := .seq #[sv "op" 909, sv "left" 910, sv "right" 911, sv "limits" 912, sv "kind" 913] 0 }
noncomputable def o475_94 (P : Params) : Obj := { cls := .type "tuple", data := .seq #[] 0 }
noncomputable def o476_94 (P : Params) : Obj := { cls := .none, data := .func { name := Str.ofString "const_pair", qualname := Str.ofString "const_pair", params := prm (stA 83), body := .stmts (bdy (stA 83)), scope := scp (stA 83), globals := 0, closure := [], defaults := .none, kwdefaults := .none, doc := .none, pyModule := .none, annotations := .none, code := .none, closureTuple := .none, builtins := 0 } }
noncomputable def o477_94 (P : Params) : Obj := { cls := .type "code", data := .fields #[sv "const_pair" 906, sv "const_pair" 907, sv "/claim/cut.py" 908, .int 385 0, .int 4 0, .int 0 0, .int 0 0, .int 3 0, .ref 472, .bool true, .int 181 0, .ref 473, .none, .ref 474, .ref 475, .ref 476, .int 914 0, .int 385 0, sv "/claim/cut.py" 915] }
noncomputable def o478_94 (P : Params) : Obj := { cls := .type "function", data := .func { name := Str.ofString "const_pair", qualname := Str.ofString "const_pair", params := prm (stA 83), body := .stmts (bdy (stA 83)), scope := scp (stA 83), globals := 3, closure := [], defaults := .none, kwdefaults := .none, doc := .none, pyModule := sv "f77.consts" 796, annotations := .none, code := .ref 477, closureTuple := .none, builtins := 0 } }
noncomputable def o479_94 (P : Params) : Obj := { cls := .type "tuple", data := .seq #[] 0 }
noncomputable def o480_94 (P : Params) : Obj := { cls := .none, data := .fields #[] }
noncomputable def o481_94 (P : Params) : Obj := { cls := .type "tuple", data := .seq #[sv "told" 920, sv "kind" 921, sv "limits" 922] 0 }
noncomputable def o482_94 (P : Params) : Obj := { cls := .type "tuple", data := .seq #[] 0 }
noncomputable def o483_94 (P : Params) : Obj := { cls := .none, data := .func { name := Str.ofString "as_kind", qualname := Str.ofString "as_kind", params := prm (stA 84), body := .stmts (bdy (stA 84)), scope := scp (stA 84), globals := 0, closure := [], defaults := .none, kwdefaults := .none, doc := .none, pyModule := .none, annotations := .none, code := .none, closureTuple := .none, builtins := 0 } }
noncomputable def o484_94 (P : Params) : Obj := { cls := .type "code", data := .fields #[sv "as_kind" 917, sv "as_kind" 918, sv "/claim/cut.py" 919, .int 403 0, .int 3 0, .int 0 0, .int 0 0, .int 3 0, .ref 479, .bool true, .int 181 0, .ref 480, .none, .ref 481, .ref 482, .ref 483, .int 923 0, .int 403 0, sv "/claim/cut.py" 924] }
noncomputable def o485_94 (P : Params) : Obj := { cls := .type "function", data := .func { name := Str.ofString "as_kind", qualname := Str.ofString "as_kind", params := prm (stA 84), body := .stmts (bdy (stA 84)), scope := scp (stA 84), globals := 3, closure := [], defaults := .none, kwdefaults := .none, doc := .none, pyModule := sv "f77.consts" 796, annotations := .none, code := .ref 484, closureTuple := .none, builtins := 0 } }
noncomputable def o486_94 (P : Params) : Obj := { cls := .type "tuple", data := .seq #[] 0 }
noncomputable def o487_94 (P : Params) : Obj := { cls := .none, data := .fields #[] }
noncomputable def o488_94 (P : Params) : Obj := { cls := .type "tuple", data := .seq #[sv "name" 929, sv "left" 930, sv "right" 931, sv "limits" 932, sv "kind" 933] 0 }
noncomputable def o489_94 (P : Params) : Obj := { cls := .type "tuple", data := .seq #[] 0 }
noncomputable def o490_94 (P : Params) : Obj := { cls := .none, data := .func { name := Str.ofString "const_relation", qualname := Str.ofString "const_relation", params := prm (stA 85), body := .stmts (bdy (stA 85)), scope := scp (stA 85), globals := 0, closure := [], defaults := .none, kwdefaults := .none, doc := .none, pyModule := .none, annotations := .none, code := .none, closureTuple := .none, builtins := 0 } }
noncomputable def o491_94 (P : Params) : Obj := { cls := .type "code", data := .fields #[sv "const_relation" 926, sv "const_relation" 927, sv "/claim/cut.py" 928, .int 405 0, .int 4 0, .int 0 0, .int 0 0, .int 3 0, .ref 486, .bool true, .int 181 0, .ref 487, .none, .ref 488, .ref 489, .ref 490, .int 934 0, .int 405 0, sv "/claim/cut.py" 935] }
noncomputable def o492_94 (P : Params) : Obj := { cls := .type "function", data := .func { name := Str.ofString "const_relation", qualname := Str.ofString "const_relation", params := prm (stA 85), body := .stmts (bdy (stA 85)), scope := scp (stA 85), globals := 3, closure := [], defaults := .none, kwdefaults := .none, doc := .none, pyModule := sv "f77.consts" 796, annotations := .none, code := .ref 491, closureTuple := .none, builtins := 0 } }
noncomputable def o493_94 (P : Params) : Obj := { cls := .type "tuple", data := .seq #[] 0 }
noncomputable def o494_94 (P : Params) : Obj := { cls := .none, data := .fields #[] }
noncomputable def o495_94 (P : Params) : Obj := { cls := .type "tuple", data := .seq #[sv "tree" 940, sv "kind" 941, sv "length" 942, sv "values" 943, sv "limits" 944, sv "told" 945, sv "fault" 946] 0 }
noncomputable def o496_94 (P : Params) : Obj := { cls := .type "tuple", data := .seq #[] 0 }
noncomputable def o497_94 (P : Params) : Obj := { cls := .none, data := .func { name := Str.ofString "named_const", qualname := Str.ofString "named_const", params := prm (stA 86), body := .stmts (bdy (stA 86)), scope := scp (stA 86), globals := 0, closure := [], defaults := .none, kwdefaults := .none, doc := .none, pyModule := .none, annotations := .none, code := .none, closureTuple := .none, builtins := 0 } }
noncomputable def o498_94 (P : Params) : Obj := { cls := .type "code", data := .fields #[sv "named_const" 937, sv "named_const" 938, sv "/claim/cut.py" 939, .int 410 0, .int 5 0, .int 0 0, .int 0 0, .int 3 0, .ref 493, .bool true, .int 181 0, .ref 494, .none, .ref 495, .ref 496, .ref 497, .int 947 0, .int 410 0, sv "/claim/cut.py" 948] }
noncomputable def o499_94 (P : Params) : Obj := { cls := .type "function", data := .func { name := Str.ofString "named_const", qualname := Str.ofString "named_const", params := prm (stA 86), body := .stmts (bdy (stA 86)), scope := scp (stA 86), globals := 3, closure := [], defaults := .none, kwdefaults := .none, doc := .none, pyModule := sv "f77.consts" 796, annotations := .none, code := .ref 498, closureTuple := .none, builtins := 0 } }
noncomputable def o500_94 (P : Params) : Obj := { cls := .type "tuple", data := .seq #[] 0 }
noncomputable def o501_94 (P : Params) : Obj := { cls := .type "builtin_function_or_method", data := .fields #[.builtin "type.__prepare__", .type "type"] }
noncomputable def o502_94 (P : Params) : Obj := { cls := .type "dict", data := .dict #[en P "__module__" 959 (sv "f77.limits" 950), en P "__qualname__" 961 (sv "Limits" 960), en P "__firstlineno__" 963 (.int 424 962), en P "__init__" 986 (.ref 514), en P "__static_attributes__" 995 (.ref 515)] 5 }
noncomputable def o503_94 (P : Params) : Obj := { cls := .type "tuple", data := .seq #[] 0 }
noncomputable def o504_94 (P : Params) : Obj := { cls := .none, data := .fields #[.int 426 0, .int 4 0, .ref 513] }
noncomputable def o505_94 (P : Params) : Obj := { cls := .type "code", data := .fields #[sv "Limits" 954, sv "Limits" 955, sv "/claim/cut.py" 956, .int 424 0, .int 0 0, .int 0 0, .int 0 0, .int 0 0, .ref 503, .bool false, .int 181 0, .ref 504, .none, .none, .none, .none, .int 957 0, .int 424 0, sv "/claim/cut.py" 958] }
noncomputable def o506_94 (P : Params) : Obj := { cls := .type "frame", data := .plain, slots := #[.some (.ref 505), .some (.ref 3), .some (.ref 502), .none, .some (sv "f77.limits" 950), .none, .some (.ref 0)] }
noncomputable def o507_94 (P : Params) : Obj := { cls := .type "tuple", data := .seq #[.int 32 964, .int 7 965, .int 15 966, .int 38 967, .int 1000000 968, .int 19 969, .int 72 970, .int 40 971] 0 }
noncomputable def o508_94 (P : Params) : Obj := { cls := .type "tuple", data := .seq #[] 0 }
noncomputable def o509_94 (P : Params) : Obj := { cls := .none, data := .fields #[] }
noncomputable def o510_94 (P : Params) : Obj := { cls := .type "tuple", data := .seq #[sv "self" 975, sv "width" 976, sv "real_digits" 977, sv "double_digits" 978, sv "top_exponent" 979, sv "steps" 980, sv "continuations" 981, sv "columns" 982, sv "depth" 983] 0 }
noncomputable def o511_94 (P : Params) : Obj := { cls := .type "tuple", data := .seq #[] 0 }
noncomputable def o512_94 (P : Params) : Obj := { cls := .none, data := .func { name := Str.ofString "__init__", qualname := Str.ofString "Limits.__init__", params := prm (inC 0 (stA 88)), body := .stmts (bdy (inC 0 (stA 88))), scope := scp (inC 0 (stA 88)), globals := 0, closure := [], defaults := .none, kwdefaults := .none, doc := .none, pyModule := .none, annotations := .none, code := .none, closureTuple := .none, builtins := 0 } }
noncomputable def o513_94 (P : Params) : Obj := { cls := .type "code", data := .fields #[sv "__init__" 972, sv "Limits.__init__" 973, sv "/claim/cut.py" 974, .int 426 0, .int 9 0, .int 0 0, .int 0 0, .int 3 0, .ref 508, .bool true, .int 181 0, .ref 509, .none, .ref 510, .ref 511, .ref 512, .int 984 0, .int 426 0, sv "/claim/cut.py" 985] }
noncomputable def o514_94 (P : Params) : Obj := { cls := .type "function", data := .func { name := Str.ofString "__init__", qualname := Str.ofString "Limits.__init__", params := prm (inC 0 (stA 88)), body := .stmts (bdy (inC 0 (stA 88))), scope := scp (inC 0 (stA 88)), globals := 3, closure := [], defaults := .ref 507, kwdefaults := .none, doc := .none, pyModule := sv "f77.limits" 950, annotations := .none, code := .ref 513, closureTuple := .none, builtins := 0 } }
noncomputable def o515_94 (P : Params) : Obj := { cls := .type "tuple", data := .seq #[sv "columns" 987, sv "continuations" 988, sv "depth" 989, sv "double_digits" 990, sv "real_digits" 991, sv "steps" 992, sv "top_exponent" 993, sv "width" 994] 0 }
noncomputable def o516_94 (P : Params) : Obj := { cls := .type "dict", data := .dict #[en P "__module__" 959 (sv "f77.limits" 950), en P "__firstlineno__" 963 (.int 424 962), en P "__init__" 986 (.ref 514), en P "__static_attributes__" 995 (.ref 515), en P "__dict__" 997 (.ref 518), en P "__weakref__" 999 (.ref 519), en P "__doc__" 1000 (.none)] 4 }
noncomputable def o517_94 (P : Params) : Obj := { cls := .type "type", data := .cls { name := Str.ofString "Limits", bases := [.type "object"], mro := [.ref 517, .type "object"], ns := 516, qualname := Str.ofString "Limits", hasDict := true, slotNames := [], subclasses := [], abstract := false, collection := .none, hasDel := false }, slots := #[.none, .none, .some (sv "Limits" 952), .some (sv "Limits" 960), .some (.builtin "object.__new__"), .some (.bool true)] }
noncomputable def o518_94 (P : Params) : Obj := { cls := .type "getset_descriptor", data := .fields #[sv "__dict__" 996, .ref 517, .builtin "function.__dict__", .builtin "function.__dict__#set"] }
noncomputable def o519_94 (P : Params) : Obj := { cls := .type "getset_descriptor", data := .fields #[sv "__weakref__" 998, .ref 517, .builtin "ExceptionGroup.__weakref__", .none] }
noncomputable def o520_94 (P : Params) : Obj := { cls := .type "super", data := .fields #[.ref 517, .ref 517, .ref 517] }
noncomputable def o521_94 (P : Params) : Obj := { cls := .type "builtin_function_or_method", data := .fields #[.builtin "object.__init_subclass__", .ref 517] }
noncomputable def o522_94 (P : Params) : Obj := { cls := .type "tuple", data := .seq #[] 0 }
noncomputable def o523_94 (P : Params) : Obj := { cls := .none, data := .fields #[] }
noncomputable def o524_94 (P : Params) : Obj := { cls := .type "tuple", data := .seq #[sv "cells" 1010, sv "many" 1011, sv "at" 1012] 0 }
noncomputable def o525_94 (P : Params) : Obj := { cls := .type "tuple", data := .seq #[] 0 }
noncomputable def o526_94 (P : Params) : Obj := { cls := .none, data := .func { name := Str.ofString "_law_pull", qualname := Str.ofString "_law_pull", params := prm (stA 91), body := .stmts (bdy (stA 91)), scope := scp (stA 91), globals := 0, closure := [], defaults := .none, kwdefaults := .none, doc := .none, pyModule := .none, annotations := .none, code := .none, closureTuple := .none, builtins := 0 } }
noncomputable def o527_94 (P : Params) : Obj := { cls := .type "code", data := .fields #[sv "_law_pull" 1007, sv "_law_pull" 1008, sv "/claim/cut.py" 1009, .int 437 0, .int 2 0, .int 0 0, .int 0 0, .int 3 0, .ref 522, .bool true, .int 181 0, .ref 523, .none, .ref 524, .ref 525, .ref 526, .int 1013 0, .int 437 0, sv "/claim/cut.py" 1014] }
noncomputable def o528_94 (P : Params) : Obj := { cls := .type "function", data := .func { name := Str.ofString "_law_pull", qualname := Str.ofString "_law_pull", params := prm (stA 91), body := .stmts (bdy (stA 91)), scope := scp (stA 91), globals := 3, closure := [], defaults := .none, kwdefaults := .none, doc := .none, pyModule := sv "law_pq0359_01" 1003, annotations := .none, code := .ref 527, closureTuple := .none, builtins := 0 } }
noncomputable def o529_94 (P : Params) : Obj := { cls := .type "tuple", data := .seq #[] 0 }
noncomputable def o530_94 (P : Params) : Obj := { cls := .none, data := .fields #[] }
noncomputable def o531_94 (P : Params) : Obj := { cls := .type "tuple", data := .seq #[sv "cells" 1019, sv "known" 1020, sv "most" 1021, sv "high" 1022, sv "way" 1023, sv "left" 1024, sv "one" 1025, sv "right" 1026, sv "two" 1027, sv "whole" 1028, sv "text" 1029, sv "name" 1030] 0 }
noncomputable def o532_94 (P : Params) : Obj := { cls := .type "tuple", data := .seq #[] 0 }
noncomputable def o533_94 (P : Params) : Obj := { cls := .none, data := .func { name := Str.ofString "_law_tree", qualname := Str.ofString "_law_tree", params := prm (stA 92), body := .stmts (bdy (stA 92)), scope := scp (stA 92), globals := 0, closure := [], defaults := .none, kwdefaults := .none, doc := .none, pyModule := .none, annotations := .none, code := .none, closureTuple := .none, builtins := 0 } }
noncomputable def o534_94 (P : Params) : Obj := { cls := .type "code", data := .fields #[sv "_law_tree" 1016, sv "_law_tree" 1017, sv "/claim/cut.py" 1018, .int 441 0, .int 4 0, .int 0 0, .int 0 0, .int 3 0, .ref 529, .bool true, .int 181 0, .ref 530, .none, .ref 531, .ref 532, .ref 533, .int 1031 0, .int 441 0, sv "/claim/cut.py" 1032] }
noncomputable def o535_94 (P : Params) : Obj := { cls := .type "function", data := .func { name := Str.ofString "_law_tree", qualname := Str.ofString "_law_tree", params := prm (stA 92), body := .stmts (bdy (stA 92)), scope := scp (stA 92), globals := 3, closure := [], defaults := .none, kwdefaults := .none, doc := .none, pyModule := sv "law_pq0359_01" 1003, annotations := .none, code := .ref 534, closureTuple := .none, builtins := 0 } }
noncomputable def o536_94 (P : Params) : Obj := { cls := .type "tuple", data := .seq #[] 0 }
noncomputable def o537_94 (P : Params) : Obj := { cls := .none, data := .fields #[] }
noncomputable def o538_94 (P : Params) : Obj := { cls := .type "tuple", data := .seq #[sv "script" 1037, sv "cells" 1038, sv "most" 1039, sv "limits" 1040, sv "known" 1041, sv "values" 1042, sv "name" 1043, sv "tree" 1044, sv "text" 1045, sv "length" 1046, sv "due" 1047, sv "heard" 1048] 0 }
noncomputable def o539_94 (P : Params) : Obj := { cls := .type "tuple", data := .seq #[] 0 }
noncomputable def o540_94 (P : Params) : Obj := { cls := .none, data := .func { name := Str.ofString "law", qualname := Str.ofString "law", params := prm (stA 93), body := .stmts (bdy (stA 93)), scope := scp (stA 93), globals := 0, closure := [], defaults := .none, kwdefaults := .none, doc := .none, pyModule := .none, annotations := .none, code := .none, closureTuple := .none, builtins := 0 } }
noncomputable def o541_94 (P : Params) : Obj := { cls := .type "code", data := .fields #[sv "law" 1034, sv "law" 1035, sv "/claim/cut.py" 1036, .int 453 0, .int 1 0, .int 0 0, .int 0 0, .int 3 0, .ref 536, .bool true, .int 181 0, .ref 537, .none, .ref 538, .ref 539, .ref 540, .int 1049 0, .int 453 0, sv "/claim/cut.py" 1050] }
noncomputable def o542_94 (P : Params) : Obj := { cls := .type "function", data := .func { name := Str.ofString "law", qualname := Str.ofString "law", params := prm (stA 93), body := .stmts (bdy (stA 93)), scope := scp (stA 93), globals := 3, closure := [], defaults := .none, kwdefaults := .none, doc := .none, pyModule := sv "law_pq0359_01" 1003, annotations := .none, code := .ref 541, closureTuple := .none, builtins := 0 } }
noncomputable def T0 (P : Params) : BT := (.node (boot_o_0 P) (.node (boot_o_1 P) (.node (boot_o_3 P) (.node (boot_o_7 P) .nil .nil) (.node (o11_0 P) .nil .nil)) (.node (boot_o_5 P) (.node (boot_o_9 P) .nil .nil) (.node (o13_0 P) .nil .nil))) (.node (boot_o_2 P) (.node (boot_o_4 P) (.node (boot_o_8 P) .nil .nil) (.node (o12_0 P) .nil .nil)) (.node (boot_o_6 P) (.node (boot_o_10 P) .nil .nil) (.node (o14_0 P) .nil .nil))))
noncomputable def T1 (P : Params) : BT := (.node (boot_o_0 P) (.node (boot_o_1 P) (.node (o3_16 P) (.node (boot_o_7 P) (.node (o15_16 P) (.node (o31_16 P) (.node (o63_16 P) (.node (o127_16 P) .nil .nil) .nil) (.node (o95_16 P) .nil .nil)) (.node (o47_16 P) (.node (o79_16 P) .nil .nil) (.node (o111_16 P) .nil .nil))) (.node (o23_16 P) (.node (o39_16 P) (.node (o71_16 P) (.node (o135_16 P) .nil .nil) .nil) (.node (o103_16 P) .nil .nil)) (.node (o55_16 P) (.node (o87_16 P) .nil .nil) (.node (o119_16 P) .nil .nil)))) (.node (o11_0 P) (.node (o19_16 P) (.node (o35_16 P) (.node (o67_16 P) (.node (o131_16 P) .nil .nil) .nil) (.node (o99_16 P) .nil .nil)) (.node (o51_16 P) (.node (o83_16 P) .nil .nil) (.node (o115_16 P) .nil .nil))) (.node (o27_16 P) (.node (o43_16 P) (.node (o75_16 P) .nil .nil) (.node (o107_16 P) .nil .nil)) (.node (o59_16 P) (.node (o91_16 P) .nil .nil) (.node (o123_16 P) .nil .nil))))) (.node (boot_o_5 P) (.node (boot_o_9 P) (.node (o17_16 P) (.node (o33_16 P) (.node (o65_16 P) (.node (o129_16 P) .nil .nil) .nil) (.node (o97_16 P) .nil .nil)) (.node (o49_16 P) (.node (o81_16 P) .nil .nil) (.node (o113_16 P) .nil .nil))) (.node (o25_16 P) (.node (o41_16 P) (.node (o73_16 P) .nil .nil) (.node (o105_16 P) .nil .nil)) (.node (o57_16 P) (.node (o89_16 P) .nil .nil) (.node (o121_16 P) .nil .nil)))) (.node (o13_0 P) (.node (o21_16 P) (.node (o37_16 P) (.node (o69_16 P) (.node (o133_16 P) .nil .nil) .nil) (.node (o101_16 P) .nil .nil)) (.node (o53_16 P) (.node (o85_16 P) .nil .nil) (.node (o117_16 P) .nil .nil))) (.node (o29_16 P) (.node (o45_16 P) (.node (o77_16 P) .nil .nil) (.node (o109_16 P) .nil .nil)) (.node (o61_16 P) (.node (o93_16 P) .nil .nil) (.node (o125_16 P) .nil .nil)))))) (.node (o2_16 P) (.node (boot_o_4 P) (.node (boot_o_8 P) (.node (o16_16 P) (.node (o32_16 P) (.node (o64_16 P) (.node (o128_16 P) .nil .nil) .nil) (.node (o96_16 P) .nil .nil)) (.node (o48_16 P) (.node (o80_16 P) .nil .nil) (.node (o112_16 P) .nil .nil))) (.node (o24_16 P) (.node (o40_16 P) (.node (o72_16 P) .nil .nil) (.node (o104_16 P) .nil .nil)) (.node (o56_16 P) (.node (o88_16 P) .nil .nil) (.node (o120_16 P) .nil .nil)))) (.node (o12_16 P) (.node (o20_16 P) (.node (o36_16 P) (.node (o68_16 P) (.node (o132_16 P) .nil .nil) .nil) (.node (o100_16 P) .nil .nil)) (.node (o52_16 P) (.node (o84_16 P) .nil .nil) (.node (o116_16 P) .nil .nil))) (.node (o28_16 P) (.node (o44_16 P) (.node (o76_16 P) .nil .nil) (.node (o108_16 P) .nil .nil)) (.node (o60_16 P) (.node (o92_16 P) .nil .nil) (.node (o124_16 P) .nil .nil))))) (.node (boot_o_6 P) (.node (boot_o_10 P) (.node (o18_16 P) (.node (o34_16 P) (.node (o66_16 P) (.node (o130_16 P) .nil .nil) .nil) (.node (o98_16 P) .nil .nil)) (.node (o50_16 P) (.node (o82_16 P) .nil .nil) (.node (o114_16 P) .nil .nil))) (.node (o26_16 P) (.node (o42_16 P) (.node (o74_16 P) .nil .nil) (.node (o106_16 P) .nil .nil)) (.node (o58_16 P) (.node (o90_16 P) .nil .nil) (.node (o122_16 P) .nil .nil)))) (.node (o14_0 P) (.node (o22_16 P) (.node (o38_16 P) (.node (o70_16 P) (.node (o134_16 P) .nil .nil) .nil) (.node (o102_16 P) .nil .nil)) (.node (o54_16 P) (.node (o86_16 P) .nil .nil) (.node (o118_16 P) .nil .nil))) (.node (o30_16 P) (.node (o46_16 P) (.node (o78_16 P) .nil .nil) (.node (o110_16 P) .nil .nil)) (.node (o62_16 P) (.node (o94_16 P) .nil .nil) (.node (o126_16 P) .nil .nil)))))))
noncomputable def T2 (P : Params) : BT := (.node (boot_o_0 P) (.node (boot_o_1 P) (.node (o3_44 P) (.node (boot_o_7 P) (.node (o15_16 P) (.node (o31_16 P) (.node (o63_16 P) (.node (o127_16 P) .nil .nil) (.node (o191_44 P) .nil .nil)) (.node (o95_16 P) (.node (o159_44 P) .nil .nil) (.node (o223_44 P) .nil .nil))) (.node (o47_16 P) (.node (o79_16 P) (.node (o143_44 P) .nil .nil) (.node (o207_44 P) .nil .nil)) (.node (o111_16 P) (.node (o175_44 P) .nil .nil) (.node (o239_44 P) .nil .nil)))) (.node (o23_16 P) (.node (o39_16 P) (.node (o71_16 P) (.node (o135_16 P) .nil .nil) (.node (o199_44 P) .nil .nil)) (.node (o103_16 P) (.node (o167_44 P) .nil .nil) (.node (o231_44 P) .nil .nil))) (.node (o55_16 P) (.node (o87_16 P) (.node (o151_44 P) .nil .nil) (.node (o215_44 P) .nil .nil)) (.node (o119_16 P) (.node (o183_44 P) .nil .nil) (.node (o247_44 P) .nil .nil))))) (.node (o11_0 P) (.node (o19_16 P) (.node (o35_16 P) (.node (o67_16 P) (.node (o131_16 P) .nil .nil) (.node (o195_44 P) .nil .nil)) (.node (o99_16 P) (.node (o163_44 P) .nil .nil) (.node (o227_44 P) .nil .nil))) (.node (o51_16 P) (.node (o83_16 P) (.node (o147_44 P) .nil .nil) (.node (o211_44 P) .nil .nil)) (.node (o115_16 P) (.node (o179_44 P) .nil .nil) (.node (o243_44 P) .nil .nil)))) (.node (o27_16 P) (.node (o43_16 P) (.node (o75_16 P) (.node (o139_44 P) .nil .nil) (.node (o203_44 P) .nil .nil)) (.node (o107_16 P) (.node (o171_44 P) .nil .nil) (.node (o235_44 P) .nil .nil))) (.node (o59_16 P) (.node (o91_16 P) (.node (o155_44 P) .nil .nil) (.node (o219_44 P) .nil .nil)) (.node (o123_16 P) (.node (o187_44 P) .nil .nil) .nil))))) (.node (boot_o_5 P) (.node (boot_o_9 P) (.node (o17_16 P) (.node (o33_16 P) (.node (o65_16 P) (.node (o129_16 P) .nil .nil) (.node (o193_44 P) .nil .nil)) (.node (o97_16 P) (.node (o161_44 P) .nil .nil) (.node (o225_44 P) .nil .nil))) (.node (o49_16 P) (.node (o81_16 P) (.node (o145_44 P) .nil .nil) (.node (o209_44 P) .nil .nil)) (.node (o113_16 P) (.node (o177_44 P) .nil .nil) (.node (o241_44 P) .nil .nil)))) (.node (o25_16 P) (.node (o41_16 P) (.node (o73_16 P) (.node (o137_44 P) .nil .nil) (.node (o201_44 P) .nil .nil)) (.node (o105_16 P) (.node (o169_44 P) .nil .nil) (.node (o233_44 P) .nil .nil))) (.node (o57_16 P) (.node (o89_16 P) (.node (o153_44 P) .nil .nil) (.node (o217_44 P) .nil .nil)) (.node (o121_16 P) (.node (o185_44 P) .nil .nil) .nil)))) (.node (o13_0 P) (.node (o21_16 P) (.node (o37_16 P) (.node (o69_16 P) (.node (o133_16 P) .nil .nil) (.node (o197_44 P) .nil .nil)) (.node (o101_16 P) (.node (o165_44 P) .nil .nil) (.node (o229_44 P) .nil .nil))) (.node (o53_16 P) (.node (o85_16 P) (.node (o149_44 P) .nil .nil) (.node (o213_44 P) .nil .nil)) (.node (o117_16 P) (.node (o181_44 P) .nil .nil) (.node (o245_44 P) .nil .nil)))) (.node (o29_16 P) (.node (o45_16 P) (.node (o77_16 P) (.node (o141_44 P) .nil .nil) (.node (o205_44 P) .nil .nil)) (.node (o109_16 P) (.node (o173_44 P) .nil .nil) (.node (o237_44 P) .nil .nil))) (.node (o61_16 P) (.node (o93_16 P) (.node (o157_44 P) .nil .nil) (.node (o221_44 P) .nil .nil)) (.node (o125_16 P) (.node (o189_44 P) .nil .nil) .nil)))))) (.node (o2_16 P) (.node (boot_o_4 P) (.node (boot_o_8 P) (.node (o16_16 P) (.node (o32_16 P) (.node (o64_16 P) (.node (o128_16 P) .nil .nil) (.node (o192_44 P) .nil .nil)) (.node (o96_16 P) (.node (o160_44 P) .nil .nil) (.node (o224_44 P) .nil .nil))) (.node (o48_16 P) (.node (o80_16 P) (.node (o144_44 P) .nil .nil) (.node (o208_44 P) .nil .nil)) (.node (o112_16 P) (.node (o176_44 P) .nil .nil) (.node (o240_44 P) .nil .nil)))) (.node (o24_16 P) (.node (o40_16 P) (.node (o72_16 P) (.node (o136_44 P) .nil .nil) (.node (o200_44 P) .nil .nil)) (.node (o104_16 P) (.node (o168_44 P) .nil .nil) (.node (o232_44 P) .nil .nil))) (.node (o56_16 P) (.node (o88_16 P) (.node (o152_44 P) .nil .nil) (.node (o216_44 P) .nil .nil)) (.node (o120_16 P) (.node (o184_44 P) .nil .nil) (.node (o248_44 P) .nil .nil))))) (.node (o12_44 P) (.node (o20_16 P) (.node (o36_16 P) (.node (o68_16 P) (.node (o132_16 P) .nil .nil) (.node (o196_44 P) .nil .nil)) (.node (o100_16 P) (.node (o164_44 P) .nil .nil) (.node (o228_44 P) .nil .nil))) (.node (o52_16 P) (.node (o84_16 P) (.node (o148_44 P) .nil .nil) (.node (o212_44 P) .nil .nil)) (.node (o116_16 P) (.node (o180_44 P) .nil .nil) (.node (o244_44 P) .nil .nil)))) (.node (o28_16 P) (.node (o44_16 P) (.node (o76_16 P) (.node (o140_44 P) .nil .nil) (.node (o204_44 P) .nil .nil)) (.node (o108_16 P) (.node (o172_44 P) .nil .nil) (.node (o236_44 P) .nil .nil))) (.node (o60_16 P) (.node (o92_16 P) (.node (o156_44 P) .nil .nil) (.node (o220_44 P) .nil .nil)) (.node (o124_16 P) (.node (o188_44 P) .nil .nil) .nil))))) (.node (boot_o_6 P) (.node (boot_o_10 P) (.node (o18_16 P) (.node (o34_16 P) (.node (o66_16 P) (.node (o130_16 P) .nil .nil) (.node (o194_44 P) .nil .nil)) (.node (o98_16 P) (.node (o162_44 P) .nil .nil) (.node (o226_44 P) .nil .nil))) (.node (o50_16 P) (.node (o82_16 P) (.node (o146_44 P) .nil .nil) (.node (o210_44 P) .nil .nil)) (.node (o114_16 P) (.node (o178_44 P) .nil .nil) (.node (o242_44 P) .nil .nil)))) (.node (o26_16 P) (.node (o42_16 P) (.node (o74_16 P) (.node (o138_44 P) .nil .nil) (.node (o202_44 P) .nil .nil)) (.node (o106_16 P) (.node (o170_44 P) .nil .nil) (.node (o234_44 P) .nil .nil))) (.node (o58_16 P) (.node (o90_16 P) (.node (o154_44 P) .nil .nil) (.node (o218_44 P) .nil .nil)) (.node (o122_16 P) (.node (o186_44 P) .nil .nil) .nil)))) (.node (o14_0 P) (.node (o22_16 P) (.node (o38_16 P) (.node (o70_16 P) (.node (o134_16 P) .nil .nil) (.node (o198_44 P) .nil .nil)) (.node (o102_16 P) (.node (o166_44 P) .nil .nil) (.node (o230_44 P) .nil .nil))) (.node (o54_16 P) (.node (o86_16 P) (.node (o150_44 P) .nil .nil) (.node (o214_44 P) .nil .nil)) (.node (o118_16 P) (.node (o182_44 P) .nil .nil) (.node (o246_44 P) .nil .nil)))) (.node (o30_16 P) (.node (o46_16 P) (.node (o78_16 P) (.node (o142_44 P) .nil .nil) (.node (o206_44 P) .nil .nil)) (.node (o110_16 P) (.node (o174_44 P) .nil .nil) (.node (o238_44 P) .nil .nil))) (.node (o62_16 P) (.node (o94_16 P) (.node (o158_44 P) .nil .nil) (.node (o222_44 P) .nil .nil)) (.node (o126_16 P) (.node (o190_44 P) .nil .nil) .nil)))))))
noncomputable def T3 (P : Params) : BT := (.node (boot_o_0 P) (.node (boot_o_1 P) (.node (o3_73 P) (.node (boot_o_7 P) (.node (o15_16 P) (.node (o31_16 P) (.node (o63_16 P) (.node (o127_16 P) (.node (o255_73 P) .nil .nil) (.node (o383_73 P) .nil .nil)) (.node (o191_44 P) (.node (o319_73 P) .nil .nil) .nil)) (.node (o95_16 P) (.node (o159_44 P) (.node (o287_73 P) .nil .nil) (.node (o415_73 P) .nil .nil)) (.node (o223_44 P) (.node (o351_73 P) .nil .nil) .nil))) (.node (o47_16 P) (.node (o79_16 P) (.node (o143_44 P) (.node (o271_73 P) .nil .nil) (.node (o399_73 P) .nil .nil)) (.node (o207_44 P) (.node (o335_73 P) .nil .nil) .nil)) (.node (o111_16 P) (.node (o175_44 P) (.node (o303_73 P) .nil .nil) .nil) (.node (o239_44 P) (.node (o367_73 P) .nil .nil) .nil)))) (.node (o23_16 P) (.node (o39_16 P) (.node (o71_16 P) (.node (o135_16 P) (.node (o263_73 P) .nil .nil) (.node (o391_73 P) .nil .nil)) (.node (o199_44 P) (.node (o327_73 P) .nil .nil) .nil)) (.node (o103_16 P) (.node (o167_44 P) (.node (o295_73 P) .nil .nil) .nil) (.node (o231_44 P) (.node (o359_73 P) .nil .nil) .nil))) (.node (o55_16 P) (.node (o87_16 P) (.node (o151_44 P) (.node (o279_73 P) .nil .nil) (.node (o407_73 P) .nil .nil)) (.node (o215_44 P) (.node (o343_73 P) .nil .nil) .nil)) (.node (o119_16 P) (.node (o183_44 P) (.node (o311_73 P) .nil .nil) .nil) (.node (o247_44 P) (.node (o375_73 P) .nil .nil) .nil))))) (.node (o11_0 P) (.node (o19_16 P) (.node (o35_16 P) (.node (o67_16 P) (.node (o131_16 P) (.node (o259_73 P) .nil .nil) (.node (o387_73 P) .nil .nil)) (.node (o195_44 P) (.node (o323_73 P) .nil .nil) .nil)) (.node (o99_16 P) (.node (o163_44 P) (.node (o291_73 P) .nil .nil) (.node (o419_73 P) .nil .nil)) (.node (o227_44 P) (.node (o355_73 P) .nil .nil) .nil))) (.node (o51_16 P) (.node (o83_16 P) (.node (o147_44 P) (.node (o275_73 P) .nil .nil) (.node (o403_73 P) .nil .nil)) (.node (o211_44 P) (.node (o339_73 P) .nil .nil) .nil)) (.node (o115_16 P) (.node (o179_44 P) (.node (o307_73 P) .nil .nil) .nil) (.node (o243_44 P) (.node (o371_73 P) .nil .nil) .nil)))) (.node (o27_16 P) (.node (o43_16 P) (.node (o75_16 P) (.node (o139_44 P) (.node (o267_73 P) .nil .nil) (.node (o395_73 P) .nil .nil)) (.node (o203_44 P) (.node (o331_73 P) .nil .nil) .nil)) (.node (o107_16 P) (.node (o171_44 P) (.node (o299_73 P) .nil .nil) .nil) (.node (o235_44 P) (.node (o363_73 P) .nil .nil) .nil))) (.node (o59_16 P) (.node (o91_16 P) (.node (o155_44 P) (.node (o283_73 P) .nil .nil) (.node (o411_73 P) .nil .nil)) (.node (o219_44 P) (.node (o347_73 P) .nil .nil) .nil)) (.node (o123_16 P) (.node (o187_44 P) (.node (o315_73 P) .nil .nil) .nil) (.node (o251_73 P) (.node (o379_73 P) .nil .nil) .nil)))))) (.node (boot_o_5 P) (.node (boot_o_9 P) (.node (o17_16 P) (.node (o33_16 P) (.node (o65_16 P) (.node (o129_16 P) (.node (o257_73 P) .nil .nil) (.node (o385_73 P) .nil .nil)) (.node (o193_44 P) (.node (o321_73 P) .nil .nil) .nil)) (.node (o97_16 P) (.node (o161_44 P) (.node (o289_73 P) .nil .nil) (.node (o417_73 P) .nil .nil)) (.node (o225_44 P) (.node (o353_73 P) .nil .nil) .nil))) (.node (o49_16 P) (.node (o81_16 P) (.node (o145_44 P) (.node (o273_73 P) .nil .nil) (.node (o401_73 P) .nil .nil)) (.node (o209_44 P) (.node (o337_73 P) .nil .nil) .nil)) (.node (o113_16 P) (.node (o177_44 P) (.node (o305_73 P) .nil .nil) .nil) (.node (o241_44 P) (.node (o369_73 P) .nil .nil) .nil)))) (.node (o25_16 P) (.node (o41_16 P) (.node (o73_16 P) (.node (o137_44 P) (.node (o265_73 P) .nil .nil) (.node (o393_73 P) .nil .nil)) (.node (o201_44 P) (.node (o329_73 P) .nil .nil) .nil)) (.node (o105_16 P) (.node (o169_44 P) (.node (o297_73 P) .nil .nil) .nil) (.node (o233_44 P) (.node (o361_73 P) .nil .nil) .nil))) (.node (o57_16 P) (.node (o89_16 P) (.node (o153_44 P) (.node (o281_73 P) .nil .nil) (.node (o409_73 P) .nil .nil)) (.node (o217_44 P) (.node (o345_73 P) .nil .nil) .nil)) (.node (o121_16 P) (.node (o185_44 P) (.node (o313_73 P) .nil .nil) .nil) (.node (o249_73 P) (.node (o377_73 P) .nil .nil) .nil))))) (.node (o13_0 P) (.node (o21_16 P) (.node (o37_16 P) (.node (o69_16 P) (.node (o133_16 P) (.node (o261_73 P) .nil .nil) (.node (o389_73 P) .nil .nil)) (.node (o197_44 P) (.node (o325_73 P) .nil .nil) .nil)) (.node (o101_16 P) (.node (o165_44 P) (.node (o293_73 P) .nil .nil) .nil) (.node (o229_44 P) (.node (o357_73 P) .nil .nil) .nil))) (.node (o53_16 P) (.node (o85_16 P) (.node (o149_44 P) (.node (o277_73 P) .nil .nil) (.node (o405_73 P) .nil .nil)) (.node (o213_44 P) (.node (o341_73 P) .nil .nil) .nil)) (.node (o117_16 P) (.node (o181_44 P) (.node (o309_73 P) .nil .nil) .nil) (.node (o245_44 P) (.node (o373_73 P) .nil .nil) .nil)))) (.node (o29_16 P) (.node (o45_16 P) (.node (o77_16 P) (.node (o141_44 P) (.node (o269_73 P) .nil .nil) (.node (o397_73 P) .nil .nil)) (.node (o205_44 P) (.node (o333_73 P) .nil .nil) .nil)) (.node (o109_16 P) (.node (o173_44 P) (.node (o301_73 P) .nil .nil) .nil) (.node (o237_44 P) (.node (o365_73 P) .nil .nil) .nil))) (.node (o61_16 P) (.node (o93_16 P) (.node (o157_44 P) (.node (o285_73 P) .nil .nil) (.node (o413_73 P) .nil .nil)) (.node (o221_44 P) (.node (o349_73 P) .nil .nil) .nil)) (.node (o125_16 P) (.node (o189_44 P) (.node (o317_73 P) .nil .nil) .nil) (.node (o253_73 P) (.node (o381_73 P) .nil .nil) .nil))))))) (.node (o2_16 P) (.node (boot_o_4 P) (.node (boot_o_8 P) (.node (o16_16 P) (.node (o32_16 P) (.node (o64_16 P) (.node (o128_16 P) (.node (o256_73 P) .nil .nil) (.node (o384_73 P) .nil .nil)) (.node (o192_44 P) (.node (o320_73 P) .nil .nil) .nil)) (.node (o96_16 P) (.node (o160_44 P) (.node (o288_73 P) .nil .nil) (.node (o416_73 P) .nil .nil)) (.node (o224_44 P) (.node (o352_73 P) .nil .nil) .nil))) (.node (o48_16 P) (.node (o80_16 P) (.node (o144_44 P) (.node (o272_73 P) .nil .nil) (.node (o400_73 P) .nil .nil)) (.node (o208_44 P) (.node (o336_73 P) .nil .nil) .nil)) (.node (o112_16 P) (.node (o176_44 P) (.node (o304_73 P) .nil .nil) .nil) (.node (o240_44 P) (.node (o368_73 P) .nil .nil) .nil)))) (.node (o24_16 P) (.node (o40_16 P) (.node (o72_16 P) (.node (o136_44 P) (.node (o264_73 P) .nil .nil) (.node (o392_73 P) .nil .nil)) (.node (o200_44 P) (.node (o328_73 P) .nil .nil) .nil)) (.node (o104_16 P) (.node (o168_44 P) (.node (o296_73 P) .nil .nil) .nil) (.node (o232_44 P) (.node (o360_73 P) .nil .nil) .nil))) (.node (o56_16 P) (.node (o88_16 P) (.node (o152_44 P) (.node (o280_73 P) .nil .nil) (.node (o408_73 P) .nil .nil)) (.node (o216_44 P) (.node (o344_73 P) .nil .nil) .nil)) (.node (o120_16 P) (.node (o184_44 P) (.node (o312_73 P) .nil .nil) .nil) (.node (o248_44 P) (.node (o376_73 P) .nil .nil) .nil))))) (.node (o12_73 P) (.node (o20_16 P) (.node (o36_16 P) (.node (o68_16 P) (.node (o132_16 P) (.node (o260_73 P) .nil .nil) (.node (o388_73 P) .nil .nil)) (.node (o196_44 P) (.node (o324_73 P) .nil .nil) .nil)) (.node (o100_16 P) (.node (o164_44 P) (.node (o292_73 P) .nil .nil) .nil) (.node (o228_44 P) (.node (o356_73 P) .nil .nil) .nil))) (.node (o52_16 P) (.node (o84_16 P) (.node (o148_44 P) (.node (o276_73 P) .nil .nil) (.node (o404_73 P) .nil .nil)) (.node (o212_44 P) (.node (o340_73 P) .nil .nil) .nil)) (.node (o116_16 P) (.node (o180_44 P) (.node (o308_73 P) .nil .nil) .nil) (.node (o244_44 P) (.node (o372_73 P) .nil .nil) .nil)))) (.node (o28_16 P) (.node (o44_16 P) (.node (o76_16 P) (.node (o140_44 P) (.node (o268_73 P) .nil .nil) (.node (o396_73 P) .nil .nil)) (.node (o204_44 P) (.node (o332_73 P) .nil .nil) .nil)) (.node (o108_16 P) (.node (o172_44 P) (.node (o300_73 P) .nil .nil) .nil) (.node (o236_44 P) (.node (o364_73 P) .nil .nil) .nil))) (.node (o60_16 P) (.node (o92_16 P) (.node (o156_44 P) (.node (o284_73 P) .nil .nil) (.node (o412_73 P) .nil .nil)) (.node (o220_44 P) (.node (o348_73 P) .nil .nil) .nil)) (.node (o124_16 P) (.node (o188_44 P) (.node (o316_73 P) .nil .nil) .nil) (.node (o252_73 P) (.node (o380_73 P) .nil .nil) .nil)))))) (.node (boot_o_6 P) (.node (boot_o_10 P) (.node (o18_16 P) (.node (o34_16 P) (.node (o66_16 P) (.node (o130_16 P) (.node (o258_73 P) .nil .nil) (.node (o386_73 P) .nil .nil)) (.node (o194_44 P) (.node (o322_73 P) .nil .nil) .nil)) (.node (o98_16 P) (.node (o162_44 P) (.node (o290_73 P) .nil .nil) (.node (o418_73 P) .nil .nil)) (.node (o226_44 P) (.node (o354_73 P) .nil .nil) .nil))) (.node (o50_16 P) (.node (o82_16 P) (.node (o146_44 P) (.node (o274_73 P) .nil .nil) (.node (o402_73 P) .nil .nil)) (.node (o210_44 P) (.node (o338_73 P) .nil .nil) .nil)) (.node (o114_16 P) (.node (o178_44 P) (.node (o306_73 P) .nil .nil) .nil) (.node (o242_44 P) (.node (o370_73 P) .nil .nil) .nil)))) (.node (o26_16 P) (.node (o42_16 P) (.node (o74_16 P) (.node (o138_44 P) (.node (o266_73 P) .nil .nil) (.node (o394_73 P) .nil .nil)) (.node (o202_44 P) (.node (o330_73 P) .nil .nil) .nil)) (.node (o106_16 P) (.node (o170_44 P) (.node (o298_73 P) .nil .nil) .nil) (.node (o234_44 P) (.node (o362_73 P) .nil .nil) .nil))) (.node (o58_16 P) (.node (o90_16 P) (.node (o154_44 P) (.node (o282_73 P) .nil .nil) (.node (o410_73 P) .nil .nil)) (.node (o218_44 P) (.node (o346_73 P) .nil .nil) .nil)) (.node (o122_16 P) (.node (o186_44 P) (.node (o314_73 P) .nil .nil) .nil) (.node (o250_73 P) (.node (o378_73 P) .nil .nil) .nil))))) (.node (o14_0 P) (.node (o22_16 P) (.node (o38_16 P) (.node (o70_16 P) (.node (o134_16 P) (.node (o262_73 P) .nil .nil) (.node (o390_73 P) .nil .nil)) (.node (o198_44 P) (.node (o326_73 P) .nil .nil) .nil)) (.node (o102_16 P) (.node (o166_44 P) (.node (o294_73 P) .nil .nil) .nil) (.node (o230_44 P) (.node (o358_73 P) .nil .nil) .nil))) (.node (o54_16 P) (.node (o86_16 P) (.node (o150_44 P) (.node (o278_73 P) .nil .nil) (.node (o406_73 P) .nil .nil)) (.node (o214_44 P) (.node (o342_73 P) .nil .nil) .nil)) (.node (o118_16 P) (.node (o182_44 P) (.node (o310_73 P) .nil .nil) .nil) (.node (o246_44 P) (.node (o374_73 P) .nil .nil) .nil)))) (.node (o30_16 P) (.node (o46_16 P) (.node (o78_16 P) (.node (o142_44 P) (.node (o270_73 P) .nil .nil) (.node (o398_73 P) .nil .nil)) (.node (o206_44 P) (.node (o334_73 P) .nil .nil) .nil)) (.node (o110_16 P) (.node (o174_44 P) (.node (o302_73 P) .nil .nil) .nil) (.node (o238_44 P) (.node (o366_73 P) .nil .nil) .nil))) (.node (o62_16 P) (.node (o94_16 P) (.node (o158_44 P) (.node (o286_73 P) .nil .nil) (.node (o414_73 P) .nil .nil)) (.node (o222_44 P) (.node (o350_73 P) .nil .nil) .nil)) (.node (o126_16 P) (.node (o190_44 P) (.node (o318_73 P) .nil .nil) .nil) (.node (o254_73 P) (.node (o382_73 P) .nil .nil) .nil))))))))
noncomputable def T4 (P : Params) : BT := (.node (boot_o_0 P) (.node (boot_o_1 P) (.node (o3_76 P) (.node (boot_o_7 P) (.node (o15_16 P) (.node (o31_16 P) (.node (o63_16 P) (.node (o127_16 P) (.node (o255_73 P) .nil .nil) (.node (o383_73 P) .nil .nil)) (.node (o191_44 P) (.node (o319_73 P) .nil .nil) .nil)) (.node (o95_16 P) (.node (o159_44 P) (.node (o287_73 P) .nil .nil) (.node (o415_73 P) .nil .nil)) (.node (o223_44 P) (.node (o351_73 P) .nil .nil) .nil))) (.node (o47_16 P) (.node (o79_16 P) (.node (o143_44 P) (.node (o271_73 P) .nil .nil) (.node (o399_73 P) .nil .nil)) (.node (o207_44 P) (.node (o335_73 P) .nil .nil) .nil)) (.node (o111_16 P) (.node (o175_44 P) (.node (o303_73 P) .nil .nil) .nil) (.node (o239_44 P) (.node (o367_73 P) .nil .nil) .nil)))) (.node (o23_16 P) (.node (o39_16 P) (.node (o71_16 P) (.node (o135_16 P) (.node (o263_73 P) .nil .nil) (.node (o391_73 P) .nil .nil)) (.node (o199_44 P) (.node (o327_73 P) .nil .nil) .nil)) (.node (o103_16 P) (.node (o167_44 P) (.node (o295_73 P) .nil .nil) .nil) (.node (o231_44 P) (.node (o359_73 P) .nil .nil) .nil))) (.node (o55_16 P) (.node (o87_16 P) (.node (o151_44 P) (.node (o279_73 P) .nil .nil) (.node (o407_73 P) .nil .nil)) (.node (o215_44 P) (.node (o343_73 P) .nil .nil) .nil)) (.node (o119_16 P) (.node (o183_44 P) (.node (o311_73 P) .nil .nil) .nil) (.node (o247_44 P) (.node (o375_73 P) .nil .nil) .nil))))) (.node (o11_0 P) (.node (o19_16 P) (.node (o35_16 P) (.node (o67_16 P) (.node (o131_16 P) (.node (o259_73 P) .nil .nil) (.node (o387_73 P) .nil .nil)) (.node (o195_44 P) (.node (o323_73 P) .nil .nil) .nil)) (.node (o99_16 P) (.node (o163_44 P) (.node (o291_73 P) .nil .nil) (.node (o419_73 P) .nil .nil)) (.node (o227_44 P) (.node (o355_73 P) .nil .nil) .nil))) (.node (o51_16 P) (.node (o83_16 P) (.node (o147_44 P) (.node (o275_73 P) .nil .nil) (.node (o403_73 P) .nil .nil)) (.node (o211_44 P) (.node (o339_73 P) .nil .nil) .nil)) (.node (o115_16 P) (.node (o179_44 P) (.node (o307_73 P) .nil .nil) .nil) (.node (o243_44 P) (.node (o371_73 P) .nil .nil) .nil)))) (.node (o27_16 P) (.node (o43_16 P) (.node (o75_16 P) (.node (o139_44 P) (.node (o267_73 P) .nil .nil) (.node (o395_73 P) .nil .nil)) (.node (o203_44 P) (.node (o331_73 P) .nil .nil) .nil)) (.node (o107_16 P) (.node (o171_44 P) (.node (o299_73 P) .nil .nil) .nil) (.node (o235_44 P) (.node (o363_73 P) .nil .nil) .nil))) (.node (o59_16 P) (.node (o91_16 P) (.node (o155_44 P) (.node (o283_73 P) .nil .nil) (.node (o411_73 P) .nil .nil)) (.node (o219_44 P) (.node (o347_73 P) .nil .nil) .nil)) (.node (o123_16 P) (.node (o187_44 P) (.node (o315_73 P) .nil .nil) .nil) (.node (o251_73 P) (.node (o379_73 P) .nil .nil) .nil)))))) (.node (boot_o_5 P) (.node (boot_o_9 P) (.node (o17_16 P) (.node (o33_16 P) (.node (o65_16 P) (.node (o129_16 P) (.node (o257_73 P) .nil .nil) (.node (o385_73 P) .nil .nil)) (.node (o193_44 P) (.node (o321_73 P) .nil .nil) .nil)) (.node (o97_16 P) (.node (o161_44 P) (.node (o289_73 P) .nil .nil) (.node (o417_73 P) .nil .nil)) (.node (o225_44 P) (.node (o353_73 P) .nil .nil) .nil))) (.node (o49_16 P) (.node (o81_16 P) (.node (o145_44 P) (.node (o273_73 P) .nil .nil) (.node (o401_73 P) .nil .nil)) (.node (o209_44 P) (.node (o337_73 P) .nil .nil) .nil)) (.node (o113_16 P) (.node (o177_44 P) (.node (o305_73 P) .nil .nil) .nil) (.node (o241_44 P) (.node (o369_73 P) .nil .nil) .nil)))) (.node (o25_16 P) (.node (o41_16 P) (.node (o73_16 P) (.node (o137_44 P) (.node (o265_73 P) .nil .nil) (.node (o393_73 P) .nil .nil)) (.node (o201_44 P) (.node (o329_73 P) .nil .nil) .nil)) (.node (o105_16 P) (.node (o169_44 P) (.node (o297_73 P) .nil .nil) .nil) (.node (o233_44 P) (.node (o361_73 P) .nil .nil) .nil))) (.node (o57_16 P) (.node (o89_16 P) (.node (o153_44 P) (.node (o281_73 P) .nil .nil) (.node (o409_73 P) .nil .nil)) (.node (o217_44 P) (.node (o345_73 P) .nil .nil) .nil)) (.node (o121_16 P) (.node (o185_44 P) (.node (o313_73 P) .nil .nil) .nil) (.node (o249_73 P) (.node (o377_73 P) .nil .nil) .nil))))) (.node (o13_0 P) (.node (o21_16 P) (.node (o37_16 P) (.node (o69_16 P) (.node (o133_16 P) (.node (o261_73 P) .nil .nil) (.node (o389_73 P) .nil .nil)) (.node (o197_44 P) (.node (o325_73 P) .nil .nil) .nil)) (.node (o101_16 P) (.node (o165_44 P) (.node (o293_73 P) .nil .nil) (.node (o421_76 P) .nil .nil)) (.node (o229_44 P) (.node (o357_73 P) .nil .nil) .nil))) (.node (o53_16 P) (.node (o85_16 P) (.node (o149_44 P) (.node (o277_73 P) .nil .nil) (.node (o405_73 P) .nil .nil)) (.node (o213_44 P) (.node (o341_73 P) .nil .nil) .nil)) (.node (o117_16 P) (.node (o181_44 P) (.node (o309_73 P) .nil .nil) .nil) (.node (o245_44 P) (.node (o373_73 P) .nil .nil) .nil)))) (.node (o29_16 P) (.node (o45_16 P) (.node (o77_16 P) (.node (o141_44 P) (.node (o269_73 P) .nil .nil) (.node (o397_73 P) .nil .nil)) (.node (o205_44 P) (.node (o333_73 P) .nil .nil) .nil)) (.node (o109_16 P) (.node (o173_44 P) (.node (o301_73 P) .nil .nil) .nil) (.node (o237_44 P) (.node (o365_73 P) .nil .nil) .nil))) (.node (o61_16 P) (.node (o93_16 P) (.node (o157_44 P) (.node (o285_73 P) .nil .nil) (.node (o413_73 P) .nil .nil)) (.node (o221_44 P) (.node (o349_73 P) .nil .nil) .nil)) (.node (o125_16 P) (.node (o189_44 P) (.node (o317_73 P) .nil .nil) .nil) (.node (o253_73 P) (.node (o381_73 P) .nil .nil) .nil))))))) (.node (o2_16 P) (.node (boot_o_4 P) (.node (boot_o_8 P) (.node (o16_16 P) (.node (o32_16 P) (.node (o64_16 P) (.node (o128_16 P) (.node (o256_73 P) .nil .nil) (.node (o384_73 P) .nil .nil)) (.node (o192_44 P) (.node (o320_73 P) .nil .nil) .nil)) (.node (o96_16 P) (.node (o160_44 P) (.node (o288_73 P) .nil .nil) (.node (o416_73 P) .nil .nil)) (.node (o224_44 P) (.node (o352_73 P) .nil .nil) .nil))) (.node (o48_16 P) (.node (o80_16 P) (.node (o144_44 P) (.node (o272_73 P) .nil .nil) (.node (o400_73 P) .nil .nil)) (.node (o208_44 P) (.node (o336_73 P) .nil .nil) .nil)) (.node (o112_16 P) (.node (o176_44 P) (.node (o304_73 P) .nil .nil) .nil) (.node (o240_44 P) (.node (o368_73 P) .nil .nil) .nil)))) (.node (o24_16 P) (.node (o40_16 P) (.node (o72_16 P) (.node (o136_44 P) (.node (o264_73 P) .nil .nil) (.node (o392_73 P) .nil .nil)) (.node (o200_44 P) (.node (o328_73 P) .nil .nil) .nil)) (.node (o104_16 P) (.node (o168_44 P) (.node (o296_73 P) .nil .nil) .nil) (.node (o232_44 P) (.node (o360_73 P) .nil .nil) .nil))) (.node (o56_16 P) (.node (o88_16 P) (.node (o152_44 P) (.node (o280_73 P) .nil .nil) (.node (o408_73 P) .nil .nil)) (.node (o216_44 P) (.node (o344_73 P) .nil .nil) .nil)) (.node (o120_16 P) (.node (o184_44 P) (.node (o312_73 P) .nil .nil) .nil) (.node (o248_44 P) (.node (o376_73 P) .nil .nil) .nil))))) (.node (o12_73 P) (.node (o20_16 P) (.node (o36_16 P) (.node (o68_16 P) (.node (o132_16 P) (.node (o260_73 P) .nil .nil) (.node (o388_73 P) .nil .nil)) (.node (o196_44 P) (.node (o324_73 P) .nil .nil) .nil)) (.node (o100_16 P) (.node (o164_44 P) (.node (o292_73 P) .nil .nil) (.node (o420_76 P) .nil .nil)) (.node (o228_44 P) (.node (o356_73 P) .nil .nil) .nil))) (.node (o52_16 P) (.node (o84_16 P) (.node (o148_44 P) (.node (o276_73 P) .nil .nil) (.node (o404_73 P) .nil .nil)) (.node (o212_44 P) (.node (o340_73 P) .nil .nil) .nil)) (.node (o116_16 P) (.node (o180_44 P) (.node (o308_73 P) .nil .nil) .nil) (.node (o244_44 P) (.node (o372_73 P) .nil .nil) .nil)))) (.node (o28_16 P) (.node (o44_16 P) (.node (o76_16 P) (.node (o140_44 P) (.node (o268_73 P) .nil .nil) (.node (o396_73 P) .nil .nil)) (.node (o204_44 P) (.node (o332_73 P) .nil .nil) .nil)) (.node (o108_16 P) (.node (o172_44 P) (.node (o300_73 P) .nil .nil) .nil) (.node (o236_44 P) (.node (o364_73 P) .nil .nil) .nil))) (.node (o60_16 P) (.node (o92_16 P) (.node (o156_44 P) (.node (o284_73 P) .nil .nil) (.node (o412_73 P) .nil .nil)) (.node (o220_44 P) (.node (o348_73 P) .nil .nil) .nil)) (.node (o124_16 P) (.node (o188_44 P) (.node (o316_73 P) .nil .nil) .nil) (.node (o252_73 P) (.node (o380_73 P) .nil .nil) .nil)))))) (.node (boot_o_6 P) (.node (boot_o_10 P) (.node (o18_16 P) (.node (o34_16 P) (.node (o66_16 P) (.node (o130_16 P) (.node (o258_73 P) .nil .nil) (.node (o386_73 P) .nil .nil)) (.node (o194_44 P) (.node (o322_73 P) .nil .nil) .nil)) (.node (o98_16 P) (.node (o162_44 P) (.node (o290_73 P) .nil .nil) (.node (o418_73 P) .nil .nil)) (.node (o226_44 P) (.node (o354_73 P) .nil .nil) .nil))) (.node (o50_16 P) (.node (o82_16 P) (.node (o146_44 P) (.node (o274_73 P) .nil .nil) (.node (o402_73 P) .nil .nil)) (.node (o210_44 P) (.node (o338_73 P) .nil .nil) .nil)) (.node (o114_16 P) (.node (o178_44 P) (.node (o306_73 P) .nil .nil) .nil) (.node (o242_44 P) (.node (o370_73 P) .nil .nil) .nil)))) (.node (o26_16 P) (.node (o42_16 P) (.node (o74_16 P) (.node (o138_44 P) (.node (o266_73 P) .nil .nil) (.node (o394_73 P) .nil .nil)) (.node (o202_44 P) (.node (o330_73 P) .nil .nil) .nil)) (.node (o106_16 P) (.node (o170_44 P) (.node (o298_73 P) .nil .nil) .nil) (.node (o234_44 P) (.node (o362_73 P) .nil .nil) .nil))) (.node (o58_16 P) (.node (o90_16 P) (.node (o154_44 P) (.node (o282_73 P) .nil .nil) (.node (o410_73 P) .nil .nil)) (.node (o218_44 P) (.node (o346_73 P) .nil .nil) .nil)) (.node (o122_16 P) (.node (o186_44 P) (.node (o314_73 P) .nil .nil) .nil) (.node (o250_73 P) (.node (o378_73 P) .nil .nil) .nil))))) (.node (o14_0 P) (.node (o22_16 P) (.node (o38_16 P) (.node (o70_16 P) (.node (o134_16 P) (.node (o262_73 P) .nil .nil) (.node (o390_73 P) .nil .nil)) (.node (o198_44 P) (.node (o326_73 P) .nil .nil) .nil)) (.node (o102_16 P) (.node (o166_44 P) (.node (o294_73 P) .nil .nil) (.node (o422_76 P) .nil .nil)) (.node (o230_44 P) (.node (o358_73 P) .nil .nil) .nil))) (.node (o54_16 P) (.node (o86_16 P) (.node (o150_44 P) (.node (o278_73 P) .nil .nil) (.node (o406_73 P) .nil .nil)) (.node (o214_44 P) (.node (o342_73 P) .nil .nil) .nil)) (.node (o118_16 P) (.node (o182_44 P) (.node (o310_73 P) .nil .nil) .nil) (.node (o246_44 P) (.node (o374_73 P) .nil .nil) .nil)))) (.node (o30_16 P) (.node (o46_16 P) (.node (o78_16 P) (.node (o142_44 P) (.node (o270_73 P) .nil .nil) (.node (o398_73 P) .nil .nil)) (.node (o206_44 P) (.node (o334_73 P) .nil .nil) .nil)) (.node (o110_16 P) (.node (o174_44 P) (.node (o302_73 P) .nil .nil) .nil) (.node (o238_44 P) (.node (o366_73 P) .nil .nil) .nil))) (.node (o62_16 P) (.node (o94_16 P) (.node (o158_44 P) (.node (o286_73 P) .nil .nil) (.node (o414_73 P) .nil .nil)) (.node (o222_44 P) (.node (o350_73 P) .nil .nil) .nil)) (.node (o126_16 P) (.node (o190_44 P) (.node (o318_73 P) .nil .nil) .nil) (.node (o254_73 P) (.node (o382_73 P) .nil .nil) .nil))))))))
noncomputable def T5 (P : Params) : BT := (.node (boot_o_0 P) (.node (boot_o_1 P) (.node (o3_94 P) (.node (boot_o_7 P) (.node (o15_16 P) (.node (o31_16 P) (.node (o63_16 P) (.node (o127_16 P) (.node (o255_73 P) (.node (o511_94 P) .nil .nil) .nil) (.node (o383_73 P) .nil .nil)) (.node (o191_44 P) (.node (o319_73 P) .nil .nil) (.node (o447_94 P) .nil .nil))) (.node (o95_16 P) (.node (o159_44 P) (.node (o287_73 P) .nil .nil) (.node (o415_73 P) .nil .nil)) (.node (o223_44 P) (.node (o351_73 P) .nil .nil) (.node (o479_94 P) .nil .nil)))) (.node (o47_16 P) (.node (o79_16 P) (.node (o143_44 P) (.node (o271_73 P) (.node (o527_94 P) .nil .nil) .nil) (.node (o399_73 P) .nil .nil)) (.node (o207_44 P) (.node (o335_73 P) .nil .nil) (.node (o463_94 P) .nil .nil))) (.node (o111_16 P) (.node (o175_44 P) (.node (o303_73 P) .nil .nil) (.node (o431_94 P) .nil .nil)) (.node (o239_44 P) (.node (o367_73 P) .nil .nil) (.node (o495_94 P) .nil .nil))))) (.node (o23_16 P) (.node (o39_16 P) (.node (o71_16 P) (.node (o135_16 P) (.node (o263_73 P) (.node (o519_94 P) .nil .nil) .nil) (.node (o391_73 P) .nil .nil)) (.node (o199_44 P) (.node (o327_73 P) .nil .nil) (.node (o455_94 P) .nil .nil))) (.node (o103_16 P) (.node (o167_44 P) (.node (o295_73 P) .nil .nil) (.node (o423_94 P) .nil .nil)) (.node (o231_44 P) (.node (o359_73 P) .nil .nil) (.node (o487_94 P) .nil .nil)))) (.node (o55_16 P) (.node (o87_16 P) (.node (o151_44 P) (.node (o279_73 P) (.node (o535_94 P) .nil .nil) .nil) (.node (o407_73 P) .nil .nil)) (.node (o215_44 P) (.node (o343_73 P) .nil .nil) (.node (o471_94 P) .nil .nil))) (.node (o119_16 P) (.node (o183_44 P) (.node (o311_73 P) .nil .nil) (.node (o439_94 P) .nil .nil)) (.node (o247_44 P) (.node (o375_73 P) .nil .nil) (.node (o503_94 P) .nil .nil)))))) (.node (o11_0 P) (.node (o19_16 P) (.node (o35_16 P) (.node (o67_16 P) (.node (o131_16 P) (.node (o259_73 P) (.node (o515_94 P) .nil .nil) .nil) (.node (o387_73 P) .nil .nil)) (.node (o195_44 P) (.node (o323_73 P) .nil .nil) (.node (o451_94 P) .nil .nil))) (.node (o99_16 P) (.node (o163_44 P) (.node (o291_73 P) .nil .nil) (.node (o419_73 P) .nil .nil)) (.node (o227_44 P) (.node (o355_73 P) .nil .nil) (.node (o483_94 P) .nil .nil)))) (.node (o51_16 P) (.node (o83_16 P) (.node (o147_44 P) (.node (o275_73 P) (.node (o531_94 P) .nil .nil) .nil) (.node (o403_73 P) .nil .nil)) (.node (o211_44 P) (.node (o339_73 P) .nil .nil) (.node (o467_94 P) .nil .nil))) (.node (o115_16 P) (.node (o179_44 P) (.node (o307_73 P) .nil .nil) (.node (o435_94 P) .nil .nil)) (.node (o243_44 P) (.node (o371_73 P) .nil .nil) (.node (o499_94 P) .nil .nil))))) (.node (o27_16 P) (.node (o43_16 P) (.node (o75_16 P) (.node (o139_44 P) (.node (o267_73 P) (.node (o523_94 P) .nil .nil) .nil) (.node (o395_73 P) .nil .nil)) (.node (o203_44 P) (.node (o331_73 P) .nil .nil) (.node (o459_94 P) .nil .nil))) (.node (o107_16 P) (.node (o171_44 P) (.node (o299_73 P) .nil .nil) (.node (o427_94 P) .nil .nil)) (.node (o235_44 P) (.node (o363_73 P) .nil .nil) (.node (o491_94 P) .nil .nil)))) (.node (o59_16 P) (.node (o91_16 P) (.node (o155_44 P) (.node (o283_73 P) (.node (o539_94 P) .nil .nil) .nil) (.node (o411_73 P) .nil .nil)) (.node (o219_44 P) (.node (o347_73 P) .nil .nil) (.node (o475_94 P) .nil .nil))) (.node (o123_16 P) (.node (o187_44 P) (.node (o315_73 P) .nil .nil) (.node (o443_94 P) .nil .nil)) (.node (o251_73 P) (.node (o379_73 P) .nil .nil) (.node (o507_94 P) .nil .nil))))))) (.node (boot_o_5 P) (.node (boot_o_9 P) (.node (o17_16 P) (.node (o33_16 P) (.node (o65_16 P) (.node (o129_16 P) (.node (o257_73 P) (.node (o513_94 P) .nil .nil) .nil) (.node (o385_73 P) .nil .nil)) (.node (o193_44 P) (.node (o321_73 P) .nil .nil) (.node (o449_94 P) .nil .nil))) (.node (o97_16 P) (.node (o161_44 P) (.node (o289_73 P) .nil .nil) (.node (o417_73 P) .nil .nil)) (.node (o225_44 P) (.node (o353_73 P) .nil .nil) (.node (o481_94 P) .nil .nil)))) (.node (o49_16 P) (.node (o81_16 P) (.node (o145_44 P) (.node (o273_73 P) (.node (o529_94 P) .nil .nil) .nil) (.node (o401_73 P) .nil .nil)) (.node (o209_44 P) (.node (o337_73 P) .nil .nil) (.node (o465_94 P) .nil .nil))) (.node (o113_16 P) (.node (o177_44 P) (.node (o305_73 P) .nil .nil) (.node (o433_94 P) .nil .nil)) (.node (o241_44 P) (.node (o369_73 P) .nil .nil) (.node (o497_94 P) .nil .nil))))) (.node (o25_16 P) (.node (o41_16 P) (.node (o73_16 P) (.node (o137_44 P) (.node (o265_73 P) (.node (o521_94 P) .nil .nil) .nil) (.node (o393_73 P) .nil .nil)) (.node (o201_44 P) (.node (o329_73 P) .nil .nil) (.node (o457_94 P) .nil .nil))) (.node (o105_16 P) (.node (o169_44 P) (.node (o297_73 P) .nil .nil) (.node (o425_94 P) .nil .nil)) (.node (o233_44 P) (.node (o361_73 P) .nil .nil) (.node (o489_94 P) .nil .nil)))) (.node (o57_16 P) (.node (o89_16 P) (.node (o153_44 P) (.node (o281_73 P) (.node (o537_94 P) .nil .nil) .nil) (.node (o409_73 P) .nil .nil)) (.node (o217_44 P) (.node (o345_73 P) .nil .nil) (.node (o473_94 P) .nil .nil))) (.node (o121_16 P) (.node (o185_44 P) (.node (o313_73 P) .nil .nil) (.node (o441_94 P) .nil .nil)) (.node (o249_73 P) (.node (o377_73 P) .nil .nil) (.node (o505_94 P) .nil .nil)))))) (.node (o13_0 P) (.node (o21_16 P) (.node (o37_16 P) (.node (o69_16 P) (.node (o133_16 P) (.node (o261_73 P) (.node (o517_94 P) .nil .nil) .nil) (.node (o389_73 P) .nil .nil)) (.node (o197_44 P) (.node (o325_73 P) .nil .nil) (.node (o453_94 P) .nil .nil))) (.node (o101_16 P) (.node (o165_44 P) (.node (o293_73 P) .nil .nil) (.node (o421_76 P) .nil .nil)) (.node (o229_44 P) (.node (o357_73 P) .nil .nil) (.node (o485_94 P) .nil .nil)))) (.node (o53_16 P) (.node (o85_16 P) (.node (o149_44 P) (.node (o277_73 P) (.node (o533_94 P) .nil .nil) .nil) (.node (o405_73 P) .nil .nil)) (.node (o213_44 P) (.node (o341_73 P) .nil .nil) (.node (o469_94 P) .nil .nil))) (.node (o117_16 P) (.node (o181_44 P) (.node (o309_73 P) .nil .nil) (.node (o437_94 P) .nil .nil)) (.node (o245_44 P) (.node (o373_73 P) .nil .nil) (.node (o501_94 P) .nil .nil))))) (.node (o29_16 P) (.node (o45_16 P) (.node (o77_16 P) (.node (o141_44 P) (.node (o269_73 P) (.node (o525_94 P) .nil .nil) .nil) (.node (o397_73 P) .nil .nil)) (.node (o205_44 P) (.node (o333_73 P) .nil .nil) (.node (o461_94 P) .nil .nil))) (.node (o109_16 P) (.node (o173_44 P) (.node (o301_73 P) .nil .nil) (.node (o429_94 P) .nil .nil)) (.node (o237_44 P) (.node (o365_73 P) .nil .nil) (.node (o493_94 P) .nil .nil)))) (.node (o61_16 P) (.node (o93_16 P) (.node (o157_44 P) (.node (o285_73 P) (.node (o541_94 P) .nil .nil) .nil) (.node (o413_73 P) .nil .nil)) (.node (o221_44 P) (.node (o349_73 P) .nil .nil) (.node (o477_94 P) .nil .nil))) (.node (o125_16 P) (.node (o189_44 P) (.node (o317_73 P) .nil .nil) (.node (o445_94 P) .nil .nil)) (.node (o253_73 P) (.node (o381_73 P) .nil .nil) (.node (o509_94 P) .nil .nil)))))))) (.node (o2_16 P) (.node (boot_o_4 P) (.node (boot_o_8 P) (.node (o16_16 P) (.node (o32_16 P) (.node (o64_16 P) (.node (o128_16 P) (.node (o256_73 P) (.node (o512_94 P) .nil .nil) .nil) (.node (o384_73 P) .nil .nil)) (.node (o192_44 P) (.node (o320_73 P) .nil .nil) (.node (o448_94 P) .nil .nil))) (.node (o96_16 P) (.node (o160_44 P) (.node (o288_73 P) .nil .nil) (.node (o416_73 P) .nil .nil)) (.node (o224_44 P) (.node (o352_73 P) .nil .nil) (.node (o480_94 P) .nil .nil)))) (.node (o48_16 P) (.node (o80_16 P) (.node (o144_44 P) (.node (o272_73 P) (.node (o528_94 P) .nil .nil) .nil) (.node (o400_73 P) .nil .nil)) (.node (o208_44 P) (.node (o336_73 P) .nil .nil) (.node (o464_94 P) .nil .nil))) (.node (o112_16 P) (.node (o176_44 P) (.node (o304_73 P) .nil .nil) (.node (o432_94 P) .nil .nil)) (.node (o240_44 P) (.node (o368_73 P) .nil .nil) (.node (o496_94 P) .nil .nil))))) (.node (o24_16 P) (.node (o40_16 P) (.node (o72_16 P) (.node (o136_44 P) (.node (o264_73 P) (.node (o520_94 P) .nil .nil) .nil) (.node (o392_73 P) .nil .nil)) (.node (o200_44 P) (.node (o328_73 P) .nil .nil) (.node (o456_94 P) .nil .nil))) (.node (o104_16 P) (.node (o168_44 P) (.node (o296_73 P) .nil .nil) (.node (o424_94 P) .nil .nil)) (.node (o232_44 P) (.node (o360_73 P) .nil .nil) (.node (o488_94 P) .nil .nil)))) (.node (o56_16 P) (.node (o88_16 P) (.node (o152_44 P) (.node (o280_73 P) (.node (o536_94 P) .nil .nil) .nil) (.node (o408_73 P) .nil .nil)) (.node (o216_44 P) (.node (o344_73 P) .nil .nil) (.node (o472_94 P) .nil .nil))) (.node (o120_16 P) (.node (o184_44 P) (.node (o312_73 P) .nil .nil) (.node (o440_94 P) .nil .nil)) (.node (o248_44 P) (.node (o376_73 P) .nil .nil) (.node (o504_94 P) .nil .nil)))))) (.node (o12_94 P) (.node (o20_16 P) (.node (o36_16 P) (.node (o68_16 P) (.node (o132_16 P) (.node (o260_73 P) (.node (o516_94 P) .nil .nil) .nil) (.node (o388_73 P) .nil .nil)) (.node (o196_44 P) (.node (o324_73 P) .nil .nil) (.node (o452_94 P) .nil .nil))) (.node (o100_16 P) (.node (o164_44 P) (.node (o292_73 P) .nil .nil) (.node (o420_76 P) .nil .nil)) (.node (o228_44 P) (.node (o356_73 P) .nil .nil) (.node (o484_94 P) .nil .nil)))) (.node (o52_16 P) (.node (o84_16 P) (.node (o148_44 P) (.node (o276_73 P) (.node (o532_94 P) .nil .nil) .nil) (.node (o404_73 P) .nil .nil)) (.node (o212_44 P) (.node (o340_73 P) .nil .nil) (.node (o468_94 P) .nil .nil))) (.node (o116_16 P) (.node (o180_44 P) (.node (o308_73 P) .nil .nil) (.node (o436_94 P) .nil .nil)) (.node (o244_44 P) (.node (o372_73 P) .nil .nil) (.node (o500_94 P) .nil .nil))))) (.node (o28_16 P) (.node (o44_16 P) (.node (o76_16 P) (.node (o140_44 P) (.node (o268_73 P) (.node (o524_94 P) .nil .nil) .nil) (.node (o396_73 P) .nil .nil)) (.node (o204_44 P) (.node (o332_73 P) .nil .nil) (.node (o460_94 P) .nil .nil))) (.node (o108_16 P) (.node (o172_44 P) (.node (o300_73 P) .nil .nil) (.node (o428_94 P) .nil .nil)) (.node (o236_44 P) (.node (o364_73 P) .nil .nil) (.node (o492_94 P) .nil .nil)))) (.node (o60_16 P) (.node (o92_16 P) (.node (o156_44 P) (.node (o284_73 P) (.node (o540_94 P) .nil .nil) .nil) (.node (o412_73 P) .nil .nil)) (.node (o220_44 P) (.node (o348_73 P) .nil .nil) (.node (o476_94 P) .nil .nil))) (.node (o124_16 P) (.node (o188_44 P) (.node (o316_73 P) .nil .nil) (.node (o444_94 P) .nil .nil)) (.node (o252_73 P) (.node (o380_73 P) .nil .nil) (.node (o508_94 P) .nil .nil))))))) (.node (boot_o_6 P) (.node (boot_o_10 P) (.node (o18_16 P) (.node (o34_16 P) (.node (o66_16 P) (.node (o130_16 P) (.node (o258_73 P) (.node (o514_94 P) .nil .nil) .nil) (.node (o386_73 P) .nil .nil)) (.node (o194_44 P) (.node (o322_73 P) .nil .nil) (.node (o450_94 P) .nil .nil))) (.node (o98_16 P) (.node (o162_44 P) (.node (o290_73 P) .nil .nil) (.node (o418_73 P) .nil .nil)) (.node (o226_44 P) (.node (o354_73 P) .nil .nil) (.node (o482_94 P) .nil .nil)))) (.node (o50_16 P) (.node (o82_16 P) (.node (o146_44 P) (.node (o274_73 P) (.node (o530_94 P) .nil .nil) .nil) (.node (o402_73 P) .nil .nil)) (.node (o210_44 P) (.node (o338_73 P) .nil .nil) (.node (o466_94 P) .nil .nil))) (.node (o114_16 P) (.node (o178_44 P) (.node (o306_73 P) .nil .nil) (.node (o434_94 P) .nil .nil)) (.node (o242_44 P) (.node (o370_73 P) .nil .nil) (.node (o498_94 P) .nil .nil))))) (.node (o26_16 P) (.node (o42_16 P) (.node (o74_16 P) (.node (o138_44 P) (.node (o266_73 P) (.node (o522_94 P) .nil .nil) .nil) (.node (o394_73 P) .nil .nil)) (.node (o202_44 P) (.node (o330_73 P) .nil .nil) (.node (o458_94 P) .nil .nil))) (.node (o106_16 P) (.node (o170_44 P) (.node (o298_73 P) .nil .nil) (.node (o426_94 P) .nil .nil)) (.node (o234_44 P) (.node (o362_73 P) .nil .nil) (.node (o490_94 P) .nil .nil)))) (.node (o58_16 P) (.node (o90_16 P) (.node (o154_44 P) (.node (o282_73 P) (.node (o538_94 P) .nil .nil) .nil) (.node (o410_73 P) .nil .nil)) (.node (o218_44 P) (.node (o346_73 P) .nil .nil) (.node (o474_94 P) .nil .nil))) (.node (o122_16 P) (.node (o186_44 P) (.node (o314_73 P) .nil .nil) (.node (o442_94 P) .nil .nil)) (.node (o250_73 P) (.node (o378_73 P) .nil .nil) (.node (o506_94 P) .nil .nil)))))) (.node (o14_0 P) (.node (o22_16 P) (.node (o38_16 P) (.node (o70_16 P) (.node (o134_16 P) (.node (o262_73 P) (.node (o518_94 P) .nil .nil) .nil) (.node (o390_73 P) .nil .nil)) (.node (o198_44 P) (.node (o326_73 P) .nil .nil) (.node (o454_94 P) .nil .nil))) (.node (o102_16 P) (.node (o166_44 P) (.node (o294_73 P) .nil .nil) (.node (o422_76 P) .nil .nil)) (.node (o230_44 P) (.node (o358_73 P) .nil .nil) (.node (o486_94 P) .nil .nil)))) (.node (o54_16 P) (.node (o86_16 P) (.node (o150_44 P) (.node (o278_73 P) (.node (o534_94 P) .nil .nil) .nil) (.node (o406_73 P) .nil .nil)) (.node (o214_44 P) (.node (o342_73 P) .nil .nil) (.node (o470_94 P) .nil .nil))) (.node (o118_16 P) (.node (o182_44 P) (.node (o310_73 P) .nil .nil) (.node (o438_94 P) .nil .nil)) (.node (o246_44 P) (.node (o374_73 P) .nil .nil) (.node (o502_94 P) .nil .nil))))) (.node (o30_16 P) (.node (o46_16 P) (.node (o78_16 P) (.node (o142_44 P) (.node (o270_73 P) (.node (o526_94 P) .nil .nil) .nil) (.node (o398_73 P) .nil .nil)) (.node (o206_44 P) (.node (o334_73 P) .nil .nil) (.node (o462_94 P) .nil .nil))) (.node (o110_16 P) (.node (o174_44 P) (.node (o302_73 P) .nil .nil) (.node (o430_94 P) .nil .nil)) (.node (o238_44 P) (.node (o366_73 P) .nil .nil) (.node (o494_94 P) .nil .nil)))) (.node (o62_16 P) (.node (o94_16 P) (.node (o158_44 P) (.node (o286_73 P) (.node (o542_94 P) .nil .nil) .nil) (.node (o414_73 P) .nil .nil)) (.node (o222_44 P) (.node (o350_73 P) .nil .nil) (.node (o478_94 P) .nil .nil))) (.node (o126_16 P) (.node (o190_44 P) (.node (o318_73 P) .nil .nil) (.node (o446_94 P) .nil .nil)) (.node (o254_73 P) (.node (o382_73 P) .nil .nil) (.node (o510_94 P) .nil .nil)))))))))
theorem l_blk (w : World) (os : OsState) : blk0 w os = some (.next, (stt (T0 w.params) 15 187 os).abs, cE, pz) := by kernel_rfl
theorem r1 (w : World) (os : OsState) : Fast.tw10110043849684766642 tb0 PP w 11 an0 1 1015 (stt (T0 w.params) 15 187 os) (piecesOf (sg 0 16) envL cE pz [topFrame pz]) = some (.next, stt (T1 w.params) 136 352 os, cE, ⟨63, 0, 74, 36⟩) := by kernel_rfl
theorem r2 (w : World) (os : OsState) : Fast.tw10110043849684766642 tb0 PP w 11 an0 1 624 (stt (T1 w.params) 136 352 os) (piecesOf (sg 16 44) envL cE ⟨63, 0, 74, 36⟩ [topFrame pz]) = some (.next, stt (T2 w.params) 249 537 os, cE, ⟨169, 0, 173, 40⟩) := by kernel_rfl
theorem r3 (w : World) (os : OsState) : Fast.tw10110043849684766642 tb0 PP w 11 an0 1 831 (stt (T2 w.params) 249 537 os) (piecesOf (sg 44 73) envL cE ⟨169, 0, 173, 40⟩ [topFrame pz]) = some (.next, stt (T3 w.params) 420 798 os, cE, ⟨332, 0, 332, 8⟩) := by kernel_rfl
theorem r4f (w : World) (os : OsState) : Fast.tw10110043849684766642 tb0 PP (w.withFollow "special-get-raises" false) 11 an0 1 241 (stt (T3 (w.withFollow "special-get-raises" false).params) 420 798 os) (piecesOf (sg 73 76) envL cE ⟨332, 0, 332, 8⟩ [topFrame pz]) = some (.next, stt (T4 (w.withFollow "special-get-raises" false).params) 423 843 os, cE, ⟨335, 0, 335, 11⟩) := by kernel_rfl
theorem r4t (w : World) (os : OsState) : Fast.tw10110043849684766642 tb0 PP (w.withFollow "special-get-raises" true) 11 an0 1 241 (stt (T3 (w.withFollow "special-get-raises" true).params) 420 798 os) (piecesOf (sg 73 76) envL cE ⟨332, 0, 332, 8⟩ [topFrame pz]) = some (.next, stt (T4 (w.withFollow "special-get-raises" true).params) 423 843 os, cE, ⟨335, 0, 335, 11⟩) := by kernel_rfl
theorem r4 (w : World) (os : OsState) : Fast.tw10110043849684766642 tb0 PP w 11 an0 1 241 (stt (T3 w.params) 420 798 os) (piecesOf (sg 73 76) envL cE ⟨332, 0, 332, 8⟩ [topFrame pz]) = some (.next, stt (T4 w.params) 423 843 os, cE, ⟨335, 0, 335, 11⟩) := byRow2 "special-get-raises" (P := fun w => Fast.tw10110043849684766642 tb0 PP w 11 an0 1 241 (stt (T3 w.params) 420 798 os) (piecesOf (sg 73 76) envL cE ⟨332, 0, 332, 8⟩ [topFrame pz]) = some (.next, stt (T4 w.params) 423 843 os, cE, ⟨335, 0, 335, 11⟩)) (fun w => r4f w os) (fun w => r4t w os) w
theorem r5 (w : World) (os : OsState) : Fast.tw10110043849684766642 tb0 PP w 11 an0 1 733 (stt (T4 w.params) 423 843 os) (piecesOf (sg 76 94) envL cE ⟨335, 0, 335, 11⟩ [topFrame pz]) = some (.next, stt (T5 w.params) 543 1052 os, cE, ⟨453, 0, 474, 15⟩) := by kernel_rfl
noncomputable def H1 (P : Params) : Heap := ⟨⟨boot_o_0 P :: boot_o_1 P :: o2_16 P :: o3_94 P :: boot_o_4 P :: boot_o_5 P :: boot_o_6 P :: boot_o_7 P :: boot_o_8 P :: boot_o_9 P :: boot_o_10 P :: o11_0 P :: o12_94 P :: o13_0 P :: o14_0 P :: o15_16 P :: o16_16 P :: o17_16 P :: o18_16 P :: o19_16 P :: o20_16 P :: o21_16 P :: o22_16 P :: o23_16 P :: o24_16 P :: o25_16 P :: o26_16 P :: o27_16 P :: o28_16 P :: o29_16 P :: o30_16 P :: o31_16 P :: o32_16 P :: o33_16 P :: o34_16 P :: o35_16 P :: o36_16 P :: o37_16 P :: o38_16 P :: o39_16 P :: o40_16 P :: o41_16 P :: o42_16 P :: o43_16 P :: o44_16 P :: o45_16 P :: o46_16 P :: o47_16 P :: o48_16 P :: o49_16 P :: o50_16 P :: o51_16 P :: o52_16 P :: o53_16 P :: o54_16 P :: o55_16 P :: o56_16 P :: o57_16 P :: o58_16 P :: o59_16 P :: o60_16 P :: o61_16 P :: o62_16 P :: o63_16 P :: o64_16 P :: o65_16 P :: o66_16 P :: o67_16 P :: o68_16 P :: o69_16 P :: o70_16 P :: o71_16 P :: o72_16 P :: o73_16 P :: o74_16 P :: o75_16 P :: o76_16 P :: o77_16 P :: o78_16 P :: o79_16 P :: o80_16 P :: o81_16 P :: o82_16 P :: o83_16 P :: o84_16 P :: o85_16 P :: o86_16 P :: o87_16 P :: o88_16 P :: o89_16 P :: o90_16 P :: o91_16 P :: o92_16 P :: o93_16 P :: o94_16 P :: o95_16 P :: o96_16 P :: o97_16 P :: o98_16 P :: o99_16 P :: o100_16 P :: o101_16 P :: o102_16 P :: o103_16 P :: o104_16 P :: o105_16 P :: o106_16 P :: o107_16 P :: o108_16 P :: o109_16 P :: o110_16 P :: o111_16 P :: o112_16 P :: o113_16 P :: o114_16 P :: o115_16 P :: o116_16 P :: o117_16 P :: o118_16 P :: o119_16 P :: o120_16 P :: o121_16 P :: o122_16 P :: o123_16 P :: o124_16 P :: o125_16 P :: o126_16 P :: o127_16 P :: o128_16 P :: o129_16 P :: o130_16 P :: o131_16 P :: o132_16 P :: o133_16 P :: o134_16 P :: o135_16 P :: o136_44 P :: o137_44 P :: o138_44 P :: o139_44 P :: o140_44 P :: o141_44 P :: o142_44 P :: o143_44 P :: o144_44 P :: o145_44 P :: o146_44 P :: o147_44 P :: o148_44 P :: o149_44 P :: o150_44 P :: o151_44 P :: o152_44 P :: o153_44 P :: o154_44 P :: o155_44 P :: o156_44 P :: o157_44 P :: o158_44 P :: o159_44 P :: o160_44 P :: o161_44 P :: o162_44 P :: o163_44 P :: o164_44 P :: o165_44 P :: o166_44 P :: o167_44 P :: o168_44 P :: o169_44 P :: o170_44 P :: o171_44 P :: o172_44 P :: o173_44 P :: o174_44 P :: o175_44 P :: o176_44 P :: o177_44 P :: o178_44 P :: o179_44 P :: o180_44 P :: o181_44 P :: o182_44 P :: o183_44 P :: o184_44 P :: o185_44 P :: o186_44 P :: o187_44 P :: o188_44 P :: o189_44 P :: o190_44 P :: o191_44 P :: o192_44 P :: o193_44 P :: o194_44 P :: o195_44 P :: o196_44 P :: o197_44 P :: o198_44 P :: o199_44 P :: o200_44 P :: o201_44 P :: o202_44 P :: o203_44 P :: o204_44 P :: o205_44 P :: o206_44 P :: o207_44 P :: o208_44 P :: o209_44 P :: o210_44 P :: o211_44 P :: o212_44 P :: o213_44 P :: o214_44 P :: o215_44 P :: o216_44 P :: o217_44 P :: o218_44 P :: o219_44 P :: o220_44 P :: o221_44 P :: o222_44 P :: o223_44 P :: o224_44 P :: o225_44 P :: o226_44 P :: o227_44 P :: o228_44 P :: o229_44 P :: o230_44 P :: o231_44 P :: o232_44 P :: o233_44 P :: o234_44 P :: o235_44 P :: o236_44 P :: o237_44 P :: o238_44 P :: o239_44 P :: o240_44 P :: o241_44 P :: o242_44 P :: o243_44 P :: o244_44 P :: o245_44 P :: o246_44 P :: o247_44 P :: o248_44 P :: o249_73 P :: o250_73 P :: o251_73 P :: o252_73 P :: o253_73 P :: o254_73 P :: o255_73 P :: o256_73 P :: o257_73 P :: o258_73 P :: o259_73 P :: o260_73 P :: o261_73 P :: o262_73 P :: o263_73 P :: o264_73 P :: o265_73 P :: o266_73 P :: o267_73 P :: o268_73 P :: o269_73 P :: o270_73 P :: o271_73 P :: o272_73 P :: o273_73 P :: o274_73 P :: o275_73 P :: o276_73 P :: o277_73 P :: o278_73 P :: o279_73 P :: o280_73 P :: o281_73 P :: o282_73 P :: o283_73 P :: o284_73 P :: o285_73 P :: o286_73 P :: o287_73 P :: o288_73 P :: o289_73 P :: o290_73 P :: o291_73 P :: o292_73 P :: o293_73 P :: o294_73 P :: o295_73 P :: o296_73 P :: o297_73 P :: o298_73 P :: o299_73 P :: o300_73 P :: o301_73 P :: o302_73 P :: o303_73 P :: o304_73 P :: o305_73 P :: o306_73 P :: o307_73 P :: o308_73 P :: o309_73 P :: o310_73 P :: o311_73 P :: o312_73 P :: o313_73 P :: o314_73 P :: o315_73 P :: o316_73 P :: o317_73 P :: o318_73 P :: o319_73 P :: o320_73 P :: o321_73 P :: o322_73 P :: o323_73 P :: o324_73 P :: o325_73 P :: o326_73 P :: o327_73 P :: o328_73 P :: o329_73 P :: o330_73 P :: o331_73 P :: o332_73 P :: o333_73 P :: o334_73 P :: o335_73 P :: o336_73 P :: o337_73 P :: o338_73 P :: o339_73 P :: o340_73 P :: o341_73 P :: o342_73 P :: o343_73 P :: o344_73 P :: o345_73 P :: o346_73 P :: o347_73 P :: o348_73 P :: o349_73 P :: o350_73 P :: o351_73 P :: o352_73 P :: o353_73 P :: o354_73 P :: o355_73 P :: o356_73 P :: o357_73 P :: o358_73 P :: o359_73 P :: o360_73 P :: o361_73 P :: o362_73 P :: o363_73 P :: o364_73 P :: o365_73 P :: o366_73 P :: o367_73 P :: o368_73 P :: o369_73 P :: o370_73 P :: o371_73 P :: o372_73 P :: o373_73 P :: o374_73 P :: o375_73 P :: o376_73 P :: o377_73 P :: o378_73 P :: o379_73 P :: o380_73 P :: o381_73 P :: o382_73 P :: o383_73 P :: o384_73 P :: o385_73 P :: o386_73 P :: o387_73 P :: o388_73 P :: o389_73 P :: o390_73 P :: o391_73 P :: o392_73 P :: o393_73 P :: o394_73 P :: o395_73 P :: o396_73 P :: o397_73 P :: o398_73 P :: o399_73 P :: o400_73 P :: o401_73 P :: o402_73 P :: o403_73 P :: o404_73 P :: o405_73 P :: o406_73 P :: o407_73 P :: o408_73 P :: o409_73 P :: o410_73 P :: o411_73 P :: o412_73 P :: o413_73 P :: o414_73 P :: o415_73 P :: o416_73 P :: o417_73 P :: o418_73 P :: o419_73 P :: o420_76 P :: o421_76 P :: o422_76 P :: o423_94 P :: o424_94 P :: o425_94 P :: o426_94 P :: o427_94 P :: o428_94 P :: o429_94 P :: o430_94 P :: o431_94 P :: o432_94 P :: o433_94 P :: o434_94 P :: o435_94 P :: o436_94 P :: o437_94 P :: o438_94 P :: o439_94 P :: o440_94 P :: o441_94 P :: o442_94 P :: o443_94 P :: o444_94 P :: o445_94 P :: o446_94 P :: o447_94 P :: o448_94 P :: o449_94 P :: o450_94 P :: o451_94 P :: o452_94 P :: o453_94 P :: o454_94 P :: o455_94 P :: o456_94 P :: o457_94 P :: o458_94 P :: o459_94 P :: o460_94 P :: o461_94 P :: o462_94 P :: o463_94 P :: o464_94 P :: o465_94 P :: o466_94 P :: o467_94 P :: o468_94 P :: o469_94 P :: o470_94 P :: o471_94 P :: o472_94 P :: o473_94 P :: o474_94 P :: o475_94 P :: o476_94 P :: o477_94 P :: o478_94 P :: o479_94 P :: o480_94 P :: o481_94 P :: o482_94 P :: o483_94 P :: o484_94 P :: o485_94 P :: o486_94 P :: o487_94 P :: o488_94 P :: o489_94 P :: o490_94 P :: o491_94 P :: o492_94 P :: o493_94 P :: o494_94 P :: o495_94 P :: o496_94 P :: o497_94 P :: o498_94 P :: o499_94 P :: o500_94 P :: o501_94 P :: o502_94 P :: o503_94 P :: o504_94 P :: o505_94 P :: o506_94 P :: o507_94 P :: o508_94 P :: o509_94 P :: o510_94 P :: o511_94 P :: o512_94 P :: o513_94 P :: o514_94 P :: o515_94 P :: o516_94 P :: o517_94 P :: o518_94 P :: o519_94 P :: o520_94 P :: o521_94 P :: o522_94 P :: o523_94 P :: o524_94 P :: o525_94 P :: o526_94 P :: o527_94 P :: o528_94 P :: o529_94 P :: o530_94 P :: o531_94 P :: o532_94 P :: o533_94 P :: o534_94 P :: o535_94 P :: o536_94 P :: o537_94 P :: o538_94 P :: o539_94 P :: o540_94 P :: o541_94 P :: o542_94 P :: []⟩, {}⟩
theorem l_fin (w : World) (os : OsState) : Fast.tw14082659384304107361 tb0 PP w 11 an0 2 (stt (T5 w.params) 543 1052 os).abs ⟨doneF .next, cE, ⟨453, 0, 474, 15⟩, [topFrame pz]⟩ = some ⟨H1 w.params, #[], {}, 1052, os⟩ := by kernel_rfl
theorem l_app : bE = (sg 0 16 ++ (sg 16 44 ++ (sg 44 73 ++ (sg 73 76 ++ (sg 76 94 ++ []))))) := by kernel_rfl
abbrev M0 : Nat := 12 + (1 + (1015 + (624 + (831 + (241 + (733 + 2))))))
theorem l_run (w : World) (os : OsState) : topRun treeTable PP w 11 an0 M0 ⟨boot_heap w.params, #[], boot_drawn, boot_toks, os⟩ (topStub PP) = some ⟨H1 w.params, #[], {}, 1052, os⟩ := by
  have h1' := l_pre w os
  have h2' := l_blk w os
  have h9 := l_fin w os
  have h1 := r1 w os
  have h2 := r2 w os
  have h3 := r3 w os
  have h4 := r4 w os
  have h5 := r5 w os
  unfold pre0 at h1'
  unfold blk0 at h2'
  rw [← Fast.te15667345088766844465, tb0_eq, ← Fast.te11892475500146522536] at h1'
  rw [← Fast.te14374325043358763698, tb0_eq] at h2'
  rw [← Fast.te14082659384304107361, tb0_eq] at h9
  rw [← Fast.te10110043849684766642, tb0_eq] at h1
  rw [← Fast.te10110043849684766642, tb0_eq] at h2
  rw [← Fast.te10110043849684766642, tb0_eq] at h3
  rw [← Fast.te10110043849684766642, tb0_eq] at h4
  rw [← Fast.te10110043849684766642, tb0_eq] at h5
  have k1 := (piece_app (segRun_of h1) (piece_app (segRun_of h2) (piece_app (segRun_of h3) (piece_app (segRun_of h4) (piece_app (segRun_of h5) (piece_nil h9))))))
  rw [← l_app] at k1
  exact go_top h1' (piece_block h2' k1)

def V39 : Program := view PP [1, 2, 3, 5, 6, 7, 8, 9, 10, 11, 12, 13, 14, 15, 16, 18, 19, 20, 21, 22, 23, 24, 25, 27, 29, 30, 31, 32, 33, 34, 35, 36, 37, 38, 39, 40, 41, 42, 43, 44, 45, 46, 47, 48, 49, 50, 52, 53, 54, 55, 56, 57, 58, 59, 60, 61, 62, 63, 64, 66, 67, 68, 69, 70, 71, 73, 74, 75, 76, 77, 78, 79, 80, 81, 82, 83, 84, 85, 86, 88, 90, 91, 92, 93]
noncomputable def fnAt : Stmt → Option (Arguments × List Stmt × Scope) | .FunctionDef _ a b _ _ _ c _ _ _ => some (a, b, c) | _ => none
/-- what the law reaches of the top's objects; the parts of the text are the row's own -/
noncomputable def K39 : Params → Frag := fun P => (fun (a1_0 : Arguments) (b1_0 : List Stmt) (c1_0 : Scope) (_ : fnAt (inC 0 (stA 1)) = some (a1_0, b1_0, c1_0)) (a24 : Arguments) (b24 : List Stmt) (c24 : Scope) (_ : fnAt (stA 24) = some (a24, b24, c24)) (a27 : Arguments) (b27 : List Stmt) (c27 : Scope) (_ : fnAt (stA 27) = some (a27, b27, c27)) (a76 : Arguments) (b76 : List Stmt) (c76 : Scope) (_ : fnAt (stA 76) = some (a76, b76, c76)) (a78 : Arguments) (b78 : List Stmt) (c78 : Scope) (_ : fnAt (stA 78) = some (a78, b78, c78)) (a79 : Arguments) (b79 : List Stmt) (c79 : Scope) (_ : fnAt (stA 79) = some (a79, b79, c79)) (a80 : Arguments) (b80 : List Stmt) (c80 : Scope) (_ : fnAt (stA 80) = some (a80, b80, c80)) (a82 : Arguments) (b82 : List Stmt) (c82 : Scope) (_ : fnAt (stA 82) = some (a82, b82, c82)) (a83 : Arguments) (b83 : List Stmt) (c83 : Scope) (_ : fnAt (stA 83) = some (a83, b83, c83)) (a86 : Arguments) (b86 : List Stmt) (c86 : Scope) (_ : fnAt (stA 86) = some (a86, b86, c86)) (a88_0 : Arguments) (b88_0 : List Stmt) (c88_0 : Scope) (_ : fnAt (inC 0 (stA 88)) = some (a88_0, b88_0, c88_0)) (a91 : Arguments) (b91 : List Stmt) (c91 : Scope) (_ : fnAt (stA 91) = some (a91, b91, c91)) (a92 : Arguments) (b92 : List Stmt) (c92 : Scope) (_ : fnAt (stA 92) = some (a92, b92, c92)) (a93 : Arguments) (b93 : List Stmt) (c93 : Scope) (_ : fnAt (stA 93) = some (a93, b93, c93)) => (nat_lit 2, { cls := .none, data := .dict #[{ hash := PyData.keyHash P (Str.ofString "type.__subclasses__.Exception.0"), key := .str (Str.ofString "type.__subclasses__.Exception.0") 214, val := .int 31 0 }, { hash := PyData.keyHash P (Str.ofString "type.__subclasses__.Exception.n"), key := .str (Str.ofString "type.__subclasses__.Exception.n") 215, val := .int 1 0 }] 2 }) ::
  (nat_lit 3, { cls := .type "dict", data := .dict (List.toArray ({ hash := PyData.keyHash P (Str.ofString "__name__"), key := .str (Str.ofString "__name__") 165, val := .str (Str.ofString "law_pq0359_01") 1003 } :: { hash := PyData.keyHash P (Str.ofString "__doc__"), key := .str (Str.ofString "__doc__") 166, val := .none } :: { hash := PyData.keyHash P (Str.ofString "__package__"), key := .str (Str.ofString "__package__") 167, val := .none } :: { hash := PyData.keyHash P (Str.ofString "__loader__"), key := .str (Str.ofString "__loader__") 168, val := .builtin "__main__.__loader__#opaque" } :: { hash := PyData.keyHash P (Str.ofString "__spec__"), key := .str (Str.ofString "__spec__") 169, val := .none } :: { hash := PyData.keyHash P (Str.ofString "__annotations__"), key := .str (Str.ofString "__annotations__") 170, val := .ref 6 } :: { hash := PyData.keyHash P (Str.ofString "__builtins__"), key := .str (Str.ofString "__builtins__") 171, val := .ref 4 } :: { hash := PyData.keyHash P (Str.ofString "__file__"), key := .str (Str.ofString "__file__") 173, val := .str (Str.ofString "/claim/cut.py") 172 } :: { hash := PyData.keyHash P (Str.ofString "__cached__"), key := .str (Str.ofString "__cached__") 174, val := .none } :: { hash := PyData.keyHash P (Str.ofString "F77Error"), key := .str (Str.ofString "F77Error") 217, val := .ref 31 } :: { hash := PyData.keyHash P (Str.ofString "CheckFault"), key := .str (Str.ofString "CheckFault") 233, val := .ref 44 } :: { hash := PyData.keyHash P (Str.ofString "RunFault"), key := .str (Str.ofString "RunFault") 249, val := .ref 56 } :: { hash := PyData.keyHash P (Str.ofString "fit_int"), key := .str (Str.ofString "fit_int") 260, val := .ref 65 } :: { hash := PyData.keyHash P (Str.ofString "int_add"), key := .str (Str.ofString "int_add") 269, val := .ref 72 } :: { hash := PyData.keyHash P (Str.ofString "int_sub"), key := .str (Str.ofString "int_sub") 278, val := .ref 79 } :: { hash := PyData.keyHash P (Str.ofString "int_mul"), key := .str (Str.ofString "int_mul") 287, val := .ref 86 } :: { hash := PyData.keyHash P (Str.ofString "cut_quotient"), key := .str (Str.ofString "cut_quotient") 296, val := .ref 93 } :: { hash := PyData.keyHash P (Str.ofString "int_div"), key := .str (Str.ofString "int_div") 305, val := .ref 100 } :: { hash := PyData.keyHash P (Str.ofString "inverse_power"), key := .str (Str.ofString "inverse_power") 313, val := .ref 107 } :: { hash := PyData.keyHash P (Str.ofString "int_power"), key := .str (Str.ofString "int_power") 324, val := .ref 114 } :: { hash := PyData.keyHash P (Str.ofString "order_of"), key := .str (Str.ofString "order_of") 332, val := .ref 121 } :: { hash := PyData.keyHash P (Str.ofString "holds"), key := .str (Str.ofString "holds") 340, val := .ref 128 } :: { hash := PyData.keyHash P (Str.ofString "int_binary"), key := .str (Str.ofString "int_binary") 351, val := .ref 135 } :: { hash := PyData.keyHash P (Str.ofString "logic_binary"), key := .str (Str.ofString "logic_binary") 362, val := .ref 142 } :: { hash := PyData.keyHash P (Str.ofString "INTEGER"), key := .str (Str.ofString "INTEGER") 366, val := .int 0 365 } :: { hash := PyData.keyHash P (Str.ofString "REAL"), key := .str (Str.ofString "REAL") 368, val := .int 1 367 } :: { hash := PyData.keyHash P (Str.ofString "DOUBLE"), key := .str (Str.ofString "DOUBLE") 370, val := .int 2 369 } :: { hash := PyData.keyHash P (Str.ofString "COMPLEX"), key := .str (Str.ofString "COMPLEX") 372, val := .int 3 371 } :: { hash := PyData.keyHash P (Str.ofString "LOGICAL"), key := .str (Str.ofString "LOGICAL") 374, val := .int 4 373 } :: { hash := PyData.keyHash P (Str.ofString "CHARACTER"), key := .str (Str.ofString "CHARACTER") 376, val := .int 5 375 } :: { hash := PyData.keyHash P (Str.ofString "is_numeric"), key := .str (Str.ofString "is_numeric") 383, val := .ref 149 } :: { hash := PyData.keyHash P (Str.ofString "higher_kind"), key := .str (Str.ofString "higher_kind") 391, val := .ref 156 } :: { hash := PyData.keyHash P (Str.ofString "pad"), key := .str (Str.ofString "pad") 401, val := .ref 163 } :: { hash := PyData.keyHash P (Str.ofString "NOUGHT"), key := .str (Str.ofString "NOUGHT") 406, val := .ref 164 } :: { hash := PyData.keyHash P (Str.ofString "GUARD"), key := .str (Str.ofString "GUARD") 408, val := .int 8 407 } :: { hash := PyData.keyHash P (Str.ofString "EXACT_POWER"), key := .str (Str.ofString "EXACT_POWER") 410, val := .int 64 409 } :: { hash := PyData.keyHash P (Str.ofString "count_digits"), key := .str (Str.ofString "count_digits") 418, val := .ref 171 } :: { hash := PyData.keyHash P (Str.ofString "strip_zeros"), key := .str (Str.ofString "strip_zeros") 426, val := .ref 178 } :: { hash := PyData.keyHash P (Str.ofString "round_digits"), key := .str (Str.ofString "round_digits") 439, val := .ref 185 } :: { hash := PyData.keyHash P (Str.ofString "round_real"), key := .str (Str.ofString "round_real") 450, val := .ref 192 } :: { hash := PyData.keyHash P (Str.ofString "exact_add"), key := .str (Str.ofString "exact_add") 459, val := .ref 199 } :: { hash := PyData.keyHash P (Str.ofString "exact_mul"), key := .str (Str.ofString "exact_mul") 467, val := .ref 206 } :: { hash := PyData.keyHash P (Str.ofString "real_neg"), key := .str (Str.ofString "real_neg") 474, val := .ref 213 } :: { hash := PyData.keyHash P (Str.ofString "quotient"), key := .str (Str.ofString "quotient") 488, val := .ref 220 } :: { hash := PyData.keyHash P (Str.ofString "real_add"), key := .str (Str.ofString "real_add") 500, val := .ref 227 } :: { hash := PyData.keyHash P (Str.ofString "real_sub"), key := .str (Str.ofString "real_sub") 512, val := .ref 234 } :: { hash := PyData.keyHash P (Str.ofString "real_mul"), key := .str (Str.ofString "real_mul") 524, val := .ref 241 } :: { hash := PyData.keyHash P (Str.ofString "real_div"), key := .str (Str.ofString "real_div") 536, val := .ref 248 } :: { hash := PyData.keyHash P (Str.ofString "real_compare"), key := .str (Str.ofString "real_compare") 545, val := .ref 255 } :: { hash := PyData.keyHash P (Str.ofString "real_of_int"), key := .str (Str.ofString "real_of_int") 554, val := .ref 262 } :: { hash := PyData.keyHash P (Str.ofString "real_to_int"), key := .str (Str.ofString "real_to_int") 564, val := .ref 269 } :: { hash := PyData.keyHash P (Str.ofString "raised"), key := .str (Str.ofString "raised") 574, val := .ref 276 } :: { hash := PyData.keyHash P (Str.ofString "real_power"), key := .str (Str.ofString "real_power") 586, val := .ref 283 } :: { hash := PyData.keyHash P (Str.ofString "digits_of"), key := .str (Str.ofString "digits_of") 594, val := .ref 290 } :: { hash := PyData.keyHash P (Str.ofString "real_binary"), key := .str (Str.ofString "real_binary") 607, val := .ref 297 } :: { hash := PyData.keyHash P (Str.ofString "ONE"), key := .str (Str.ofString "ONE") 614, val := .ref 300 } :: { hash := PyData.keyHash P (Str.ofString "EXACT_COMPLEX_POWER"), key := .str (Str.ofString "EXACT_COMPLEX_POWER") 616, val := .int 16 615 } :: { hash := PyData.keyHash P (Str.ofString "round_parts"), key := .str (Str.ofString "round_parts") 625, val := .ref 307 } :: { hash := PyData.keyHash P (Str.ofString "complex_add"), key := .str (Str.ofString "complex_add") 635, val := .ref 314 } :: { hash := PyData.keyHash P (Str.ofString "complex_neg"), key := .str (Str.ofString "complex_neg") 642, val := .ref 321 } :: { hash := PyData.keyHash P (Str.ofString "complex_sub"), key := .str (Str.ofString "complex_sub") 652, val := .ref 328 } :: { hash := PyData.keyHash P (Str.ofString "exact_product"), key := .str (Str.ofString "exact_product") 661, val := .ref 335 } :: { hash := PyData.keyHash P (Str.ofString "complex_mul"), key := .str (Str.ofString "complex_mul") 671, val := .ref 342 } :: { hash := PyData.keyHash P (Str.ofString "complex_div"), key := .str (Str.ofString "complex_div") 685, val := .ref 349 } :: { hash := PyData.keyHash P (Str.ofString "guarded_product"), key := .str (Str.ofString "guarded_product") 696, val := .ref 356 } :: { hash := PyData.keyHash P (Str.ofString "complex_raised"), key := .str (Str.ofString "complex_raised") 707, val := .ref 363 } :: { hash := PyData.keyHash P (Str.ofString "complex_power"), key := .str (Str.ofString "complex_power") 718, val := .ref 370 } :: { hash := PyData.keyHash P (Str.ofString "complex_binary"), key := .str (Str.ofString "complex_binary") 731, val := .ref 377 } :: { hash := PyData.keyHash P (Str.ofString "collate"), key := .str (Str.ofString "collate") 742, val := .ref 384 } :: { hash := PyData.keyHash P (Str.ofString "text_binary"), key := .str (Str.ofString "text_binary") 753, val := .ref 391 } :: { hash := PyData.keyHash P (Str.ofString "binary"), key := .str (Str.ofString "binary") 764, val := .ref 398 } :: { hash := PyData.keyHash P (Str.ofString "unary"), key := .str (Str.ofString "unary") 774, val := .ref 405 } :: { hash := PyData.keyHash P (Str.ofString "real_as"), key := .str (Str.ofString "real_as") 785, val := .ref 412 } :: { hash := PyData.keyHash P (Str.ofString "convert"), key := .str (Str.ofString "convert") 795, val := .ref 419 } :: { hash := PyData.keyHash P (Str.ofString "ARITHMETIC"), key := .str (Str.ofString "ARITHMETIC") 810, val := .ref 420 } :: { hash := PyData.keyHash P (Str.ofString "RELATIONS"), key := .str (Str.ofString "RELATIONS") 829, val := .ref 421 } :: { hash := PyData.keyHash P (Str.ofString "CONNECTIVES"), key := .str (Str.ofString "CONNECTIVES") 842, val := .ref 422 } :: { hash := PyData.keyHash P (Str.ofString "constant_kind"), key := .str (Str.ofString "constant_kind") 850, val := .ref 429 } :: { hash := PyData.keyHash P (Str.ofString "part_value"), key := .str (Str.ofString "part_value") 858, val := .ref 436 } :: { hash := PyData.keyHash P (Str.ofString "constant_value"), key := .str (Str.ofString "constant_value") 867, val := .ref 443 } :: { hash := PyData.keyHash P (Str.ofString "eval_const"), key := .str (Str.ofString "eval_const") 877, val := .ref 450 } :: { hash := PyData.keyHash P (Str.ofString "const_of"), key := .str (Str.ofString "const_of") 886, val := .ref 457 } :: { hash := PyData.keyHash P (Str.ofString "const_sign"), key := .str (Str.ofString "const_sign") 897, val := .ref 464 } :: { hash := PyData.keyHash P (Str.ofString "check_text"), key := .str (Str.ofString "check_text") 905, val := .ref 471 } :: { hash := PyData.keyHash P (Str.ofString "const_pair"), key := .str (Str.ofString "const_pair") 916, val := .ref 478 } :: { hash := PyData.keyHash P (Str.ofString "as_kind"), key := .str (Str.ofString "as_kind") 925, val := .ref 485 } :: { hash := PyData.keyHash P (Str.ofString "const_relation"), key := .str (Str.ofString "const_relation") 936, val := .ref 492 } :: { hash := PyData.keyHash P (Str.ofString "named_const"), key := .str (Str.ofString "named_const") 949, val := .ref 499 } :: { hash := PyData.keyHash P (Str.ofString "Limits"), key := .str (Str.ofString "Limits") 1002, val := .ref 517 } :: { hash := PyData.keyHash P (Str.ofString "_law_names"), key := .str (Str.ofString "_law_names") 1006, val := .str (Str.ofString "ABCDEFG") 1005 } :: { hash := PyData.keyHash P (Str.ofString "_law_pull"), key := .str (Str.ofString "_law_pull") 1015, val := .ref 528 } :: { hash := PyData.keyHash P (Str.ofString "_law_tree"), key := .str (Str.ofString "_law_tree") 1033, val := .ref 535 } :: { hash := PyData.keyHash P (Str.ofString "law"), key := .str (Str.ofString "law") 1051, val := .ref 542 } :: [])) 93 }) ::
  (nat_lit 15, { cls := .type "tuple", data := .seq #[.type "Exception"] 0 }) ::
  (nat_lit 22, { cls := .type "tuple", data := .seq #[] 0 }) ::
  (nat_lit 24, { cls := .type "tuple", data := .seq #[.str (Str.ofString "self") 204, .str (Str.ofString "text") 205] 0 }) ::
  (nat_lit 25, { cls := .type "tuple", data := .seq #[] 0 }) ::
  (nat_lit 27, { cls := .type "code", data := .fields #[.str (Str.ofString "__init__") 201, .str (Str.ofString "F77Error.__init__") 202, .str (Str.ofString "/claim/cut.py") 203, .int 4 0, .int 2 0, .int 0 0, .int 0 0, .int 3 0, .ref 22, .bool true, .int 181 0, .ref 23, .none, .ref 24, .ref 25, .ref 26, .int 206 0, .int 4 0, .str (Str.ofString "/claim/cut.py") 207] }) ::
  (nat_lit 28, { cls := .type "function", data := .func { name := Str.ofString "__init__", qualname := Str.ofString "F77Error.__init__", params := a1_0, body := .stmts b1_0, scope := c1_0, globals := 3, closure := [], defaults := .none, kwdefaults := .none, doc := .none, pyModule := .str (Str.ofString "f77.errors") 187, annotations := .none, code := .ref 27, closureTuple := .none, builtins := 0 } }) ::
  (nat_lit 29, { cls := .type "tuple", data := .seq #[.str (Str.ofString "text") 209] 0 }) ::
  (nat_lit 30, { cls := .type "dict", data := .dict #[{ hash := PyData.keyHash P (Str.ofString "__module__"), key := .str (Str.ofString "__module__") 196, val := .str (Str.ofString "f77.errors") 187 }, { hash := PyData.keyHash P (Str.ofString "__firstlineno__"), key := .str (Str.ofString "__firstlineno__") 200, val := .int 2 199 }, { hash := PyData.keyHash P (Str.ofString "__init__"), key := .str (Str.ofString "__init__") 208, val := .ref 28 }, { hash := PyData.keyHash P (Str.ofString "__static_attributes__"), key := .str (Str.ofString "__static_attributes__") 210, val := .ref 29 }, { hash := PyData.keyHash P (Str.ofString "__weakref__"), key := .str (Str.ofString "__weakref__") 212, val := .ref 32 }, { hash := PyData.keyHash P (Str.ofString "__doc__"), key := .str (Str.ofString "__doc__") 213, val := .none }] 3 }) ::
  (nat_lit 31, { cls := .type "type", data := .cls { name := Str.ofString "F77Error", bases := [.type "Exception"], mro := [.ref 31, .type "Exception", .type "BaseException", .type "object"], ns := 30, qualname := Str.ofString "F77Error", hasDict := true, slotNames := [], subclasses := [.ref 44, .ref 56], abstract := false, collection := .none, hasDel := false }, slots := #[.some (.ref 15), .none, .some (.str (Str.ofString "F77Error") 189), .some (.str (Str.ofString "F77Error") 197), .some (.builtin "Exception.__new__"), .some (.bool true)] }) ::
  (nat_lit 32, { cls := .type "getset_descriptor", data := .fields #[.str (Str.ofString "__weakref__") 211, .ref 31, .builtin "ExceptionGroup.__weakref__", .none] }) ::
  (nat_lit 35, { cls := .type "tuple", data := .seq #[.ref 31] 0 }) ::
  (nat_lit 42, { cls := .type "tuple", data := .seq #[] 0 }) ::
  (nat_lit 43, { cls := .type "dict", data := .dict #[{ hash := PyData.keyHash P (Str.ofString "__module__"), key := .str (Str.ofString "__module__") 225, val := .str (Str.ofString "f77.errors") 187 }, { hash := PyData.keyHash P (Str.ofString "__firstlineno__"), key := .str (Str.ofString "__firstlineno__") 229, val := .int 7 228 }, { hash := PyData.keyHash P (Str.ofString "__static_attributes__"), key := .str (Str.ofString "__static_attributes__") 230, val := .ref 42 }, { hash := PyData.keyHash P (Str.ofString "__doc__"), key := .str (Str.ofString "__doc__") 231, val := .none }] 2 }) ::
  (nat_lit 44, { cls := .type "type", data := .cls { name := Str.ofString "CheckFault", bases := [.ref 31], mro := [.ref 44, .ref 31, .type "Exception", .type "BaseException", .type "object"], ns := 43, qualname := Str.ofString "CheckFault", hasDict := true, slotNames := [], subclasses := [], abstract := false, collection := .none, hasDel := false }, slots := #[.some (.ref 35), .none, .some (.str (Str.ofString "CheckFault") 218), .some (.str (Str.ofString "CheckFault") 226), .some (.builtin "Exception.__new__"), .some (.bool true)] }) ::
  (nat_lit 47, { cls := .type "tuple", data := .seq #[.ref 31] 0 }) ::
  (nat_lit 54, { cls := .type "tuple", data := .seq #[] 0 }) ::
  (nat_lit 55, { cls := .type "dict", data := .dict #[{ hash := PyData.keyHash P (Str.ofString "__module__"), key := .str (Str.ofString "__module__") 241, val := .str (Str.ofString "f77.errors") 187 }, { hash := PyData.keyHash P (Str.ofString "__firstlineno__"), key := .str (Str.ofString "__firstlineno__") 245, val := .int 9 244 }, { hash := PyData.keyHash P (Str.ofString "__static_attributes__"), key := .str (Str.ofString "__static_attributes__") 246, val := .ref 54 }, { hash := PyData.keyHash P (Str.ofString "__doc__"), key := .str (Str.ofString "__doc__") 247, val := .none }] 2 }) ::
  (nat_lit 56, { cls := .type "type", data := .cls { name := Str.ofString "RunFault", bases := [.ref 31], mro := [.ref 56, .ref 31, .type "Exception", .type "BaseException", .type "object"], ns := 55, qualname := Str.ofString "RunFault", hasDict := true, slotNames := [], subclasses := [], abstract := false, collection := .none, hasDel := false }, slots := #[.some (.ref 47), .none, .some (.str (Str.ofString "RunFault") 234), .some (.str (Str.ofString "RunFault") 242), .some (.builtin "Exception.__new__"), .some (.bool true)] }) ::
  (nat_lit 143, { cls := .type "tuple", data := .seq #[] 0 }) ::
  (nat_lit 145, { cls := .type "tuple", data := .seq #[.str (Str.ofString "kind") 380] 0 }) ::
  (nat_lit 146, { cls := .type "tuple", data := .seq #[] 0 }) ::
  (nat_lit 148, { cls := .type "code", data := .fields #[.str (Str.ofString "is_numeric") 377, .str (Str.ofString "is_numeric") 378, .str (Str.ofString "/claim/cut.py") 379, .int 92 0, .int 1 0, .int 0 0, .int 0 0, .int 3 0, .ref 143, .bool true, .int 181 0, .ref 144, .none, .ref 145, .ref 146, .ref 147, .int 381 0, .int 92 0, .str (Str.ofString "/claim/cut.py") 382] }) ::
  (nat_lit 149, { cls := .type "function", data := .func { name := Str.ofString "is_numeric", qualname := Str.ofString "is_numeric", params := a24, body := .stmts b24, scope := c24, globals := 3, closure := [], defaults := .none, kwdefaults := .none, doc := .none, pyModule := .str (Str.ofString "f77.kinds") 363, annotations := .none, code := .ref 148, closureTuple := .none, builtins := 0 } }) ::
  (nat_lit 157, { cls := .type "tuple", data := .seq #[] 0 }) ::
  (nat_lit 159, { cls := .type "tuple", data := .seq #[.str (Str.ofString "text") 397, .str (Str.ofString "length") 398] 0 }) ::
  (nat_lit 160, { cls := .type "tuple", data := .seq #[] 0 }) ::
  (nat_lit 162, { cls := .type "code", data := .fields #[.str (Str.ofString "pad") 394, .str (Str.ofString "pad") 395, .str (Str.ofString "/claim/cut.py") 396, .int 101 0, .int 2 0, .int 0 0, .int 0 0, .int 3 0, .ref 157, .bool true, .int 181 0, .ref 158, .none, .ref 159, .ref 160, .ref 161, .int 399 0, .int 101 0, .str (Str.ofString "/claim/cut.py") 400] }) ::
  (nat_lit 163, { cls := .type "function", data := .func { name := Str.ofString "pad", qualname := Str.ofString "pad", params := a27, body := .stmts b27, scope := c27, globals := 3, closure := [], defaults := .none, kwdefaults := .none, doc := .none, pyModule := .str (Str.ofString "f77.memory") 392, annotations := .none, code := .ref 162, closureTuple := .none, builtins := 0 } }) ::
  (nat_lit 420, { cls := .type "dict", data := .dict #[{ hash := PyData.keyHash P (Str.ofString "+"), key := .str (Str.ofString "+") 798, val := .str (Str.ofString "add") 799 }, { hash := PyData.keyHash P (Str.ofString "-"), key := .str (Str.ofString "-") 800, val := .str (Str.ofString "sub") 801 }, { hash := PyData.keyHash P (Str.ofString "*"), key := .str (Str.ofString "*") 802, val := .str (Str.ofString "mul") 803 }, { hash := PyData.keyHash P (Str.ofString "/"), key := .str (Str.ofString "/") 804, val := .str (Str.ofString "div") 805 }] 4 }) ::
  (nat_lit 421, { cls := .type "dict", data := .dict #[{ hash := PyData.keyHash P (Str.ofString ".EQ."), key := .str (Str.ofString ".EQ.") 811, val := .str (Str.ofString "eq") 812 }, { hash := PyData.keyHash P (Str.ofString ".NE."), key := .str (Str.ofString ".NE.") 813, val := .str (Str.ofString "ne") 814 }, { hash := PyData.keyHash P (Str.ofString ".LT."), key := .str (Str.ofString ".LT.") 815, val := .str (Str.ofString "lt") 816 }, { hash := PyData.keyHash P (Str.ofString ".LE."), key := .str (Str.ofString ".LE.") 817, val := .str (Str.ofString "le") 818 }, { hash := PyData.keyHash P (Str.ofString ".GT."), key := .str (Str.ofString ".GT.") 819, val := .str (Str.ofString "gt") 820 }, { hash := PyData.keyHash P (Str.ofString ".GE."), key := .str (Str.ofString ".GE.") 821, val := .str (Str.ofString "ge") 822 }] 6 }) ::
  (nat_lit 422, { cls := .type "dict", data := .dict #[{ hash := PyData.keyHash P (Str.ofString ".AND."), key := .str (Str.ofString ".AND.") 830, val := .str (Str.ofString "and") 831 }, { hash := PyData.keyHash P (Str.ofString ".OR."), key := .str (Str.ofString ".OR.") 832, val := .str (Str.ofString "or") 833 }, { hash := PyData.keyHash P (Str.ofString ".EQV."), key := .str (Str.ofString ".EQV.") 834, val := .str (Str.ofString "eqv") 835 }, { hash := PyData.keyHash P (Str.ofString ".NEQV."), key := .str (Str.ofString ".NEQV.") 836, val := .str (Str.ofString "neqv") 837 }] 4 }) ::
  (nat_lit 423, { cls := .type "tuple", data := .seq #[] 0 }) ::
  (nat_lit 425, { cls := .type "tuple", data := .seq #[.str (Str.ofString "tree") 846, .str (Str.ofString "kinds") 847] 0 }) ::
  (nat_lit 426, { cls := .type "tuple", data := .seq #[] 0 }) ::
  (nat_lit 428, { cls := .type "code", data := .fields #[.str (Str.ofString "constant_kind") 843, .str (Str.ofString "constant_kind") 844, .str (Str.ofString "/claim/cut.py") 845, .int 336 0, .int 1 0, .int 0 0, .int 0 0, .int 3 0, .ref 423, .bool true, .int 181 0, .ref 424, .none, .ref 425, .ref 426, .ref 427, .int 848 0, .int 336 0, .str (Str.ofString "/claim/cut.py") 849] }) ::
  (nat_lit 429, { cls := .type "function", data := .func { name := Str.ofString "constant_kind", qualname := Str.ofString "constant_kind", params := a76, body := .stmts b76, scope := c76, globals := 3, closure := [], defaults := .none, kwdefaults := .none, doc := .none, pyModule := .str (Str.ofString "f77.consts") 796, annotations := .none, code := .ref 428, closureTuple := .none, builtins := 0 } }) ::
  (nat_lit 437, { cls := .type "tuple", data := .seq #[] 0 }) ::
  (nat_lit 439, { cls := .type "tuple", data := .seq #[.str (Str.ofString "tree") 862, .str (Str.ofString "limits") 863, .str (Str.ofString "kind") 864] 0 }) ::
  (nat_lit 440, { cls := .type "tuple", data := .seq #[] 0 }) ::
  (nat_lit 442, { cls := .type "code", data := .fields #[.str (Str.ofString "constant_value") 859, .str (Str.ofString "constant_value") 860, .str (Str.ofString "/claim/cut.py") 861, .int 343 0, .int 2 0, .int 0 0, .int 0 0, .int 3 0, .ref 437, .bool true, .int 181 0, .ref 438, .none, .ref 439, .ref 440, .ref 441, .int 865 0, .int 343 0, .str (Str.ofString "/claim/cut.py") 866] }) ::
  (nat_lit 443, { cls := .type "function", data := .func { name := Str.ofString "constant_value", qualname := Str.ofString "constant_value", params := a78, body := .stmts b78, scope := c78, globals := 3, closure := [], defaults := .none, kwdefaults := .none, doc := .none, pyModule := .str (Str.ofString "f77.consts") 796, annotations := .none, code := .ref 442, closureTuple := .none, builtins := 0 } }) ::
  (nat_lit 444, { cls := .type "tuple", data := .seq #[] 0 }) ::
  (nat_lit 446, { cls := .type "tuple", data := .seq #[.str (Str.ofString "tree") 871, .str (Str.ofString "values") 872, .str (Str.ofString "limits") 873, .str (Str.ofString "fault") 874] 0 }) ::
  (nat_lit 447, { cls := .type "tuple", data := .seq #[] 0 }) ::
  (nat_lit 449, { cls := .type "code", data := .fields #[.str (Str.ofString "eval_const") 868, .str (Str.ofString "eval_const") 869, .str (Str.ofString "/claim/cut.py") 870, .int 352 0, .int 3 0, .int 0 0, .int 0 0, .int 3 0, .ref 444, .bool true, .int 181 0, .ref 445, .none, .ref 446, .ref 447, .ref 448, .int 875 0, .int 352 0, .str (Str.ofString "/claim/cut.py") 876] }) ::
  (nat_lit 450, { cls := .type "function", data := .func { name := Str.ofString "eval_const", qualname := Str.ofString "eval_const", params := a79, body := .stmts b79, scope := c79, globals := 3, closure := [], defaults := .none, kwdefaults := .none, doc := .none, pyModule := .str (Str.ofString "f77.consts") 796, annotations := .none, code := .ref 449, closureTuple := .none, builtins := 0 } }) ::
  (nat_lit 451, { cls := .type "tuple", data := .seq #[] 0 }) ::
  (nat_lit 453, { cls := .type "tuple", data := .seq #[.str (Str.ofString "tree") 881, .str (Str.ofString "values") 882, .str (Str.ofString "limits") 883] 0 }) ::
  (nat_lit 454, { cls := .type "tuple", data := .seq #[] 0 }) ::
  (nat_lit 456, { cls := .type "code", data := .fields #[.str (Str.ofString "const_of") 878, .str (Str.ofString "const_of") 879, .str (Str.ofString "/claim/cut.py") 880, .int 357 0, .int 3 0, .int 0 0, .int 0 0, .int 3 0, .ref 451, .bool true, .int 181 0, .ref 452, .none, .ref 453, .ref 454, .ref 455, .int 884 0, .int 357 0, .str (Str.ofString "/claim/cut.py") 885] }) ::
  (nat_lit 457, { cls := .type "function", data := .func { name := Str.ofString "const_of", qualname := Str.ofString "const_of", params := a80, body := .stmts b80, scope := c80, globals := 3, closure := [], defaults := .none, kwdefaults := .none, doc := .none, pyModule := .str (Str.ofString "f77.consts") 796, annotations := .none, code := .ref 456, closureTuple := .none, builtins := 0 } }) ::
  (nat_lit 465, { cls := .type "tuple", data := .seq #[] 0 }) ::
  (nat_lit 467, { cls := .type "tuple", data := .seq #[.str (Str.ofString "length") 901, .str (Str.ofString "limits") 902] 0 }) ::
  (nat_lit 468, { cls := .type "tuple", data := .seq #[] 0 }) ::
  (nat_lit 470, { cls := .type "code", data := .fields #[.str (Str.ofString "check_text") 898, .str (Str.ofString "check_text") 899, .str (Str.ofString "/claim/cut.py") 900, .int 382 0, .int 2 0, .int 0 0, .int 0 0, .int 3 0, .ref 465, .bool true, .int 181 0, .ref 466, .none, .ref 467, .ref 468, .ref 469, .int 903 0, .int 382 0, .str (Str.ofString "/claim/cut.py") 904] }) ::
  (nat_lit 471, { cls := .type "function", data := .func { name := Str.ofString "check_text", qualname := Str.ofString "check_text", params := a82, body := .stmts b82, scope := c82, globals := 3, closure := [], defaults := .none, kwdefaults := .none, doc := .none, pyModule := .str (Str.ofString "f77.consts") 796, annotations := .none, code := .ref 470, closureTuple := .none, builtins := 0 } }) ::
  (nat_lit 472, { cls := .type "tuple", data := .seq #[] 0 }) ::
  (nat_lit 474, { cls := .type "tuple", data := .seq #[.str (Str.ofString "op") 909, .str (Str.ofString "left") 910, .str (Str.ofString "right") 911, .str (Str.ofString "limits") 912, .str (Str.ofString "kind") 913] 0 }) ::
  (nat_lit 475, { cls := .type "tuple", data := .seq #[] 0 }) ::
  (nat_lit 477, { cls := .type "code", data := .fields #[.str (Str.ofString "const_pair") 906, .str (Str.ofString "const_pair") 907, .str (Str.ofString "/claim/cut.py") 908, .int 385 0, .int 4 0, .int 0 0, .int 0 0, .int 3 0, .ref 472, .bool true, .int 181 0, .ref 473, .none, .ref 474, .ref 475, .ref 476, .int 914 0, .int 385 0, .str (Str.ofString "/claim/cut.py") 915] }) ::
  (nat_lit 478, { cls := .type "function", data := .func { name := Str.ofString "const_pair", qualname := Str.ofString "const_pair", params := a83, body := .stmts b83, scope := c83, globals := 3, closure := [], defaults := .none, kwdefaults := .none, doc := .none, pyModule := .str (Str.ofString "f77.consts") 796, annotations := .none, code := .ref 477, closureTuple := .none, builtins := 0 } }) ::
  (nat_lit 493, { cls := .type "tuple", data := .seq #[] 0 }) ::
  (nat_lit 495, { cls := .type "tuple", data := .seq #[.str (Str.ofString "tree") 940, .str (Str.ofString "kind") 941, .str (Str.ofString "length") 942, .str (Str.ofString "values") 943, .str (Str.ofString "limits") 944, .str (Str.ofString "told") 945, .str (Str.ofString "fault") 946] 0 }) ::
  (nat_lit 496, { cls := .type "tuple", data := .seq #[] 0 }) ::
  (nat_lit 498, { cls := .type "code", data := .fields #[.str (Str.ofString "named_const") 937, .str (Str.ofString "named_const") 938, .str (Str.ofString "/claim/cut.py") 939, .int 410 0, .int 5 0, .int 0 0, .int 0 0, .int 3 0, .ref 493, .bool true, .int 181 0, .ref 494, .none, .ref 495, .ref 496, .ref 497, .int 947 0, .int 410 0, .str (Str.ofString "/claim/cut.py") 948] }) ::
  (nat_lit 499, { cls := .type "function", data := .func { name := Str.ofString "named_const", qualname := Str.ofString "named_const", params := a86, body := .stmts b86, scope := c86, globals := 3, closure := [], defaults := .none, kwdefaults := .none, doc := .none, pyModule := .str (Str.ofString "f77.consts") 796, annotations := .none, code := .ref 498, closureTuple := .none, builtins := 0 } }) ::
  (nat_lit 507, { cls := .type "tuple", data := .seq #[.int 32 964, .int 7 965, .int 15 966, .int 38 967, .int 1000000 968, .int 19 969, .int 72 970, .int 40 971] 0 }) ::
  (nat_lit 508, { cls := .type "tuple", data := .seq #[] 0 }) ::
  (nat_lit 510, { cls := .type "tuple", data := .seq #[.str (Str.ofString "self") 975, .str (Str.ofString "width") 976, .str (Str.ofString "real_digits") 977, .str (Str.ofString "double_digits") 978, .str (Str.ofString "top_exponent") 979, .str (Str.ofString "steps") 980, .str (Str.ofString "continuations") 981, .str (Str.ofString "columns") 982, .str (Str.ofString "depth") 983] 0 }) ::
  (nat_lit 511, { cls := .type "tuple", data := .seq #[] 0 }) ::
  (nat_lit 513, { cls := .type "code", data := .fields #[.str (Str.ofString "__init__") 972, .str (Str.ofString "Limits.__init__") 973, .str (Str.ofString "/claim/cut.py") 974, .int 426 0, .int 9 0, .int 0 0, .int 0 0, .int 3 0, .ref 508, .bool true, .int 181 0, .ref 509, .none, .ref 510, .ref 511, .ref 512, .int 984 0, .int 426 0, .str (Str.ofString "/claim/cut.py") 985] }) ::
  (nat_lit 514, { cls := .type "function", data := .func { name := Str.ofString "__init__", qualname := Str.ofString "Limits.__init__", params := a88_0, body := .stmts b88_0, scope := c88_0, globals := 3, closure := [], defaults := .ref 507, kwdefaults := .none, doc := .none, pyModule := .str (Str.ofString "f77.limits") 950, annotations := .none, code := .ref 513, closureTuple := .none, builtins := 0 } }) ::
  (nat_lit 515, { cls := .type "tuple", data := .seq #[.str (Str.ofString "columns") 987, .str (Str.ofString "continuations") 988, .str (Str.ofString "depth") 989, .str (Str.ofString "double_digits") 990, .str (Str.ofString "real_digits") 991, .str (Str.ofString "steps") 992, .str (Str.ofString "top_exponent") 993, .str (Str.ofString "width") 994] 0 }) ::
  (nat_lit 516, { cls := .type "dict", data := .dict #[{ hash := PyData.keyHash P (Str.ofString "__module__"), key := .str (Str.ofString "__module__") 959, val := .str (Str.ofString "f77.limits") 950 }, { hash := PyData.keyHash P (Str.ofString "__firstlineno__"), key := .str (Str.ofString "__firstlineno__") 963, val := .int 424 962 }, { hash := PyData.keyHash P (Str.ofString "__init__"), key := .str (Str.ofString "__init__") 986, val := .ref 514 }, { hash := PyData.keyHash P (Str.ofString "__static_attributes__"), key := .str (Str.ofString "__static_attributes__") 995, val := .ref 515 }, { hash := PyData.keyHash P (Str.ofString "__dict__"), key := .str (Str.ofString "__dict__") 997, val := .ref 518 }, { hash := PyData.keyHash P (Str.ofString "__weakref__"), key := .str (Str.ofString "__weakref__") 999, val := .ref 519 }, { hash := PyData.keyHash P (Str.ofString "__doc__"), key := .str (Str.ofString "__doc__") 1000, val := .none }] 4 }) ::
  (nat_lit 517, { cls := .type "type", data := .cls { name := Str.ofString "Limits", bases := [.type "object"], mro := [.ref 517, .type "object"], ns := 516, qualname := Str.ofString "Limits", hasDict := true, slotNames := [], subclasses := [], abstract := false, collection := .none, hasDel := false }, slots := #[.none, .none, .some (.str (Str.ofString "Limits") 952), .some (.str (Str.ofString "Limits") 960), .some (.builtin "object.__new__"), .some (.bool true)] }) ::
  (nat_lit 518, { cls := .type "getset_descriptor", data := .fields #[.str (Str.ofString "__dict__") 996, .ref 517, .builtin "function.__dict__", .builtin "function.__dict__#set"] }) ::
  (nat_lit 519, { cls := .type "getset_descriptor", data := .fields #[.str (Str.ofString "__weakref__") 998, .ref 517, .builtin "ExceptionGroup.__weakref__", .none] }) ::
  (nat_lit 522, { cls := .type "tuple", data := .seq #[] 0 }) ::
  (nat_lit 524, { cls := .type "tuple", data := .seq #[.str (Str.ofString "cells") 1010, .str (Str.ofString "many") 1011, .str (Str.ofString "at") 1012] 0 }) ::
  (nat_lit 525, { cls := .type "tuple", data := .seq #[] 0 }) ::
  (nat_lit 527, { cls := .type "code", data := .fields #[.str (Str.ofString "_law_pull") 1007, .str (Str.ofString "_law_pull") 1008, .str (Str.ofString "/claim/cut.py") 1009, .int 437 0, .int 2 0, .int 0 0, .int 0 0, .int 3 0, .ref 522, .bool true, .int 181 0, .ref 523, .none, .ref 524, .ref 525, .ref 526, .int 1013 0, .int 437 0, .str (Str.ofString "/claim/cut.py") 1014] }) ::
  (nat_lit 528, { cls := .type "function", data := .func { name := Str.ofString "_law_pull", qualname := Str.ofString "_law_pull", params := a91, body := .stmts b91, scope := c91, globals := 3, closure := [], defaults := .none, kwdefaults := .none, doc := .none, pyModule := .str (Str.ofString "law_pq0359_01") 1003, annotations := .none, code := .ref 527, closureTuple := .none, builtins := 0 } }) ::
  (nat_lit 529, { cls := .type "tuple", data := .seq #[] 0 }) ::
  (nat_lit 531, { cls := .type "tuple", data := .seq #[.str (Str.ofString "cells") 1019, .str (Str.ofString "known") 1020, .str (Str.ofString "most") 1021, .str (Str.ofString "high") 1022, .str (Str.ofString "way") 1023, .str (Str.ofString "left") 1024, .str (Str.ofString "one") 1025, .str (Str.ofString "right") 1026, .str (Str.ofString "two") 1027, .str (Str.ofString "whole") 1028, .str (Str.ofString "text") 1029, .str (Str.ofString "name") 1030] 0 }) ::
  (nat_lit 532, { cls := .type "tuple", data := .seq #[] 0 }) ::
  (nat_lit 534, { cls := .type "code", data := .fields #[.str (Str.ofString "_law_tree") 1016, .str (Str.ofString "_law_tree") 1017, .str (Str.ofString "/claim/cut.py") 1018, .int 441 0, .int 4 0, .int 0 0, .int 0 0, .int 3 0, .ref 529, .bool true, .int 181 0, .ref 530, .none, .ref 531, .ref 532, .ref 533, .int 1031 0, .int 441 0, .str (Str.ofString "/claim/cut.py") 1032] }) ::
  (nat_lit 535, { cls := .type "function", data := .func { name := Str.ofString "_law_tree", qualname := Str.ofString "_law_tree", params := a92, body := .stmts b92, scope := c92, globals := 3, closure := [], defaults := .none, kwdefaults := .none, doc := .none, pyModule := .str (Str.ofString "law_pq0359_01") 1003, annotations := .none, code := .ref 534, closureTuple := .none, builtins := 0 } }) ::
  (nat_lit 536, { cls := .type "tuple", data := .seq #[] 0 }) ::
  (nat_lit 538, { cls := .type "tuple", data := .seq #[.str (Str.ofString "script") 1037, .str (Str.ofString "cells") 1038, .str (Str.ofString "most") 1039, .str (Str.ofString "limits") 1040, .str (Str.ofString "known") 1041, .str (Str.ofString "values") 1042, .str (Str.ofString "name") 1043, .str (Str.ofString "tree") 1044, .str (Str.ofString "text") 1045, .str (Str.ofString "length") 1046, .str (Str.ofString "due") 1047, .str (Str.ofString "heard") 1048] 0 }) ::
  (nat_lit 539, { cls := .type "tuple", data := .seq #[] 0 }) ::
  (nat_lit 541, { cls := .type "code", data := .fields #[.str (Str.ofString "law") 1034, .str (Str.ofString "law") 1035, .str (Str.ofString "/claim/cut.py") 1036, .int 453 0, .int 1 0, .int 0 0, .int 0 0, .int 3 0, .ref 536, .bool true, .int 181 0, .ref 537, .none, .ref 538, .ref 539, .ref 540, .int 1049 0, .int 453 0, .str (Str.ofString "/claim/cut.py") 1050] }) ::
  (nat_lit 542, { cls := .type "function", data := .func { name := Str.ofString "law", qualname := Str.ofString "law", params := a93, body := .stmts b93, scope := c93, globals := 3, closure := [], defaults := .none, kwdefaults := .none, doc := .none, pyModule := .str (Str.ofString "law_pq0359_01") 1003, annotations := .none, code := .ref 541, closureTuple := .none, builtins := 0 } }) :: []) _ _ _ rfl _ _ _ rfl _ _ _ rfl _ _ _ rfl _ _ _ rfl _ _ _ rfl _ _ _ rfl _ _ _ rfl _ _ _ rfl _ _ _ rfl _ _ _ rfl _ _ _ rfl _ _ _ rfl _ _ _ rfl
noncomputable abbrev as39 : List Addr := nat_lit 2 :: nat_lit 3 :: nat_lit 15 :: nat_lit 22 :: nat_lit 24 :: nat_lit 25 :: nat_lit 27 :: nat_lit 28 :: nat_lit 29 :: nat_lit 30 :: nat_lit 31 :: nat_lit 32 :: nat_lit 35 :: nat_lit 42 :: nat_lit 43 :: nat_lit 44 :: nat_lit 47 :: nat_lit 54 :: nat_lit 55 :: nat_lit 56 :: nat_lit 143 :: nat_lit 145 :: nat_lit 146 :: nat_lit 148 :: nat_lit 149 :: nat_lit 157 :: nat_lit 159 :: nat_lit 160 :: nat_lit 162 :: nat_lit 163 :: nat_lit 420 :: nat_lit 421 :: nat_lit 422 :: nat_lit 423 :: nat_lit 425 :: nat_lit 426 :: nat_lit 428 :: nat_lit 429 :: nat_lit 437 :: nat_lit 439 :: nat_lit 440 :: nat_lit 442 :: nat_lit 443 :: nat_lit 444 :: nat_lit 446 :: nat_lit 447 :: nat_lit 449 :: nat_lit 450 :: nat_lit 451 :: nat_lit 453 :: nat_lit 454 :: nat_lit 456 :: nat_lit 457 :: nat_lit 465 :: nat_lit 467 :: nat_lit 468 :: nat_lit 470 :: nat_lit 471 :: nat_lit 472 :: nat_lit 474 :: nat_lit 475 :: nat_lit 477 :: nat_lit 478 :: nat_lit 493 :: nat_lit 495 :: nat_lit 496 :: nat_lit 498 :: nat_lit 499 :: nat_lit 507 :: nat_lit 508 :: nat_lit 510 :: nat_lit 511 :: nat_lit 513 :: nat_lit 514 :: nat_lit 515 :: nat_lit 516 :: nat_lit 517 :: nat_lit 518 :: nat_lit 519 :: nat_lit 522 :: nat_lit 524 :: nat_lit 525 :: nat_lit 527 :: nat_lit 528 :: nat_lit 529 :: nat_lit 531 :: nat_lit 532 :: nat_lit 534 :: nat_lit 535 :: nat_lit 536 :: nat_lit 538 :: nat_lit 539 :: nat_lit 541 :: nat_lit 542 :: []
noncomputable abbrev H39 : Hook := kHook K39 as39 (fun _ => by kernel_rfl)
abbrev loose0 : List Str := [Str.ofString "ARITHMETIC", Str.ofString "RELATIONS", Str.ofString "CONNECTIVES"]
abbrev Xt0 (s : Shared) : Bool := xlAt V39 [] s && recOk (RowW.records (OpenRow.toRowW (OpenLaw.row PySem.Challenge.rw_pq0359_01))) s
noncomputable abbrev S1 (w : World) (os : OsState) : Shared := ⟨H1 w.params, #[], {}, 1052, os⟩
theorem l_stat (w : World) (os : OsState) : (staticsOk (importedModules PP.main.body) (boot_heap w.params) (H1 w.params) && namesBound PP (H1 w.params) && gensDone (S1 w os) && laidKept (boot_heap w.params) (H1 w.params)) = true := by kernel_rfl
theorem l_seen1 (w : World) (os : OsState) : (Fast.tw5160383126252970620 (W.R.mapR (fun x => x.name) (Fast.tw3399658132070893891 V39)) (Fast.tw5991557255702980513 V39) [] { (S1 w os) with gens := #[] }) = expectedOf V39 ∧ ((S1 w os).heap.bltView) = (openGood V39 loose0).2.1 := by refine ⟨?_, ?_⟩ <;> kernel_rfl
theorem l_seen2 (w : World) (os : OsState) : ((Fast.tw10880121769531294198 (S1 w os).heap (Fast.tw821141287760084731 V39 loose0) (W.R.mapR (fun x => x.name) (Fast.tw3399658132070893891 V39)) (W.R.mapR (fun x => x.fst) (Fast.tw7409074990110511671 V39)) (W.R.mapR (fun x => x.name) (Fast.tw13664370479719496447 V39 (Fast.tw821141287760084731 V39 loose0))) && Fast.tw14722251495701143533 (S1 w os).heap (importedModules PP.main.body) && (S1 w os).heap.isNs mainGlobals && (S1 w os).heap.isNs builtinsNs && Fast.tw10994771534591457954 V39 (S1 w os).heap && Xt0 (S1 w os) && if true = true then (S1 w os).gens.size == 0 else !leftWithCleanup (S1 w os).gens)) = true := by kernel_rfl
theorem l_seen3 (w : World) (os : OsState) : (Fast.tw479339242167458305 V39 (S1 w os)) = true ∧ (Fast.tw16090120013241838585 V39 (Fast.tw3247288618530077131 V39) (S1 w os)) = pinGoodD (drecsOf V39) := by refine ⟨?_, ?_⟩ <;> kernel_rfl
theorem l_seen4 (w : World) (os : OsState) : (Fast.tw2386780881361962483 V39 (Fast.tw821141287760084731 V39 loose0) (S1 w os)) = plainGoodE V39 (looseW V39 loose0) ∧ (Fast.tw11698064438423848299 V39 loose0 (S1 w os)) = plainGoodD V39 loose0 := by refine ⟨?_, ?_⟩ <;> kernel_rfl
theorem l_seen5 (w : World) (os : OsState) : (Fast.tw7317090234206586261 V39 (S1 w os)) = wideGood V39 ∧ (Fast.tw7369524293546568484 V39 loose0 (S1 w os)) = clsGoodW V39 loose0 := by refine ⟨?_, ?_⟩ <;> kernel_rfl
theorem nine {A1 A2 A3 A4 A5 A6 A7 A8 A9 : Type} {a1 b1 : A1} {a2 b2 : A2} {a3 b3 : A3} {a4 b4 : A4} {a5 b5 : A5} {a6 b6 : A6} {a7 b7 : A7} {a8 b8 : A8} {a9 b9 : A9} (h1 : a1 = b1) (h2 : a2 = b2) (h3 : a3 = b3) (h4 : a4 = b4) (h5 : a5 = b5) (h6 : a6 = b6) (h7 : a7 = b7) (h8 : a8 = b8) (h9 : a9 = b9) : (a1, a2, a3, a4, a5, a6, a7, a8, a9) = (b1, b2, b3, b4, b5, b6, b7, b8, b9) := by
  subst h1 h2 h3 h4 h5 h6 h7 h8 h9; rfl
theorem l_seen' (w : World) (os : OsState) : Fast.tw4187177175401517315 V39 loose0 (importedModules PP.main.body) Xt0 true (S1 w os) = openGood V39 loose0 :=
  Eq.trans (b := (Fast.tw5160383126252970620 (W.R.mapR (fun x => x.name) (Fast.tw3399658132070893891 V39)) (Fast.tw5991557255702980513 V39) [] { (S1 w os) with gens := #[] }, (S1 w os).heap.bltView, (Fast.tw10880121769531294198 (S1 w os).heap (Fast.tw821141287760084731 V39 loose0) (W.R.mapR (fun x => x.name) (Fast.tw3399658132070893891 V39)) (W.R.mapR (fun x => x.fst) (Fast.tw7409074990110511671 V39)) (W.R.mapR (fun x => x.name) (Fast.tw13664370479719496447 V39 (Fast.tw821141287760084731 V39 loose0))) && Fast.tw14722251495701143533 (S1 w os).heap (importedModules PP.main.body) && (S1 w os).heap.isNs mainGlobals && (S1 w os).heap.isNs builtinsNs && Fast.tw10994771534591457954 V39 (S1 w os).heap && Xt0 (S1 w os) && if true = true then (S1 w os).gens.size == 0 else !leftWithCleanup (S1 w os).gens), Fast.tw479339242167458305 V39 (S1 w os), Fast.tw16090120013241838585 V39 (Fast.tw3247288618530077131 V39) (S1 w os), Fast.tw2386780881361962483 V39 (Fast.tw821141287760084731 V39 loose0) (S1 w os), Fast.tw11698064438423848299 V39 loose0 (S1 w os), Fast.tw7317090234206586261 V39 (S1 w os), Fast.tw7369524293546568484 V39 loose0 (S1 w os))) (by kernel_rfl) (Eq.trans (b := (expectedOf V39, (openGood V39 loose0).2.1, true, true, pinGoodD (drecsOf V39), plainGoodE V39 (looseW V39 loose0), plainGoodD V39 loose0, wideGood V39, clsGoodW V39 loose0)) (by
  obtain ⟨h1, h2⟩ := l_seen1 w os
  have h3 := l_seen2 w os
  obtain ⟨h4, h5⟩ := l_seen3 w os
  obtain ⟨h6, h7⟩ := l_seen4 w os
  obtain ⟨h8, h9⟩ := l_seen5 w os
  with_reducible exact nine h1 h2 h3 h4 h5 h6 h7 h8 h9) (by kernel_rfl))
theorem l_seen (w : World) (os : OsState) : openSeen V39 loose0 (importedModules PP.main.body) Xt0 true (S1 w os) = openGood V39 loose0 := by rw [Fast.te4187177175401517315]; exact l_seen' w os
theorem l_obs (w : World) (os : OsState) : as39.map (H1 w.params).get? = (K39 w.params).map (fun p => some p.2) := by kernel_rfl
theorem l_left : LeftO PP V39 loose0 Xt0 (Hook.obs H39) (Hook.val H39) 7004 true :=
  LeftO.of_pieces (H₀ := boot_heap) (H₁ := H1) (M := M0) l_open l_size l_run (by decide +kernel) fun w => funext fun os => Prod.ext (l_stat w os) (Prod.ext (l_seen w os) (l_obs w os))

theorem fillK (w : World) (h : Heap) : (K39 w.params).In h → PySem.Challenge.rw_pq0359_01.row.prog = PySem.Challenge.rw_pq0359_01.row.prog := by
  k_fill
  intro _; rfl
abbrev P0 : Program := PySem.Challenge.rw_pq0359_01.row.prog

/-- a call made from a def's frame: what comes back, or CheckFault in flight -/
def CallsTo (w : World) (dm um : Nat) (f : Addr) (vs : List Value) (news : List (Addr × Obj)) (Ret : Value → List (Addr × Obj) → Prop) (Exc : Prop) : Prop :=
  ∀ (p : Program) (loose : List Str) (mean : ExcName → Option Value) (mg mb : Str → Option Value) (dp un : Nat) (gd : Option (List Code)) (cn : Str) (cs : Scope) (a : Addr) (ccd : Value) (cl : List (Str × Addr)) (outer : List Env) (A₀ : Around) (base h₀ : Heap) (L : Addr) (m : Str → Option Value) (s : Shared)
    (Q E : Value → Shared → Prop),
    Below A₀ base outer h₀ → Fr h₀ L s.heap m → (K39 w.params).In h₀ → News h₀ L s.heap news → Top p loose mean mg mb h₀ → (K39 w.params).In base → Top p loose mean mg mb base → cs.kind = .function → dp + dm < recursionLimit → un + um < cLine →
    (∀ r news' h' tk', Fr h₀ L h' m → News h₀ L h' news' → Ret r news' → Q r { s with heap := h', toks := tk' }) →
    (Exc → ∀ e h' tk' g', RaisedN base (envX cn cs L a ccd cl :: outer) e (.ref 44) news h' → g'.UpToSlots h' → Fr h₀ L g' m → E (.ref e) { s with heap := h', toks := tk' }) →
    wpAny (model P0 w) (ktrTop dp un gd cn cs L a ccd cl outer) (call (.ref f) vs) Q E s

section
variable {prog : Program} {w : World} {A : Around} {E : Value → Shared → Prop} {s : Shared} {h₀ : Heap} {L c : Addr} {m : Str → Option Value} {news rest : List (Addr × Obj)} {v x : Value} {vs : List Value} {n : Nat}
theorem cell0_get {value slice : PySem.Expr} {u : Tok} {Q : Value → Shared → Prop} (N : News h₀ L s.heap news) (hm : (c, listOf ((v :: vs).toArray) n) ∈ news) (h : Q v s)
    (hs : subscripted slice false (.ref c) (.int 0 u) = operate [.ref c, .int 0 u] (getItem (.ref c) (.int 0 u)) := by with_unfolding_all rfl) :
    wpAny (model prog w) A (subscriptTail value slice (.ref c) (.int 0 u)) Q E s :=
  have hl : s.heap.IsList c (v :: vs).toArray := PySem.IsL.isList (n := n) (N _ hm).1
  tail_any hl.typeIs slot_list_getitem.lookup (wpAny_getItem_list hl (by decide) (by decide) (by simp) h) hs
theorem cell0_set {u : Tok} {pre post : List (Addr × Obj)} {Q : Unit → Shared → Prop} (F : Fr h₀ L s.heap m) (N : News h₀ L s.heap (pre ++ (c, listOf ((v :: vs).toArray) n) :: post)) (ha : ∀ q ∈ pre, q.1 ≠ c) (hb : ∀ q ∈ post, q.1 ≠ c)
    (h : ∀ h', Fr h₀ L h' m → News h₀ L h' (pre ++ (c, listOf ((x :: vs).toArray) n) :: post) → Q () { s with heap := h' }) :
    wpAny (model prog w) A (setItem (.ref c) (.int 0 u) x) Q E s := by
  have z := N (c, _) (List.mem_append.mpr (.inr (.head _)))
  exact ki_setAt z.1 (by decide) (by decide) (by simp) (h _ (F.change (Heap.SameBut.update ..) z.2.1 z.2.2) (ki_turn _ N ha hb (by simp) (by simp)))
theorem cell_get {value slice : PySem.Expr} {k : Int} {u : Tok} {ns : List Int} {i : Int} {t : Tok} {Q : Value → Shared → Prop} (N : News h₀ L s.heap news) (hm : (c, listOf ((.int i t :: vs).toArray) n) ∈ news) (hi : IntsAre vs ns)
    (h0 : 0 < k) (h1 : k < ns.length + 1) (hfit : k < 2 ^ 63) (h : ∀ x t', Q (.int x t') s)
    (hs : subscripted slice false (.ref c) (.int k u) = operate [.ref c, .int k u] (getItem (.ref c) (.int k u)) := by with_unfolding_all rfl) :
    wpAny (model prog w) A (subscriptTail value slice (.ref c) (.int k u)) Q E s :=
  item_anyK (PySem.IsL.isList (n := n) (N _ hm).1) (IntsAre.cons i t hi) (by omega) (by simp only [List.length_cons]; omega) hfit (fun t' => h _ t') hs
theorem cells_len {ns : List Int} {i : Int} {t : Tok} {Q : Value → Shared → Prop} (N : News h₀ L s.heap news) (hm : (c, listOf ((.int i t :: vs).toArray) n) ∈ news) (hi : IntsAre vs ns) (hl : ns.length ≤ 63)
    (h : ∀ tk tk', Q (.int (ns.length + 1) tk) { s with toks := tk' }) : wpAny (model prog w) A (call (.builtin "len") [.ref c]) Q E s := by
  have e : ((Value.int i t :: vs).toArray.size : Int) = ns.length + 1 := by simp [hi.length]
  refine len_list (PySem.IsL.isList (n := n) (N _ hm).1) (by rw [e]; omega) ?_
  rw [e]; exact h _ _
end

/-- a mark where the walk is to stop -/
def Halt (P : Prop) : Prop := P
theorem halt {P : Prop} (h : Halt P) : P := h

theorem CallsTo.use {w : World} {dm um : Nat} {f : Addr} {vs : List Value} {news : List (Addr × Obj)} {Ret : Value → List (Addr × Obj) → Prop} {Exc : Prop} (C : CallsTo w dm um f vs news Ret Exc)
    {p : Program} {loose : List Str} {mean : ExcName → Option Value} {mg mb : Str → Option Value} {dp un : Nat} {gd : Option (List Code)} {cn : Str} {cs : Scope} {a : Addr} {ccd : Value} {cl : List (Str × Addr)} {outer : List Env} {A₀ : Around} {base h₀ : Heap} {L : Addr} {m : Str → Option Value} {s : Shared}
    {Q E : Value → Shared → Prop} (B : Below A₀ base outer h₀) (F : Fr h₀ L s.heap m) (X : (K39 w.params).In h₀) (N : News h₀ L s.heap news) (T : Top p loose mean mg mb h₀) (XB : (K39 w.params).In base) (TB : Top p loose mean mg mb base) (hk : cs.kind = .function) (hd : dp + dm < recursionLimit) (hu : un + um < cLine)
    (ret : ∀ r news' h' tk', Fr h₀ L h' m → News h₀ L h' news' → Ret r news' → Q r { s with heap := h', toks := tk' })
    (exc : Exc → ∀ e h' tk' g', RaisedN base (envX cn cs L a ccd cl :: outer) e (.ref 44) news h' → g'.UpToSlots h' → Fr h₀ L g' m → E (.ref e) { s with heap := h', toks := tk' }) :
    wpAny (model P0 w) (ktrTop dp un gd cn cs L a ccd cl outer) (call (.ref f) vs) Q E s :=
  C p loose mean mg mb dp un gd cn cs a ccd cl outer A₀ base h₀ L m s Q E B F X N T XB TB hk hd hu ret exc

theorem up_trans {g h h₀ : Heap} {L : Addr} {m : Str → Option Value} (u : g.UpToSlots h) (F : Fr h₀ L g m) : h₀.UpToSlots h := (Heap.UpToSlots.of_keeps F.keep).trans u

abbrev tupOf (its : List Value) (n : Nat) : Obj := { cls := .type "tuple", data := .seq its.toArray n }

/-- what a tree of the law's is: a text, a name with its text, a join -/
inductive Dt where
  | chr (t : Str)
  | nm (x t : Str)
  | join (l r : Dt)

def joined (most : Nat) : Option Str → Option Str → Option Str
  | some a, some b => if a.length + b.length > most then none else some (a ++ b)
  | _, _ => none
def Dt.val (most : Nat) : Dt → Option Str
  | .chr t => some t
  | .nm _ t => some t
  | .join l r => joined most (l.val most) (r.val most)
def Dt.high : Dt → Nat
  | .chr _ => 0
  | .nm _ _ => 0
  | .join l r => max l.high r.high + 1

/-- a name that is told: its text (with the token in known), its tuple's place in values -/
structure Ent where
  x : Str
  t : Str
  tk : Tok
  a : Addr

inductive DIn (env : List Ent) (most : Nat) (news : List (Addr × Obj)) : Value → Dt → Prop
  | chr {a : Addr} {n : Nat} {t : Str} {k1 k2 : Tok} : (a, tupOf [.str "char" k1, .str t k2] n) ∈ news → t.length ≤ most → DIn env most news (.ref a) (.chr t)
  | nm {a : Addr} {n : Nat} {k1 k2 : Tok} {q : Ent} : (a, tupOf [.str "name" k1, .str q.x k2] n) ∈ news → q ∈ env → q.t.length ≤ most → DIn env most news (.ref a) (.nm q.x q.t)
  | join {a : Addr} {n : Nat} {k1 k2 : Tok} {lv rv : Value} {l r : Dt} : (a, tupOf [.str "bin" k1, .str "//" k2, lv, rv] n) ∈ news → DIn env most news lv l → DIn env most news rv r → DIn env most news (.ref a) (.join l r)
theorem DIn.mono {env : List Ent} {most : Nat} {news news' : List (Addr × Obj)} {v : Value} {d : Dt} (h : DIn env most news v d) (hs : ∀ p ∈ news, p ∈ news') : DIn env most news' v d := by
  induction h with
  | chr h1 h2 => exact .chr (hs _ h1) h2
  | nm h1 h2 h3 => exact .nm (hs _ h1) h2 h3
  | join h1 _ _ i1 i2 => exact .join (hs _ h1) i1 i2
theorem joined_len {most : Nat} {a b : Option Str} {t : Str} (h : joined most a b = some t) : t.length ≤ most := by
  unfold joined at h
  split at h
  · split at h
    · cases h
    · cases h
      rw [Str.length_append]; omega
  · cases h
theorem DIn.len {env : List Ent} {most : Nat} {news : List (Addr × Obj)} {v : Value} {d : Dt} {t : Str} (h : DIn env most news v d) (e : d.val most = some t) : t.length ≤ most := by
  cases h with
  | chr h1 h2 => cases e; exact h2
  | nm h1 h2 h3 => cases e; exact h3
  | join h1 _ _ => exact joined_len e

/-- the second of the tree's pair: the text, or None -/
def Told2 (v : Value) : Option Str → Prop
  | some t => ∃ tk, v = .str t tk
  | none => v = .none

/-- the dicts known and values at a ledger -/
structure EnvAt (P : Program) (w : World) (most : Nat) (env : List Ent) (kd vd : Addr) (news : List (Addr × Obj)) : Prop where
  known : ∃ o, (kd, o) ∈ news ∧ o.IsDictOf (PySem.strKind P w) (env.map fun q => (q.x, Value.str q.t q.tk))
  values : ∃ o, (vd, o) ∈ news ∧ o.IsDictOf (PySem.strKind P w) (env.map fun q => (q.x, Value.ref q.a))
  klo : (kd == sysModules) = false
  vlo : (vd == sysModules) = false
  few : env.length ≤ 7
  short : ∀ q ∈ env, q.t.length ≤ most
  tups : ∀ q ∈ env, ∃ k1 k2 n, (q.a, tupOf [.int 5 k1, .str q.t k2] n) ∈ news
theorem EnvAt.mono {P : Program} {w : World} {most : Nat} {env : List Ent} {kd vd : Addr} {news news' : List (Addr × Obj)} (h : EnvAt P w most env kd vd news) (hs : ∀ p ∈ news, p ∈ news') : EnvAt P w most env kd vd news' :=
  ⟨let ⟨o, a, b⟩ := h.known; ⟨o, hs _ a, b⟩, let ⟨o, a, b⟩ := h.values; ⟨o, hs _ a, b⟩, h.klo, h.vlo, h.few, h.short, fun q hq => let ⟨a, b, n, c⟩ := h.tups q hq; ⟨a, b, n, hs _ c⟩⟩
def cost : Nat → Nat
  | 0 => 2
  | n + 1 => 1 + 2 * cost n + 1

abbrev excOf (C t : Addr) (d : Option Addr) : Obj := { cls := .ref C, dict := d, data := .fields #[.ref t, .none, .none, .none, .bool false, .none] }

section
variable {M : Model} {A : Around} {E : Value → Shared → Prop} {h : Heap} {g : Array GenState} {d : Drawn} {t : Nat} {os : OsState}
variable {nm q : Str} {C N N' : Addr} {bs bm : List Value} {hdct : Bool} {sn : List Str} {sub : List Value} {ab : Bool} {col : Option Bool} {dd : Option Addr} {k0 k1 k2 k3 k5 : Option Value} {B newId initId : String} {bmB : List Value}

theorem exc_check_init {e : Addr} {oe : Obj} {rest : List Value} {Q : Unit → Shared → Prop} (F : ExcBaseFacts B newId initId bmB) (hb : bm.contains (.type B) = true)
    (hC : h.get? C = some (excClassObj nm q C N bs bm hdct sn sub ab col dd k0 k1 k2 k3 k5 newId)) (he : h.get? e = some oe) (hcls : oe.cls = .ref C) (hq : Q () ⟨h, g, d, t, os⟩) :
    wpAny M A (checkBuiltinCall initId ⟨.ref e :: rest, []⟩) Q E ⟨h, g, d, t, os⟩ := by
  have hcB : (Value.ref C :: bm).contains (.type B) = true := by rw [List.contains_cons, hb, Bool.or_true]
  have hshort := F.noStar
  simp only [checkBuiltinCall, F.initKind, F.initSplit, F.initRow]
  repeat (first | (with_reducible refine wpAny_loadPart_at he ?_; rw [hcls]) | with_reducible refine wpAny_loadPart_at hC ?_ | (with_reducible refine wpAny_isSubtype_exc hC ?_; rw [hcB]) | wp_step)
  refine wpAny_onRaise ?_
  rw [show ∀ (a b : String) (n : Nat), Bind.check ⟨.positional, "*", B, .self, [⟨"args", .varPos, false⟩]⟩ a b n (List.map (fun x => x.fst) ({ pos := Value.ref e :: rest } : Args).kw) = pure () from
    fun a b n => check_star_args _ _ _ _ _ _]
  exact wpAny_pure hq

theorem exc_check_new {rest : List Value} {Q : Unit → Shared → Prop} (F : ExcBaseFacts B newId initId bmB) (hb : bm.contains (.type B) = true)
    (hC : h.get? C = some (excClassObj nm q C N bs bm hdct sn sub ab col dd k0 k1 k2 k3 k5 newId))
    (hq : Q () ⟨h, g, d, t, os⟩) : wpAny M A (checkBuiltinCall newId ⟨.ref C :: rest, []⟩) Q E ⟨h, g, d, t, os⟩ := by
  have hcont : (Value.ref C :: bm).contains (.type B) = true := by rw [List.contains_cons, hb, Bool.or_true]
  have hstar := F.noStar
  simp only [checkBuiltinCall, F.newKind, F.newSplit, F.newRow]
  repeat (first | refine wpAny_loadPart_at hC ?_ | (refine wpAny_isSubtype_exc hC ?_; rw [hcont]) | refine wpAny_staticBase_exc hC ?_ | refine wpAny_madeBy_exc hC ?_ | simp only [bne_self_eq_false, Bool.false_eq_true, if_false] | wp_step)
  exact hq
end

def refuseOk : List Value → Bool
  | [.type a, .type b, .type c] => a == "Exception" && b == "BaseException" && c == "object"
  | .ref _ :: r => refuseOk r
  | _ => false
theorem refuse_exc (self : Value) : refuseLoop self "__setattr__" [.type "Exception", .type "BaseException", .type "object"] = pure () := by
  unfold refuseLoop
  kernel_rfl
theorem refuseOk_spec (self : Value) : ∀ {l : List Value}, refuseOk l = true → refuseLoop self "__setattr__" l = pure ()
  | [.type a, .type b, .type c], e => by
    simp only [refuseOk, Bool.and_eq_true, beq_iff_eq] at e
    obtain ⟨⟨rfl, rfl⟩, rfl⟩ := e
    exact refuse_exc self
  | .ref c :: r, e => by rw [refuseLoop_ref]; exact refuseOk_spec self (l := r) (by simpa [refuseOk] using e)

section
variable {prog : Program} {w : World} {A : Around} {E : Value → Shared → Prop} {R : Result → Shared → Prop} {h : Heap} {g : Array GenState} {d : Drawn} {t : Nat} {os : OsState}
variable {nm q : Str} {C N N' : Addr} {bs bm : List Value} {hdct : Bool} {sn : List Str} {sub : List Value} {ab : Bool} {col : Option Bool} {dd : Option Addr} {k0 k1 k2 k3 k5 : Option Value} {B newId initId : String} {bmB : List Value}

theorem exc_new {rest : List Value} (F : ExcBaseFacts B newId initId bmB) (hb : bm.contains (.type B) = true) (ha : bm.contains (.type "AttributeError") = false) (hn : bm.contains (.type "NameError") = false)
    (hC : h.get? C = some (excClassObj nm q C N bs bm hdct sn sub ab col dd k0 k1 k2 k3 k5 newId))
    (hq : R (.ok (.ret (.ref (h.objs.size + 1)))) ⟨(h.push { cls := .type "tuple", data := .seq rest.toArray }).push (excOf C h.objs.size none), g, d, t, os⟩) (hrest : rest.length ≤ sizeLine) :
    codeAny (model prog w) A (.builtin newId ⟨.ref C :: rest, []⟩) R ⟨h, g, d, t, os⟩ := by
  have hends := F.ends
  have hcB : (Value.ref C :: bm).contains (.type B) = true := by rw [List.contains_cons, hb, Bool.or_true]
  have hcA : (Value.ref C :: bm).contains (.type "AttributeError") = false := by rw [List.contains_cons, ha]; rfl
  have hcN : (Value.ref C :: bm).contains (.type "NameError") = false := by rw [List.contains_cons, hn]; rfl
  refine codeAny_builtinAt F.entry ?_
  unfold Builtin.«BaseException.__new__»
  refine PySem.wpAt_bind ?_
  show PySem.wpAt _ _ _ (stack >>= _) _ _ _
  refine PySem.wpAt_bind (PySem.wpAt_stack fun p below => PySem.wpAt_of_wpAny ?_)
  wp_walk
  refine PySem.wpAt_of_wpAny ?_
  rw [F.owner]
  repeat (first | with_reducible refine wpAny_madeHere_exc F.canon hC ?_ | with_reducible refine wpAny_loadPart_at hC ?_ | (with_reducible refine wpAny_isSubtype_exc hC ?_; first | rw [hcB] | rw [hcA] | rw [hcN]) | wp_step)
  show R _ _
  rw [Heap.size_push]
  exact hq

theorem exc_type_call {rest : List Value} {Q : Fin → Shared → Prop} {f : Addr} (F : ExcBaseFacts B newId initId bmB) (hb : bm.contains (.type B) = true) (ha : bm.contains (.type "AttributeError") = false) (hn : bm.contains (.type "NameError") = false)
    (hC : h.get? C = some (excClassObj nm q C N bs bm hdct sn sub ab col dd k0 k1 k2 k3 k5 newId))
    (hi : Looks (model prog w) h (typeLookup (.ref C) "__init__") (some (.ref f))) (hbi : ∀ self, Looks (model prog w) h (bindSpecial (.ref f) self) (.ref f, [self])) (hrest : rest.length ≤ sizeLine)
    (hq : codeAny (model prog w) A (.call (.ref f) ⟨.ref (h.objs.size + 1) :: rest, []⟩) (fun r s' => match r with | .ok (.ret .none) => Q (.done (.ret (.ref (h.objs.size + 1)))) s' | _ => False)
      ⟨(h.push { cls := .type "tuple", data := .seq rest.toArray }).push (excOf C h.objs.size none), g, d, t, os⟩) :
    wpAny (model prog w) A (Builtin.«type.__call__» ⟨.ref C :: rest, []⟩) Q E ⟨h, g, d, t, os⟩ := by
  repeat (first | with_reducible refine wpAny_loadPart_at hC ?_ | with_reducible refine wpAny_madeBy_exc hC ?_ | wp_step)
  refine codeAny_call_builtin_code (Code.quiet_builtin _ F.quiet) (exc_check_new F hb hC ?_)
  refine exc_new F hb ha hn hC ?_ hrest
  show wpAny _ _ _ _ _ _
  have hC₁ := Heap.get?_push_of_some (excOf C h.objs.size none) (Heap.get?_push_of_some { cls := .type "tuple", data := .seq rest.toArray } hC)
  have hget : ((h.push { cls := .type "tuple", data := .seq rest.toArray }).push (excOf C h.objs.size none)).get? (h.objs.size + 1) = some (excOf C h.objs.size none) := by heap_get
  have hcC : (Value.ref C :: bm).contains (.ref C) = true := by simp
  have k : ∀ b o, h.get? b = some o → ((h.push { cls := .type "tuple", data := .seq rest.toArray }).push (excOf C h.objs.size none)).get? b = some o := fun b o e => Heap.get?_push_of_some _ (Heap.get?_push_of_some _ e)
  have i1 := hi.keeps k
  have b1 := (hbi (.ref (h.objs.size + 1))).keeps k
  unfold isInstance
  repeat (first | with_reducible refine wpAny_loadPart_at hget ?_ | (with_reducible refine wpAny_isSubtype_exc hC₁ ?_; rw [hcC]) | wp_step)
  show wpAny _ _ (typeLookup (.ref C) _) _ _ _
  refine i1.at (wpAny_holding (wpAny_bind (b1.at ?_)))
  refine wpAny_bind (wpAny_call (codeAny_mono hq fun r s' z => ?_))
  cases r with
  | error e => exact z.elim
  | ok fl =>
    cases fl with
    | ret v =>
      cases v with
      | none => exact wpAny_pure (wpAny_pure z)
      | _ => exact z.elim
    | _ => exact z.elim

theorem exc_call {rest : List Value} {Q : Value → Shared → Prop} {f : Addr} (F : ExcBaseFacts B newId initId bmB) (hb : bm.contains (.type B) = true) (ha : bm.contains (.type "AttributeError") = false) (hn : bm.contains (.type "NameError") = false)
    (hC : h.get? C = some (excClassObj nm q C N bs bm hdct sn sub ab col dd k0 k1 k2 k3 k5 newId))
    (hi : Looks (model prog w) h (typeLookup (.ref C) "__init__") (some (.ref f))) (hbi : ∀ self, Looks (model prog w) h (bindSpecial (.ref f) self) (.ref f, [self])) (hrest : rest.length ≤ sizeLine)
    (hq : codeAny (model prog w) (A.under (.builtin "type.__call__" ⟨.ref C :: rest, []⟩)) (.call (.ref f) ⟨.ref (h.objs.size + 1) :: rest, []⟩) (fun r s' => match r with | .ok (.ret .none) => Q (.ref (h.objs.size + 1)) s' | _ => False)
      ⟨(h.push { cls := .type "tuple", data := .seq rest.toArray }).push (excOf C h.objs.size none), g, d, t, os⟩) :
    wpAny (model prog w) A (call (.ref C) rest) Q E ⟨h, g, d, t, os⟩ := by
  have f1 := tc_lookup
  have f2 := tc_bind (.ref C)
  have hT : (⟨h, g, d, t, os⟩ : Shared).TypeIs (.ref C) "type" := ⟨_, hC, rfl⟩
  refine wpAny_call (codeAny_of_tree ?_)
  show wpAny _ _ (callAny (.ref C) _) _ _ _
  repeat (any_goals (first | assumption | with_reducible refine wpAny_loadPart_at hC ?_ | wp_step))
  refine ⟨rfl, ?_⟩
  refine codeAny_call_builtin_at (Code.quiet_builtin _ (by decide +kernel)) entry_typeCall (wpAny_check_type_call_sub hC (exc_type_call F hb ha hn hC hi hbi hrest ?_))
  exact hq

theorem exc_init_call {s : Shared} {h₀ : Heap} {L e t0 : Addr} {dct : Option Addr} {m : Str → Option Value} {news : List (Addr × Obj)} {v : Value} {Q : Value → Shared → Prop} (FB : ExcBaseFacts B newId initId bmB) (hb : bm.contains (.type B) = true)
    (F : Fr h₀ L s.heap m) (N : News h₀ L s.heap ((e, excOf C t0 dct) :: news)) (hne : ∀ q ∈ news, q.1 ≠ e) (hC : s.heap.get? C = some (excClassObj nm q C N' bs bm hdct sn sub ab col dd k0 k1 k2 k3 k5 newId))
    (hq : ∀ h' t2, Fr h₀ L h' m → News h₀ L h' ((e, excOf C t2 dct) :: news) → Q .none { s with heap := h' }) :
    wpAny (model prog w) A (call (.builtin initId) [.ref e, v]) Q E s := by
  obtain ⟨hh, g, d, tk, os⟩ := s
  have hget : hh.get? e = some (excOf C t0 dct) := (N _ (.head _)).1
  refine wpAny_call (codeAny_call_builtin FB.init.plain FB.initEntry (exc_check_init FB hb hC hget rfl ?_))
  wp_walk
  have F1 := F.push { cls := .type "tuple", data := .seq [v].toArray }
  have N1 := News.grown N fun b o e => Heap.get?_push_of_some { cls := .type "tuple", data := .seq [v].toArray } e
  obtain ⟨U1, U2⟩ := news_upd (pre := []) (o' := excOf C hh.objs.size dct) (f := Obj.mapFields (·.setIfInBounds 0 (Value.ref hh.objs.size))) F1 N1 (fun _ h => nomatch h) hne rfl rfl
  exact hq _ _ U1 U2

theorem exc_set_text {s : Shared} {K : Frag} {h₀ : Heap} {L e t0 : Addr} {m : Str → Option Value} {news : List (Addr × Obj)} {v : Value} {Q : Unit → Shared → Prop} {name : Str}
    (F : Fr h₀ L s.heap m) (N : News h₀ L s.heap ((e, excOf C t0 none) :: news)) (hne : ∀ q ∈ news, q.1 ≠ e) (X : K.In s.heap) (hmro : mroIn K C (.type "object") = some true)
    {cd : ClassData} (hc : clsIn K C = some cd) (ho1 : cd.hasDict = true) (ho2 : refuseOk cd.mro = true)
    (hs : findIn K (.ref C) "__setattr__" = some (some (.builtin "object.__setattr__"))) (ht : findIn K (.ref C) name = some none)
    (hq : ∀ h' tk' d, Fr h₀ L h' m → News h₀ L h' ((e, excOf C t0 (some d)) :: news) → Q () { s with heap := h', toks := tk' }) :
    wpAny (model prog w) A (setAttr (.ref e) name v) Q E s := by
  have I : InstAt s.heap e (excOf C t0 none) C none := ⟨(N _ (.head _)).1, rfl, rfl, trivial⟩
  refine set_plain X I hs ?_
  have SF := PySem.F.store_object
  have sub : Looks (model prog w) s.heap (isInstance (.ref e) (.type "object")) true := I.type.andThen (looks_mroIn X hmro)
  refine codeAny_call_builtin SF.slot.plain SF.entry (@check_slot (model prog w) _ _ _ "object.__setattr__" "object" "__setattr__" (.ref e) [.str name s.toks, v] [] _ SF.kind SF.split sub (SF.args (.ref e) (.str name s.toks) v) ?_)
  have hm : Looks (model prog w) s.heap (mroOf (.ref C)) cd.mro := (looks_clsIn X hc).andThen .now
  rw [osa_eq, refuse_eq]
  obtain ⟨hh, g, d, tk, os⟩ := s
  refine wpAny_bind (wpAny_bind (I.type.at (wpAny_bind (hm.at ?_))))
  rw [refuseOk_spec _ ho2]
  refine wpAny_pure (wpAny_bind (I.type.at (wpAny_bind ((looks_findIn X ht).at (wpAny_bind (wpAny_pure ?_))))))
  refine wpAny_bind (wpAny_pure (wpAny_bind (wpAny_bind (wpAny_loadPart I.at_ (wpAny_bind ((looks_clsIn X hc).at ?_))))))
  rw [ho1]
  have N1 := News.push F N emptyDict
  have F1 := F.push emptyDict
  have hlt : ∀ q ∈ ((e, excOf C t0 none) :: news), q.1 ≠ hh.objs.size := fun q hq => Nat.ne_of_lt (Heap.lt_size (N q hq).1)
  obtain ⟨F2, N2⟩ := news_upd (pre := [(hh.objs.size, emptyDict)]) (d := e) (post := news) (o' := excOf C t0 (some hh.objs.size)) (f := fun o => { o with dict := some hh.objs.size }) F1 N1 (fun q hq => by rw [List.mem_singleton.mp hq]; exact (hlt _ (.head _)).symm) hne rfl rfl
  show wpAny _ _ (alloc emptyDict >>= fun d => update e (fun o => { o with dict := some d }) >>= fun _ => dictMade (.ref C) e d) _ _ _
  refine wpAny_bind (wpAny_alloc (wpAny_bind (wpAny_update (Heap.get?_push_of_some _ I.at_) ?_)))
  refine wpAny_pure (a := some hh.objs.size) (wpAny_bind (wpAny_pure (wpAny_bind ?_)))
  unfold nsSet
  refine wpAny_bind (wpAny_bind (wpAny_askSetting (wpAny_pure (wpAny_bind (wpAny_mkText (wpAny_bind (wpAny_loadPart (o := emptyDict) (N2 _ (.head _)).1 ?_)))))))
  have c0 : aRefKeyMayBeTheName name #[] = false := by
    first | rfl | simp [aRefKeyMayBeTheName]
  dsimp only [emptyDict]
  rw [c0]
  obtain ⟨F3, N3⟩ := news_upd (pre := []) (d := hh.objs.size) (o' := dictOf [⟨PyData.keyHash w.params name, .str name (tk + 1), v⟩] 1) (f := Obj.putName name (PyData.keyHash w.params name) (.str name (tk + 1)) v) F2 N2 (fun _ h => nomatch h)
    (fun q hq => (List.mem_cons.mp hq).elim (fun e9 => by rw [e9]; exact hlt (e, excOf C t0 none) (.head _)) fun e9 => hlt q (.tail _ e9)) (by rfl) rfl
  refine wpAny_updatePart (N2 _ (.head _)).1 (wpAny_bind (wpAny_lookBehind (N3 _ (.head _)).1 (pastItsLine_dict (by rw [sizeLine_eq]; simp)) ?_))
  exact wpAny_pure (hq _ _ _ F3 fun q hq => N3 q (.tail _ hq))
end

local macro_rules | `(tactic| k_all) => `(tactic| assumption)
local macro_rules | `(tactic| k_room) => `(tactic| ((simp only [depth_mark, depth_under_make, depth_under_kw, depth_in1, depth_deeper, depth_caller]); omega))
local macro_rules | `(tactic| walk_at "call ref") => `(tactic| (k_here; (with_reducible show wpAny _ _ (call (Value.ref 535) _) _ _ _); (refine halt ?_)))
local macro_rules | `(tactic| k_mem) => `(tactic| first | with_reducible exact List.mem_cons_self | with_reducible assumption | (with_reducible refine List.mem_cons_of_mem _ ?_; k_mem) | (with_reducible refine (by assumption : ∀ q ∈ _, q ∈ _) _ ?_; k_mem))
theorem meta_Exception : typeOf (.type "Exception") = pure (.type "type") := by kernel_rfl
local macro_rules | `(tactic| walk_at "getMethod type:Exception") => `(tactic| (k_here; refine' method_type ?z1 ?z2 ?z3 (by decide +kernel) ?z4 ?z5 ?_; (case z1 => k_asm); (case z2 => k_asm); (case z3 => exact meta_Exception); (case z4 => k_dflt k_is); (case z5 => k_handed)))
local macro_rules | `(tactic| walk_at "call builtin:Exception.__init__") => `(tactic| (k_here; k_dflt (refine' exc_init_call PySem.F.excBase_Exception ?z1 ?z2 ?z3 ?z4 ?z5 ?_; (case z2 => k_asm); (case z3 => k_asm); (case z4 => assumption); (case z5 => exact (Frag.In.keeps (by k_asm) (Fr.keep (by k_asm))) 44 _ (by k_is)); (case z1 => rfl); k_whole); intro h8 t8 F8 N8; (try k_sweep)))
local macro_rules | `(tactic| walk_at "setAttr ref") => `(tactic| (k_here; k_dflt (refine' exc_set_text ?z1 ?z2 ?z3 ?z4 ?z5 ?z6 ?z6b ?z6c ?z7 ?z8 ?_; (case z1 => k_asm); (case z2 => k_asm); (case z3 => assumption); (case z4 => k_in); (case z5 => k_is); (case z6 => k_is); (case z6b => rfl); (case z6c => decide); (case z7 => k_is); (case z8 => k_is); k_whole); intro h8 tk8 d8 F8 N8; (try k_sweep)))

set_option maxHeartbeats 4000000 in
theorem init_spec (w : World) {p : Program} {loose : List Str} {mean : ExcName → Option Value} {mg mb : Str → Option Value} {A A₀ : Around} {cn : Str} {cs : Scope} {a : Addr} {ccd : Value} {cl : List (Str × Addr)} {outer : List Env} {base h₀ : Heap} {L : Addr} {m : Str → Option Value} {s : Shared}
    {R : Result → Shared → Prop} {e t : Addr} {x : Str} {tx : Tok} {news : List (Addr × Obj)} (B : Below A₀ base outer h₀) (F : Fr h₀ L s.heap m) (X : (K39 w.params).In h₀) (N : News h₀ L s.heap ((e, excOf 44 t none) :: news)) (T : Top p loose mean mg mb h₀) (hk : cs.kind = .function)
    (hA : A.frames = some (envX cn cs L a ccd cl :: outer)) (hdp : A.depth + 8 < recursionLimit) (he : ∀ q ∈ news, q.1 ≠ e)
    (h : ∀ h' tk' t2 d, Fr h₀ L h' m → News h₀ L h' ((e, excOf 44 t2 d) :: news) → R (.ok (.ret .none)) { s with heap := h', toks := tk' }) :
    codeAny (model P0 w) A (.call (.ref 28) ⟨[.ref e, .str x tx], []⟩) R s := by
  k_dflt (refine' code_def ?k1 ?k2 ?k3 ?k4 ?k5 ?kA ?kF ?kK ?k6 ?k7 ?k8 ?k9 ?kB ?_ ?c2 ?c3 ?c4 ?c5; (case kA => exact hA); (case kF => exact rfl); (case kK => exact hk); (case k1 => k_asm); (case k2 => k_asm); (case k3 => k_asm); (case k4 => k_asm); (case k5 => k_asm); (case k6 => k_is); (case k7 => k_is); (case k8 => omega); (case k9 => exact BindsTo.of_eq rfl); (case c5 => decide); (case kB => exact locs rfl); (case c2 => exact rfl); (case c3 => exact rfl); (case c4 => exact rfl); k_whole; intro g' L' h' FG' F' N' B' X' T'; (try dsimp only); (try k_fold))
  k_steps
  all_goals exact h _ _ _ _ (by k_asm) (by k_asm)

theorem make44 (w : World) {p : Program} {loose : List Str} {mean : ExcName → Option Value} {mg mb : Str → Option Value} {A A₀ : Around} {cn : Str} {cs : Scope} {a : Addr} {ccd : Value} {cl : List (Str × Addr)} {outer : List Env} {base h₀ : Heap} {L : Addr} {m : Str → Option Value} {s : Shared}
    {Q E : Value → Shared → Prop} {x : Str} {tx : Tok} {news : List (Addr × Obj)} (B : Below A₀ base outer h₀) (F : Fr h₀ L s.heap m) (X : (K39 w.params).In h₀) (N : News h₀ L s.heap news) (T : Top p loose mean mg mb h₀) (hk : cs.kind = .function)
    (hA : A.frames = some (envX cn cs L a ccd cl :: outer)) (hdp : A.depth + 10 < recursionLimit)
    (h : ∀ e t d h' tk', Fr h₀ L h' m → News h₀ L h' ((e, excOf 44 t d) :: news) → (∀ q ∈ news, q.1 < e) → Q (.ref e) { s with heap := h', toks := tk' }) :
    wpAny (model P0 w) A (call (.ref 44) [.str x tx]) Q E s := by
  obtain ⟨hh', g, d, tk, os⟩ := s
  have X₁ := X.keeps F.keep
  refine' exc_call (f := 28) PySem.F.excBase_Exception ?z1 ?z2 ?z3 (X₁ 44 _ ?z4) (looks_findIn X₁ ?z5) (fun self => bind_fn X₁ self ?z6) (by rw [sizeLine_eq]; simp) ?_
  case z4 => k_is
  case z5 => k_is
  case z6 => k_is
  case z1 => rfl
  case z2 => rfl
  case z3 => rfl
  have N1 := News.push (F.push { cls := .type "tuple", data := .seq [Value.str x tx].toArray }) (News.pushKeep N { cls := .type "tuple", data := .seq [Value.str x tx].toArray }) (excOf 44 hh'.objs.size none)
  rw [Heap.size_push] at N1
  have hlt : ∀ q ∈ news, q.1 < hh'.objs.size + 1 := fun q hq => Nat.lt_succ_of_lt (Heap.lt_size (N q hq).1)
  refine init_spec w (cn := cn) (a := a) (ccd := ccd) (cl := cl) (e := hh'.objs.size + 1) B ((F.push _).push _) X N1 T hk ?y1 ?y3 (fun q hq => Nat.ne_of_lt (hlt q hq)) fun h' tk' t2 d' F' N' => h _ _ _ _ _ F' N' hlt
  case y1 => exact hA
  case y3 => rw [depth_under_make]; omega

section
variable {M : Model} {A : Around} {E : Value → Shared → Prop} {s : Shared} {env : Env}

def RaisableX (E : Value → Shared → Prop) (v : Value) (s₁ : Shared) : Prop :=
  ∃ e t d C nm q N bs bm hdct sn sub ab col dd k0 k1 k2 k3 k5 newId, v = .ref e ∧ bm.contains (.type "BaseException") = true ∧ s₁.heap.get? C = some (excClassObj nm q C N bs bm hdct sn sub ab col dd k0 k1 k2 k3 k5 newId) ∧
    s₁.heap.get? e = some (excOf C t d) ∧ E (.ref e) s₁
theorem Raise_x {e : Expr} {pos : Pos} {Q : Flow → Shared → Prop} (hh : A.handled = none) (h : wpAny M A (eval e env) (RaisableX E) E s) : wpAny M A (exec (.Raise (some e) none pos) env) Q E s := by
  show wpAny M A (do standAt pos; raiseStmt env (some (do let v ← eval e env; standAt pos; pure v)) none) Q E s
  refine wpAny_bind (wpAny_standAt ?_)
  unfold raiseStmt
  dsimp only
  refine wpAny_bind (wpAny_bind (wpAny_mono h (fun v s₁ h₁ => wpAny_bind (wpAny_standAt (wpAny_pure ?_))) fun _ _ x => x))
  obtain ⟨a, t, d, C, nm, q, N, bs, bm, hdct, sn, sub, ab, col, dd, k0, k1, k2, k3, k5, newId, rfl, hbase, hC, he, hE⟩ := h₁
  have hcB : (Value.ref C :: bm).contains (.type "BaseException") = true := by rw [List.contains_cons, hbase, Bool.or_true]
  obtain ⟨hp, g, dr, tk, os⟩ := s₁
  repeat (first | with_reducible refine wpAny_loadPart_at he ?_ | with_reducible refine wpAny_loadPart_at hC ?_ | (with_reducible refine wpAny_isSubtype_exc hC ?_; rw [hcB]) | wp_step)
  exact wpAny_raiseNew_none hh hE
end

section
variable {M : Model} {A : Around} {E : Value → Shared → Prop} {s' : Shared} {base g : Heap} {outer : List Env} {L a e C t : Addr} {d : Option Addr} {m : Str → Option Value} {name : Str} {scope : Scope} {cd : Value} {Q : Unit → Shared → Prop} {news : List (Addr × Obj)}
theorem leave_x (K : Below A base outer g) (F : Fr g L s'.heap m) (N : News g L s'.heap ((e, excOf C t d) :: news)) (hne : ∀ q ∈ news, q.1 ≠ e)
    (hQ : ∀ h', RaisedN base outer e (.ref C) news h' → g.UpToSlots h' → Q () { s' with heap := h' }) (hk : scope.kind = .function := by rfl) :
    wpAny M (A.deeper (envOf name scope L a cd)) (leaving (envOf name scope L a cd) (.ref e)) Q E s' := by
  have K' := K.push (name := name) (a := a) (cd := cd) F hk
  have hin : ∀ env ∈ (envOf name scope L a cd :: outer), ∀ b, env.frame = some b → b ∈ e :: (envOf name scope L a cd :: outer).filterMap (·.frame) := fun env he b hb => .tail _ (List.mem_filterMap.mpr ⟨env, he, hb⟩)
  have ze := N _ (.head _)
  have st : base.StaysIn (hideAll s'.heap (e :: (envOf name scope L a cd :: outer).filterMap (·.frame))) := fun b o q => hideAll_get _ (K'.stays b o q) fun hm => by
    rcases List.mem_cons.mp hm with rfl | hm
    · rw [fresh_of_stays K.stays ze.2.2] at q; cases q
    · rw [(K'.frames.mem hm).1] at q; cases q
  have hl : ∀ q ∈ news, (hideAll s'.heap (e :: (envOf name scope L a cd :: outer).filterMap (·.frame))).get? q.1 = some q.2 ∧ base.get? q.1 = none := fun q hq => by
    have zq := N q (.tail _ hq)
    refine ⟨hideAll_get _ zq.1 fun hm => ?_, fresh_of_stays K.stays zq.2.2⟩
    rcases List.mem_cons.mp hm with h1 | hm
    · exact hne q hq h1
    · obtain ⟨env, he, hf⟩ := List.mem_filterMap.mp hm
      rcases List.mem_cons.mp he with rfl | he
      · exact zq.2.1 (Option.some.inj hf).symm
      · obtain ⟨o, ho, _⟩ := (K.frames.mem (List.mem_filterMap.mpr ⟨env, he, hf⟩)).2
        rw [zq.2.2] at ho; cases ho
  refine wpAny_leaving_firstW (a0 := .ref t) K'.stack (funFrames_hide K'.frames hin) rfl ze.1 (fun b o hb => of_hideAll _ hb) (hideAll_none _ (.head _)) rfl rfl rfl fun h' hL => ?_
  obtain ⟨k1, ⟨_, _, k2⟩, k3, k4⟩ := hL
  exact hQ h' ⟨_, .ref t, st, hl, k1, hideAll_none _ (.head _), k2, k3⟩ ((Heap.UpToSlots.of_keeps F.keep).trans k4)
end

theorem raisable_of {E : Value → Shared → Prop} {s : Shared} {e t C N : Addr} {d dd : Option Addr} {nm q : Str} {bs bm sub : List Value} {hdct ab : Bool} {sn : List Str} {col : Option Bool} {k0 k1 k2 k3 k5 : Option Value} {newId : String}
    (hC : s.heap.get? C = some (excClassObj nm q C N bs bm hdct sn sub ab col dd k0 k1 k2 k3 k5 newId)) (hb : bm.contains (.type "BaseException") = true) (he : s.heap.get? e = some (excOf C t d)) (hE : E (.ref e) s) : RaisableX E (.ref e) s :=
  ⟨e, t, d, C, nm, q, N, bs, bm, hdct, sn, sub, ab, col, dd, k0, k1, k2, k3, k5, newId, rfl, hb, hC, he, hE⟩
theorem raisable44 {w : World} {E : Value → Shared → Prop} {s : Shared} {h₀ : Heap} {L e t : Addr} {d : Option Addr} {m : Str → Option Value} {news : List (Addr × Obj)} (F : Fr h₀ L s.heap m) (X : (K39 w.params).In h₀) (N : News h₀ L s.heap ((e, excOf 44 t d) :: news)) (hE : E (.ref e) s) : RaisableX E (.ref e) s := by
  have X₁ := X.keeps F.keep
  refine' raisable_of (X₁ 44 _ ?z2) ?z1 (N _ (.head _)).1 hE
  case z2 => k_is
  case z1 => rfl

theorem RaisedN.sub {base h : Heap} {l : List Env} {e : Addr} {cls : Value} {news news' : List (Addr × Obj)} (R : RaisedN base l e cls news' h) (hs : ∀ q ∈ news, q ∈ news') : RaisedN base l e cls news h := by
  obtain ⟨B, a0, hB, hl, hfl⟩ := R
  exact ⟨B, a0, hB, fun q hq => hl q (hs q hq), hfl⟩
theorem leave_on_x {M : Model} {A : Around} {E : Value → Shared → Prop} {s' : Shared} {base g : Heap} {outer : List Env} {L a e : Addr} {name : Str} {scope : Scope} {cd cls : Value} {Q : Unit → Shared → Prop} {news : List (Addr × Obj)} (K : Below A base outer g) (R : RaisedN base (envOf name scope L a cd :: outer) e cls news s'.heap) (hsm : g.UpToSlots s'.heap)
    (hQ : ∀ h', RaisedN base outer e cls news h' → g.UpToSlots h' → Q () { s' with heap := h' }) : wpAny M (A.deeper (envOf name scope L a cd)) (leaving (envOf name scope L a cd) (.ref e)) Q E s' := by
  obtain ⟨B, a0, hB, hl, hfl⟩ := R
  exact wpAny_leaves_onW (Around.frames_deeper K.stack) rfl hfl fun h' x1 x2 => hQ h' ⟨B, a0, hB, hl, x1⟩ (hsm.trans x2)

local macro_rules | `(tactic| walk_at "getAttr ref") => `(tactic| (k_here; k_dflt (refine' get_own ?k1 ?k2 ?k3 ?k4 ?k5 ?k6 ?k7 ?k8 ?k9 ?_; (case k1 => k_asm); (case k2 => k_asm); (case k3 => k_inst); (case k4 => k_is); (case k5 => k_is); (case k6 => k_is); (case k7 => k_is); (case k8 => assumption); (case k9 => k_handed); k_whole)))
local macro_rules | `(tactic| walk_at "exec Raise some none") => `(tactic| (k_here; (with_reducible show wpAny _ _ (exec (Stmt.Raise (some (Expr.Call (Expr.Name ("CheckFault" : Str) _) _ _ _)) none _) _) _ _ _); refine Raise_x rfl ?_))
local macro_rules | `(tactic| walk_at "call ref") => `(tactic| (k_here; (with_reducible show wpAny _ _ (call (Value.ref 44) [Value.str _ _]) _ _ _); k_dflt (refine' make44 _ ?k1 ?k2 ?k3 ?k4 ?k5 ?kK ?z1 ?kd ?_; (case z1 => exact rfl); (case k1 => k_asm); (case k2 => k_asm); (case k3 => k_asm); (case k4 => k_asm); (case k5 => k_asm); (case kK => exact rfl); (case kd => (dsimp only [ktrTop, Around.deeper]; omega)); k_whole); intro e8 t8 d8 h8 tk8 F8 N8 l8; (have hne8 := fun q hq => Nat.ne_of_lt (l8 q hq)); (try k_sweep); (refine raisable44 (by k_asm) (by k_asm) (by k_asm) ?_); (try dsimp only)))
local macro_rules | `(tactic| walk_at "leaving ref") => `(tactic| (k_here; (refine' leave_x ?k1 ?k2 ?k3 ?k4 ?_; (case k1 => assumption); (case k3 => k_asm); (case k2 => k_asm); (case k4 => assumption); k_whole); intro h8 R8 U8; (try dsimp only at R8 U8 ⊢)))

/-- limits at a ledger: its steps -/
def LimAt (most : Nat) (lim : Addr) (news : List (Addr × Obj)) : Prop := ∃ dx es n tk, (lim, instObj 517 dx) ∈ news ∧ (dx, dictOf es n) ∈ news ∧ getL (Str.ofString "steps") es = some (some (.int most tk))
theorem LimAt.mono {most : Nat} {lim : Addr} {news news' : List (Addr × Obj)} (h : LimAt most lim news) (hs : ∀ p ∈ news, p ∈ news') : LimAt most lim news' :=
  let ⟨dx, es, n, tk, a, b, c⟩ := h; ⟨dx, es, n, tk, hs _ a, hs _ b, c⟩

set_option maxHeartbeats 4000000 in
theorem chk_spec (w : World) {most : Nat} {len : Int} {t : Tok} {lim : Addr} {news : List (Addr × Obj)} (hl : LimAt most lim news) :
    CallsTo w 14 80 471 [.int len t, .ref lim] news (fun r news' => r = .none ∧ news' = news ∧ len ≤ most) (most < len) := by
  obtain ⟨dx, es, n, tk, hl1, hl2, hl3⟩ := hl
  unfold CallsTo
  intro p loose mean mg mb dp un gd cn cs a ccd cl outer A₀ base h₀ L m s Q E B F X N T XB TB hk hd hu hret hexc
  refine wpAny_call ?_
  k_dflt ktr_enter
  k_steps
  all_goals first
    | exact hexc (by omega) _ _ _ _ (by assumption) (by assumption) (by assumption)
    | exact hret _ _ _ _ (by k_asm) (by k_asm) ⟨rfl, rfl, by omega⟩

local macro_rules | `(tactic| walk_at "exec Raise some none") => `(tactic| (k_here; (with_reducible show wpAny _ _ (exec (Stmt.Raise (some (Expr.Call (Expr.Name ("CheckFault" : Str) _) _ _ _)) none _) _) _ _ _); refine Raise_x rfl ?_))
local macro_rules | `(tactic| walk_at "call ref") => `(tactic| (k_here; (with_reducible show wpAny _ _ (call (Value.ref 44) [Value.str _ _]) _ _ _); k_dflt (refine' make44 _ ?k1 ?k2 ?k3 ?k4 ?k5 ?kK ?z1 ?kd ?_; (case z1 => exact rfl); (case k1 => k_asm); (case k2 => k_asm); (case k3 => k_asm); (case k4 => k_asm); (case k5 => k_asm); (case kK => exact rfl); (case kd => (dsimp only [ktrTop, Around.deeper]; omega)); k_whole); intro e8 t8 d8 h8 tk8 F8 N8 l8; (have hne8 := fun q hq => Nat.ne_of_lt (l8 q hq)); (try k_sweep); (refine raisable44 (by k_asm) (by k_asm) (by k_asm) ?_); (try dsimp only)))
local macro_rules | `(tactic| walk_at "leaving ref") => `(tactic| (k_here; (refine' leave_x ?k1 ?k2 ?k3 ?k4 ?_; (case k1 => assumption); (case k3 => k_asm); (case k2 => k_asm); (case k4 => assumption); k_whole); intro h8 R8 U8; (try dsimp only at R8 U8 ⊢)))
local macro_rules | `(tactic| walk_at "leaving ref") => `(tactic| (k_here; (refine' leave_on_x ?k1 ?k3 ?k4 ?_; (case k3 => assumption); (case k1 => assumption); (case k4 => assumption); k_whole); intro h8 R8 U8; (try dsimp only at R8 U8 ⊢)))
local macro_rules | `(tactic| walk_at "call ref") => `(tactic| (k_here; (with_reducible show wpAny _ _ (call (Value.ref 471) _) _ _ _); k_dflt (refine' CallsTo.use (chk_spec _ ?p1) ?k1 ?k2 ?k3 ?k4 ?k5 ?kX ?kT ?kK ?kd ?ku ?_ ?_; (case k1 => k_asm); (case k2 => k_asm); (case k3 => k_asm); (case k4 => k_asm); (case k5 => k_asm); (case kX => k_asm); (case kT => k_asm); (case p1 => assumption); (case kK => exact rfl); (case kd => (dsimp only [ktrTop, Around.deeper]; omega)); (case ku => (dsimp only [ktrTop, Around.deeper]; omega))); (first | (rintro r8 news8 h8 tk8 F8 N8 ⟨hr8, hn8, hl8⟩; subst hr8; subst hn8; (try k_sweep); (try k_fold)) | skip); (all_goals (try (intro hx8 e8 h8 tk8 g8 R8 U8 G8; replace U8 := up_trans U8 G8)))))
local macro_rules | `(tactic| walk_at "call builtin:len") => `(tactic| (k_here; (with_reducible show wpAny _ _ (call (Value.builtin "len") [Value.str _ _]) _ _ _); (refine P.len_str (by omega) ?_)))

set_option maxHeartbeats 4000000 in
theorem pair_spec (w : World) {most : Nat} {k : Tok} {a1 a2 lim : Addr} {i1 i2 j1 j2 : Tok} {t1 t2 : Str} {n1 n2 : Nat} {news : List (Addr × Obj)} (h1 : (a1, tupOf [.int 5 i1, .str t1 j1] n1) ∈ news) (h2 : (a2, tupOf [.int 5 i2, .str t2 j2] n2) ∈ news) (hl : LimAt most lim news)
    (hb1 : t1.length ≤ 23) (hb2 : t2.length ≤ 23) :
    CallsTo w 20 120 478 [.str "//" k, .ref a1, .ref a2, .ref lim] news (fun r news' => ∃ b m i j, r = .ref b ∧ news' = (b, tupOf [.int 5 i, .str (t1 ++ t2) j] m) :: news ∧ t1.length + t2.length ≤ most) (most < t1.length + t2.length) := by
  unfold CallsTo
  intro p loose mean mg mb dp un gd cn cs a ccd cl outer A₀ base h₀ L m s Q E B F X N T XB TB hk hd hu hret hexc
  refine wpAny_call ?_
  k_dflt ktr_enter
  k_steps
  all_goals first
    | exact hret _ _ _ _ (by k_asm) (by k_asm) ⟨_, _, _, _, rfl, rfl, by omega⟩
    | exact hexc (by omega) _ _ _ _ (by assumption) (by assumption) (by assumption)

set_option maxHeartbeats 4000000 in
theorem kind_char (w : World) {a : Addr} {k1 : Tok} {v : Value} {n : Nat} {news : List (Addr × Obj)} (hm : (a, tupOf [.str "char" k1, v] n) ∈ news) :
    CallsTo w 8 60 429 [.ref a] news (fun r news' => (∃ k, r = .int 5 k) ∧ ∃ x o, news' = (x, o) :: news) False := by
  unfold CallsTo
  intro p loose mean mg mb dp un gd cn cs a ccd cl outer A₀ base h₀ L m s Q E B F X N T XB TB hk hd hu hret hexc
  refine wpAny_call ?_
  k_dflt ktr_enter
  k_steps
  all_goals exact hret _ _ _ _ (by k_asm) (by k_asm) ⟨⟨_, rfl⟩, _, _, rfl⟩

set_option maxHeartbeats 4000000 in
theorem kind_name (w : World) {a : Addr} {k1 : Tok} {v : Value} {n : Nat} {news : List (Addr × Obj)} (hm : (a, tupOf [.str "name" k1, v] n) ∈ news) :
    CallsTo w 8 60 429 [.ref a] news (fun r news' => (∃ k, r = .int (-1) k) ∧ ∃ x o, news' = (x, o) :: news) False := by
  unfold CallsTo
  intro p loose mean mg mb dp un gd cn cs a ccd cl outer A₀ base h₀ L m s Q E B F X N T XB TB hk hd hu hret hexc
  refine wpAny_call ?_
  k_dflt ktr_enter
  k_steps
  all_goals exact hret _ _ _ _ (by k_asm) (by k_asm) ⟨⟨_, rfl⟩, _, _, rfl⟩

set_option maxHeartbeats 4000000 in
theorem kind_bin (w : World) {a : Addr} {k1 : Tok} {v1 v2 v3 : Value} {n : Nat} {news : List (Addr × Obj)} (hm : (a, tupOf [.str "bin" k1, v1, v2, v3] n) ∈ news) :
    CallsTo w 8 60 429 [.ref a] news (fun r news' => (∃ k, r = .int (-1) k) ∧ ∃ x o, news' = (x, o) :: news) False := by
  unfold CallsTo
  intro p loose mean mg mb dp un gd cn cs a ccd cl outer A₀ base h₀ L m s Q E B F X N T XB TB hk hd hu hret hexc
  refine wpAny_call ?_
  k_dflt ktr_enter
  k_steps
  all_goals exact hret _ _ _ _ (by k_asm) (by k_asm) ⟨⟨_, rfl⟩, _, _, rfl⟩

local macro_rules | `(tactic| walk_at "call ref") => `(tactic| (k_here; (with_reducible show wpAny _ _ (call (Value.ref 429) _) _ _ _); k_dflt (first
  | (refine' CallsTo.use (kind_char _ ?p1) ?k1 ?k2 ?k3 ?k4 ?k5 ?kX ?kT ?kK ?kd ?ku ?_ ?pe; (case k4 => k_asm); (case p1 => k_mem))
  | (refine' CallsTo.use (kind_name _ ?p1) ?k1 ?k2 ?k3 ?k4 ?k5 ?kX ?kT ?kK ?kd ?ku ?_ ?pe; (case k4 => k_asm); (case p1 => k_mem))
  | (refine' CallsTo.use (kind_bin _ ?p1) ?k1 ?k2 ?k3 ?k4 ?k5 ?kX ?kT ?kK ?kd ?ku ?_ ?pe; (case k4 => k_asm); (case p1 => k_mem))); k_dflt ((case k1 => k_asm); (case k2 => k_asm); (case k3 => k_asm); (case k5 => k_asm); (case kX => k_asm); (case kT => k_asm); (case kK => exact rfl); (case kd => (dsimp only [ktrTop, Around.deeper]; omega)); (case ku => (dsimp only [ktrTop, Around.deeper]; omega)); (case pe => exact fun h => h.elim); k_whole); rintro r8 news8 h8 tk8 F8 N8 ⟨⟨y8, hr8⟩, x8, o8, hn8⟩; subst hr8; subst hn8; (try dsimp only at N8); (try k_sweep); (try k_fold)))

set_option maxHeartbeats 4000000 in
theorem value_char (w : World) {a lim : Addr} {k1 k2 : Tok} {t : Str} {n : Nat} {news : List (Addr × Obj)} (hm : (a, tupOf [.str "char" k1, .str t k2] n) ∈ news) :
    CallsTo w 12 90 443 [.ref a, .ref lim] news (fun r news' => ∃ b m k1 k2 x o, r = .ref b ∧ news' = (b, tupOf [.int 5 k1, .str t k2] m) :: (x, o) :: news) False := by
  unfold CallsTo
  intro p loose mean mg mb dp un gd cn cs a ccd cl outer A₀ base h₀ L m s Q E B F X N T XB TB hk hd hu hret hexc
  refine wpAny_call ?_
  k_dflt ktr_enter
  k_steps
  all_goals exact hret _ _ _ _ (by k_asm) (by k_asm) ⟨_, _, _, _, _, _, rfl, rfl⟩

section
variable {w : World} {A : Around} {E : Value → Shared → Prop} {s : Shared} {h₀ : Heap} {L d : Addr} {m : Str → Option Value} {news : List (Addr × Obj)} {o : Obj} {kvs : List (Str × Value)}

theorem ne_empty {e : Addr} {oe : Obj} {Q : Value → Shared → Prop} (N : News h₀ L s.heap news) (hp : (d, o) ∈ news) (hd : o.IsDictOf (PySem.strKind P0 w) kvs) (lo : (d == sysModules) = false)
    (he : (e, oe) ∈ news) (hde : oe.IsDictOf (PySem.strKind P0 w) []) (le : (e == sysModules) = false) (hu : A.units < cLine)
    (h0 : kvs.length = 0 → Q (.bool false) s) (h1 : 0 < kvs.length → Q (.bool true) s) : wpAny (model P0 w) A (compareOp .NotEq (.ref d) (.ref e)) Q E s := by
  refine keq_ne (r := true) lo le (kda_dict N hp hd) (kda_dict N he hde) hu (fun q => ?_) ?_
  · have e : kvs = [] := List.eq_nil_of_length_eq_zero q
    rw [e]; exact KeqHits.nil
  · cases kvs with
    | nil => exact h0 rfl
    | cons a r => exact h1 (by simp)

theorem sort_strs {D : Addr} {vs : List Value} {ss : List Str} {n : Nat} {Q : Value → Shared → Prop} (F : Fr h₀ L s.heap m) (N : News h₀ L s.heap ((D, listOf vs.toArray n) :: news)) (hl : ∀ q ∈ news, q.1 ≠ D) (hS : StrsAre vs ss) (h64 : vs.length < 64)
    (h : ∀ (h' : Heap) (vs' : List Value) (n' : Nat), Fr h₀ L h' m → News h₀ L h' ((D, listOf vs'.toArray n') :: news) → (∀ v, v ∈ vs' ↔ v ∈ vs) → vs'.length = vs.length → Q .none { s with heap := h' }) :
    wpAny (model P0 w) A (call (.builtin "list.sort") [.ref D]) Q E s := by
  have z := N (D, listOf vs.toArray n) (.head _)
  have ho : s.heap.get? D = some (seqObj "list" vs.toArray n) := z.1
  refine wpAny_call_entry PyProof.Rows.slot_list_sort ⟨_, z.1, rfl⟩ PyProof.Rows.entry_list_sort (list_sort_treeK (κ := PyProof.Rows.strKind) strKind_oneLt ho hS.keysOf (fun v₁ v₂ rest e => keyKind_strs (by rw [← e]; exact hS)) h64 fun st' hp _ => ⟨.none, rfl, ?_⟩) (PyProof.Rows.args_list_sort _)
  have hz : (arrOf st').toList.Perm (vs.zip vs) := by rw [← pairsOf_toList]; exact Array.perm_iff_toList_perm.mp hp
  have hm : (((arrOf st').map (·.2)).toList).Perm vs := by
    rw [Array.toList_map]
    have h1 := hz.map (·.2)
    rwa [List.map_snd_zip (Nat.le_refl _)] at h1
  obtain ⟨e, he⟩ := sortedHeap_at (out := (arrOf st').map (·.2)) ho
  have old : ∀ b x, b ≠ D → s.heap.get? b = some x → (sortedHeap s.heap D vs ((arrOf st').map (·.2))).get? b = some x := fun b x hb hx => (sortedHeap_old hb (Heap.lt_size hx)).trans hx
  obtain ⟨oL, es, ep, hL, r⟩ := F.ns
  refine h _ ((arrOf st').map (·.2)).toList e ⟨⟨oL, es, ep, old _ _ (Ne.symm z.2.1) hL, r⟩, fun b x q => old b x (fun q' => ?_) (F.keep b x q), F.above⟩ ?_ (fun v => hm.mem_iff) hm.length_eq
  · rw [q', z.2.2] at q; cases q
  · intro p hp'
    rcases List.mem_cons.mp hp' with rfl | hp'
    · exact ⟨by rw [Array.toArray_toList]; exact he, z.2⟩
    · exact ⟨old _ _ (hl p hp') (N p (.tail _ hp')).1, (N p (.tail _ hp')).2⟩

theorem strs_of {P : Str → Prop} : ∀ {vs : List Value}, (∀ v ∈ vs, ∃ x t, v = .str x t ∧ P x) → ∃ ss, StrsAre vs ss
  | [], _ => ⟨[], .nil⟩
  | v :: r, h => by
    obtain ⟨x, t, rfl, _⟩ := h v (.head _)
    obtain ⟨ss, hs⟩ := strs_of (vs := r) fun u hu => h u (.tail _ hu)
    exact ⟨x :: ss, .cons _ _ hs⟩

theorem sorted_dict {Q : Value → Shared → Prop} (hh : A.handled = none) (F : Fr h₀ L s.heap m) (N : News h₀ L s.heap news) (hp : (d, o) ∈ news) (hd : o.IsDictOf (PySem.strKind P0 w) kvs) (lo : (d == sysModules) = false) (hn : kvs.length ≤ 60)
    (h : ∀ (B : Addr) (h' : Heap) (tk : Nat) (vs : List Value) (n : Nat), Fr h₀ L h' m → News h₀ L h' ((B, listOf vs.toArray n) :: news) → (∀ q ∈ news, q.1 < B) → vs.length = kvs.length → (∀ v ∈ vs, ∃ x t, v = Value.str x t ∧ x ∈ kvs.map (·.1)) → Q (.ref B) { s with heap := h', toks := tk }) :
    wpAny (model P0 w) A (call (.builtin "sorted") [.ref d]) Q E s := by
  obtain ⟨ep, hat⟩ := (kda_dict N hp hd).dictAt
  refine kdu_sorted (kdl_dict (knd := PySem.strKind P0 w) (kvs := kvs) (ep := ep) lo) hh F N hat (kdl_size (by omega)) fun B h' tk vs F' N' l1 hl hv => ?_
  have hv' : ∀ v ∈ vs, ∃ x t, v = .str x t ∧ x ∈ kvs.map (·.1) := fun v hm => by
    obtain ⟨j, hj, rfl⟩ := List.mem_iff_getElem.mp hm
    obtain ⟨k, x, hx, hk⟩ := hv j _ (List.getElem?_eq_getElem hj)
    obtain ⟨t, ht⟩ := Value.isStrOf_shape hk
    exact ⟨k, t, ht, List.mem_map.mpr ⟨_, List.mem_of_getElem? hx, rfl⟩⟩
  obtain ⟨ss, hS⟩ := strs_of hv'
  refine sort_strs F' N' (fun q hq => Nat.ne_of_lt (l1 q hq)) hS (by omega) fun h'' vs' n' F'' N'' hm hlen => ?_
  exact h B h'' tk vs' n' F'' N'' l1 (hlen.trans hl) fun v hv'' => hv' v ((hm v).mp hv'')

theorem item_strs {value slice : PySem.Expr} {B : Addr} {vs : List Value} {n : Nat} {k : Int} {u : Tok} {P : Str → Prop} {Q : Value → Shared → Prop} (N : News h₀ L s.heap news) (hm : (B, listOf vs.toArray n) ∈ news) (hv : ∀ v ∈ vs, ∃ x t, v = .str x t ∧ P x)
    (h0 : 0 ≤ k) (h1 : k < vs.length) (hfit : vs.length ≤ 60) (h : ∀ x t, P x → Q (.str x t) s)
    (hs : subscripted slice false (.ref B) (.int k u) = operate [.ref B, .int k u] (getItem (.ref B) (.int k u)) := by with_unfolding_all rfl) :
    wpAny (model P0 w) A (subscriptTail value slice (.ref B) (.int k u)) Q E s := by
  have hl : s.heap.IsList B vs.toArray := PySem.IsL.isList (n := n) (N _ hm).1
  have hk : k.toNat < vs.length := by omega
  obtain ⟨x, t, e, hx⟩ := hv vs[k.toNat] (List.getElem_mem hk)
  refine tail_any hl.typeIs slot_list_getitem.lookup (wpAny_getItem_list hl h0 (by omega) (show vs.toArray[k.toNat]? = some (Value.str x t) by rw [← e]; simp [hk]) (h x t hx)) hs

theorem text4 {value slice : PySem.Expr} {x : Str} {t : Tok} {j : Int} {uj : Tok} {Q : Value → Shared → Prop} (F : Fr h₀ L s.heap m) (N : News h₀ L s.heap news) (hx : x.length ≤ 4)
    (h : ∀ (y : Str) (h' : Heap) (t' : Tok) (k : Nat), Fr h₀ L h' m → News h₀ L h' news → y.length ≤ 4 → Q (.str y t') { s with heap := h', toks := k })
    (hs : subscripted slice false (.str x t) (.ref s.heap.objs.size) = operate [.ref s.heap.objs.size, .str x t] (getItem (.str x t) (.ref s.heap.objs.size)) := by with_unfolding_all rfl)
    (ht : ∀ r, letTemporaryGo value (.str x t) r = pure () := by intro _; with_unfolding_all rfl) :
    wpAny (model P0 w) A (subscriptTail value slice (.str x t) (.ref s.heap.objs.size)) Q E { s with heap := s.heap.push { cls := .type "slice", data := .fields #[.none, .int j uj, .none] } } :=
  slice_strN_ns_len F N (fun h' t' k a b c => h _ h' t' k a b (by omega)) hs ht (by rw [sizeLine_eq]; omega)

theorem valueAt_env {β : Type} {f : β → Str} {g : β → Value} {env : List β} {x : Str} (hn : ((env.map fun q => (f q, g q)).map (·.1)).Nodup) (hx : x ∈ (env.map fun q => (f q, g q)).map (·.1)) : ∃ q ∈ env, f q = x ∧ valueAt (env.map fun q => (f q, g q)) x = some (g q) := by
  rw [List.map_map] at hx
  obtain ⟨q, hq, rfl⟩ := List.mem_map.mp hx
  obtain ⟨i, hi, rfl⟩ := List.mem_iff_getElem.mp hq
  exact ⟨_, hq, rfl, valueAt_of_get hn (i := i) (by simp [hi])⟩

theorem valueAt_mem {β : Type} {f : β → Str} {g : β → Value} {env : List β} {q : β} (hn : ((env.map fun q => (f q, g q)).map (·.1)).Nodup) (hq : q ∈ env) : valueAt (env.map fun q => (f q, g q)) (f q) = some (g q) := by
  obtain ⟨i, hi, rfl⟩ := List.mem_iff_getElem.mp hq
  exact valueAt_of_get hn (i := i) (by simp [hi])
theorem vals_notin {t : Tok} {env : List Ent} {q : Ent} {Q : Value → Shared → Prop} (N : News h₀ L s.heap news) (hp : (d, o) ∈ news) (hd : o.IsDictOf (PySem.strKind P0 w) (env.map fun q => (q.x, Value.ref q.a))) (lo : (d == sysModules) = false)
    (hq : q ∈ env) (h : Q (.bool false) { s with toks := s.toks + 1 }) : wpAny (model P0 w) A (compareOp .NotIn (.str q.x t) (.ref d)) Q E s := by
  obtain ⟨_, _, _, _, _, _, hn⟩ := id hd
  exact wpAny_notIn_of (strKind_is P0 w q.x t) lo (kda_dict N hp hd).mapOf (by rw [valueAt_mem hn hq]; exact h)
theorem vals_get {value slice : PySem.Expr} {t : Tok} {env : List Ent} {q : Ent} {Q : Value → Shared → Prop} (N : News h₀ L s.heap news) (hp : (d, o) ∈ news) (hd : o.IsDictOf (PySem.strKind P0 w) (env.map fun q => (q.x, Value.ref q.a)))
    (hq : q ∈ env) (h : Q (.ref q.a) { s with toks := s.toks + 1 })
    (hs : subscripted slice false (.ref d) (.str q.x t) = operate [.ref d, .str q.x t] (getItem (.ref d) (.str q.x t)) := by with_unfolding_all rfl) :
    wpAny (model P0 w) A (subscriptTail value slice (.ref d) (.str q.x t)) Q E s := by
  have hD := kda_dict N hp hd
  obtain ⟨_, _, _, _, _, _, hn⟩ := id hd
  exact tail_any hD.typeIs slot_dict_getitem.lookup (wpAny_getItem_of (strKind_is P0 w q.x t) hD.mapOf (valueAt_mem hn hq) h) hs

theorem known_get {value slice : PySem.Expr} {x : Str} {t : Tok} {env : List Ent} {Q : Value → Shared → Prop} (N : News h₀ L s.heap news) (hp : (d, o) ∈ news) (hd : o.IsDictOf (PySem.strKind P0 w) (env.map fun q => (q.x, Value.str q.t q.tk)))
    (hx : x ∈ (env.map fun q => (q.x, Value.str q.t q.tk)).map (·.1)) (h : ∀ q ∈ env, q.x = x → Q (.str q.t q.tk) { s with toks := s.toks + 1 })
    (hs : subscripted slice false (.ref d) (.str x t) = operate [.ref d, .str x t] (getItem (.ref d) (.str x t)) := by with_unfolding_all rfl) :
    wpAny (model P0 w) A (subscriptTail value slice (.ref d) (.str x t)) Q E s := by
  have hD := kda_dict N hp hd
  obtain ⟨_, _, _, _, _, _, hn⟩ := id hd
  obtain ⟨q, hq, e, hv⟩ := valueAt_env hn hx
  exact tail_any hD.typeIs slot_dict_getitem.lookup (wpAny_getItem_of (strKind_is P0 w x t) hD.mapOf hv (h q hq e)) hs

end

local macro_rules | `(tactic| walk_at "exec Raise some none") => `(tactic| (k_here; (with_reducible show wpAny _ _ (exec (Stmt.Raise (some (Expr.Call (Expr.Name ("CheckFault" : Str) _) _ _ _)) none _) _) _ _ _); refine Raise_x rfl ?_))
local macro_rules | `(tactic| walk_at "call ref") => `(tactic| (k_here; (with_reducible show wpAny _ _ (call (Value.ref 44) [Value.str _ _]) _ _ _); k_dflt (refine' make44 _ ?k1 ?k2 ?k3 ?k4 ?k5 ?kK ?z1 ?kd ?_; (case z1 => exact rfl); (case k1 => k_asm); (case k2 => k_asm); (case k3 => k_asm); (case k4 => k_asm); (case k5 => k_asm); (case kK => exact rfl); (case kd => (dsimp only [ktrTop, Around.deeper]; omega)); k_whole); intro e8 t8 d8 h8 tk8 F8 N8 l8; (have hne8 := fun q hq => Nat.ne_of_lt (l8 q hq)); (try k_sweep); (refine raisable44 (by k_asm) (by k_asm) (by k_asm) ?_); (try dsimp only)))
local macro_rules | `(tactic| walk_at "leaving ref") => `(tactic| (k_here; (refine' leave_x ?k1 ?k2 ?k3 ?k4 ?_; (case k1 => assumption); (case k3 => k_asm); (case k2 => k_asm); (case k4 => assumption); k_whole); intro h8 R8 U8; (try dsimp only at R8 U8 ⊢)))
local macro_rules | `(tactic| walk_at "leaving ref") => `(tactic| (k_here; (refine' leave_on_x ?k1 ?k3 ?k4 ?_; (case k3 => assumption); (case k1 => assumption); (case k4 => assumption); k_whole); intro h8 R8 U8; (try dsimp only at R8 U8 ⊢)))
local macro_rules | `(tactic| walk_at "call ref") => `(tactic| (k_here; (with_reducible show wpAny _ _ (call (Value.ref 429) _) _ _ _); k_dflt (first
  | (refine' CallsTo.use (kind_char _ ?p1) ?k1 ?k2 ?k3 ?k4 ?k5 ?kX ?kT ?kK ?kd ?ku ?_ ?pe; (case k4 => k_asm); (case p1 => k_mem))
  | (refine' CallsTo.use (kind_name _ ?p1) ?k1 ?k2 ?k3 ?k4 ?k5 ?kX ?kT ?kK ?kd ?ku ?_ ?pe; (case k4 => k_asm); (case p1 => k_mem))
  | (refine' CallsTo.use (kind_bin _ ?p1) ?k1 ?k2 ?k3 ?k4 ?k5 ?kX ?kT ?kK ?kd ?ku ?_ ?pe; (case k4 => k_asm); (case p1 => k_mem))); k_dflt ((case k1 => k_asm); (case k2 => k_asm); (case k3 => k_asm); (case k5 => k_asm); (case kX => k_asm); (case kT => k_asm); (case kK => exact rfl); (case kd => (dsimp only [ktrTop, Around.deeper]; omega)); (case ku => (dsimp only [ktrTop, Around.deeper]; omega)); (case pe => exact fun h => h.elim); k_whole); rintro r8 news8 h8 tk8 F8 N8 ⟨⟨y8, hr8⟩, x8, o8, hn8⟩; subst hr8; subst hn8; (try dsimp only at N8); (try k_sweep); (try k_fold)))

abbrev ConstRet (D : Dt) (most : Nat) (news : List (Addr × Obj)) (r : Value) (news' : List (Addr × Obj)) : Prop :=
  ∃ b m i j t, r = .ref b ∧ D.val most = some t ∧ (b, tupOf [.int 5 i, .str t j] m) ∈ news' ∧ ∀ q ∈ news, q ∈ news'
theorem len_of {env : List Ent} {most : Nat} {news : List (Addr × Obj)} {v : Value} {d : Dt} {t : Str} (e : d.val most = some t) (h : DIn env most news v d) (h23 : most ≤ 23) : t.length ≤ 23 := Nat.le_trans (h.len e) h23
theorem join_none1 {most : Nat} {l r : Dt} (h : l.val most = none) : (Dt.join l r).val most = none := by show joined _ _ _ = _; rw [h]; rfl
theorem join_none2 {most : Nat} {l r : Dt} (h : r.val most = none) : (Dt.join l r).val most = none := by
  show joined _ _ _ = _
  rw [h]; cases l.val most <;> rfl
theorem join_none3 {most : Nat} {l r : Dt} {a b : Str} (h1 : l.val most = some a) (h2 : r.val most = some b) (h : most < a.length + b.length) : (Dt.join l r).val most = none := by
  show joined _ _ _ = _
  rw [h1, h2]; exact if_pos h
theorem join_some {most : Nat} {l r : Dt} {a b : Str} (h1 : l.val most = some a) (h2 : r.val most = some b) (h : a.length + b.length ≤ most) : (Dt.join l r).val most = some (a ++ b) := by
  show joined _ _ _ = _
  rw [h1, h2]; exact if_neg (by omega)
def ConstSpec (w : World) (most : Nat) (env : List Ent) (D : Dt) : Prop := ∀ (kd vd lim : Addr) (tv : Value) (news : List (Addr × Obj)), DIn env most news tv D → LimAt most lim news → EnvAt P0 w most env kd vd news →
  CallsTo w (D.high + 24) (8 * D.high + 160) 457 [tv, .ref vd, .ref lim] news (ConstRet D most news) (D.val most = none)
theorem ConstSpec.call {w : World} {most : Nat} {env : List Ent} {D : Dt} (H : ConstSpec w most env D) {kd vd lim : Addr} {tv : Value} {news : List (Addr × Obj)} (h1 : DIn env most news tv D) (h2 : LimAt most lim news) (h3 : EnvAt P0 w most env kd vd news) :
  CallsTo w (D.high + 24) (8 * D.high + 160) 457 [tv, .ref vd, .ref lim] news (ConstRet D most news) (D.val most = none) := H kd vd lim tv news h1 h2 h3

local macro_rules | `(tactic| walk_at "call ref") => `(tactic| (k_here; (with_reducible show wpAny _ _ (call (Value.ref 443) _) _ _ _); k_dflt (refine' CallsTo.use (value_char _ ?p1) ?k1 ?k2 ?k3 ?k4 ?k5 ?kX ?kT ?kK ?kd ?ku ?_ ?pe; (case k1 => k_asm); (case k2 => k_asm); (case k3 => k_asm); (case k4 => k_asm); (case k5 => k_asm); (case kX => k_asm); (case kT => k_asm); (case p1 => k_mem); (case kK => exact rfl); (case kd => (dsimp only [ktrTop, Around.deeper]; omega)); (case ku => (dsimp only [ktrTop, Around.deeper]; omega)); (case pe => exact fun h => h.elim); k_whole); rintro r8 news8 h8 tk8 F8 N8 ⟨b8, m8, i8, j8, x8, o8, hr8, hn8⟩; subst hr8; subst hn8; (try k_sweep); (try k_fold)))

set_option maxHeartbeats 4000000 in
theorem const_chr (w : World) (most : Nat) (env : List Ent) (t : Str) : ConstSpec w most env (.chr t) := by
  intro kd vd lim tv news hD hL hE
  cases hD with
  | chr hm hlen =>
  unfold CallsTo
  intro p loose mean mg mb dp un gd cn cs a ccd cl outer A₀ base h₀ L m s Q E B F X N T XB TB hk hd hu hret hexc
  refine wpAny_call ?_
  k_dflt ktr_enter
  k_steps
  all_goals exact hret _ _ _ _ (by k_asm) (by k_asm) ⟨_, _, _, _, _, rfl, rfl, by k_mem, fun q hq => by k_mem⟩

local macro_rules | `(tactic| walk_at "compareOp NotIn str ref") => `(tactic| (k_here; k_dflt (refine' vals_notin ?z1 ?z2 ?z3 ?z4 ?z5 ?_; (case z1 => k_asm); (case z2 => k_mem); (case z3 => assumption); (case z4 => assumption); (case z5 => assumption); k_whole)))
local macro_rules | `(tactic| walk_at "subscriptTail Name Subscript ref str") => `(tactic| (k_here; k_dflt (refine' vals_get ?z1 ?z2 ?z3 ?z5 ?_ ?z7; (case z1 => k_asm); (case z2 => k_mem); (case z3 => assumption); (case z5 => assumption); (case z7 => with_unfolding_all rfl); k_whole)))
set_option maxHeartbeats 4000000 in
theorem const_nm (w : World) (most : Nat) (env : List Ent) (x t : Str) : ConstSpec w most env (.nm x t) := by
  intro kd vd lim tv news hD hL hE
  cases hD with
  | @nm _ _ _ _ q hm hq hlen =>
  obtain ⟨ov, hv1, hv2⟩ := hE.values
  have hvlo := hE.vlo
  obtain ⟨i9, j9, n9, ht9⟩ := hE.tups q hq
  unfold CallsTo
  intro p loose mean mg mb dp un gd cn cs a ccd cl outer A₀ base h₀ L m s Q E B F X N T XB TB hk hd hu hret hexc
  refine wpAny_call ?_
  k_dflt ktr_enter
  k_steps
  all_goals exact hret _ _ _ _ (by k_asm) (by k_asm) ⟨_, _, _, _, _, rfl, rfl, by k_mem, fun q hq => by k_mem⟩

local macro_rules | `(tactic| walk_at "call ref") => `(tactic| (k_here; (with_reducible show wpAny _ _ (call (Value.ref 457) _) _ _ _); k_dflt (refine' CallsTo.use (ConstSpec.call ?p0 ?p1 ?p2 ?p3) ?k1 ?k2 ?k3 ?k4 ?k5 ?kX ?kT ?kK ?kd ?ku ?_ ?_; (case k1 => k_asm); (case k2 => k_asm); (case k3 => k_asm); (case k4 => k_asm); (case k5 => k_asm); (case kX => k_asm); (case kT => k_asm); (case p1 => exact DIn.mono (by assumption) (fun q9 hq9 => by k_mem)); (case p0 => assumption); (case p2 => exact LimAt.mono (by assumption) (fun q9 hq9 => by k_mem)); (case p3 => exact EnvAt.mono (by assumption) (fun q9 hq9 => by k_mem)); (case kK => exact rfl); (case kd => (dsimp only [ktrTop, Around.deeper]; omega)); (case ku => (dsimp only [ktrTop, Around.deeper]; omega))); (first | (rintro r8 news8 h8 tk8 F8 N8 ⟨b8, m8, i8, j8, y8, hr8, hv8, hb8, hs8⟩; subst hr8; (try k_sweep); (try k_fold)) | skip); (all_goals (try (intro hx8 e8 h8 tk8 g8 R8 U8 G8; replace U8 := up_trans U8 G8)))))
local macro_rules | `(tactic| walk_at "call ref") => `(tactic| (k_here; (with_reducible show wpAny _ _ (call (Value.ref 478) _) _ _ _); k_dflt (refine' CallsTo.use (pair_spec _ ?p1 ?p2 ?p3 ?p4 ?p5) ?k1 ?k2 ?k3 ?k4 ?k5 ?kX ?kT ?kK ?kd ?ku ?_ ?_; (case k1 => k_asm); (case k2 => k_asm); (case k3 => k_asm); (case k4 => k_asm); (case k5 => k_asm); (case kX => k_asm); (case kT => k_asm); (case p1 => k_mem); (case p2 => k_mem); (case p3 => exact LimAt.mono (by assumption) (fun q9 hq9 => by k_mem)); (case p4 => exact len_of (by assumption) (by assumption) (by assumption)); (case p5 => exact len_of (by assumption) (by assumption) (by assumption)); (case kK => exact rfl); (case kd => (dsimp only [ktrTop, Around.deeper]; omega)); (case ku => (dsimp only [ktrTop, Around.deeper]; omega))); (first | (rintro r8 news8 h8 tk8 F8 N8 ⟨b8, m8, i8, j8, hr8, hn8, hl8⟩; subst hr8; subst hn8; (try k_sweep); (try k_fold)) | skip); (all_goals (try (intro hx8 e8 h8 tk8 g8 R8 U8 G8; replace U8 := up_trans U8 G8)))))
set_option maxHeartbeats 4000000 in
theorem const_join (w : World) (most : Nat) (h23 : most ≤ 23) (env : List Ent) (l r : Dt) (ihl : ConstSpec w most env l) (ihr : ConstSpec w most env r) : ConstSpec w most env (.join l r) := by
  intro kd vd lim tv news hD hL hE
  have hhl : l.high + 1 ≤ (Dt.join l r).high := Nat.succ_le_succ (Nat.le_max_left _ _)
  have hhr : r.high + 1 ≤ (Dt.join l r).high := Nat.succ_le_succ (Nat.le_max_right _ _)
  cases hD with
  | join hm hl hr =>
  unfold CallsTo
  intro p loose mean mg mb dp un gd cn cs a ccd cl outer A₀ base h₀ L m s Q E B F X N T XB TB hk hd hu hret hexc
  refine wpAny_call ?_
  k_dflt ktr_enter
  k_steps
  all_goals first
    | exact hret _ _ _ _ (by k_asm) (by k_asm) ⟨_, _, _, _, _, rfl, join_some (by assumption) (by assumption) (by omega), by k_mem, fun q9 hq9 => by k_mem⟩
    | exact hexc (join_none1 (by assumption)) _ _ _ _ (RaisedN.sub (by assumption) (fun q9 hq9 => by k_mem)) (by assumption) (by assumption)
    | exact hexc (join_none2 (by assumption)) _ _ _ _ (RaisedN.sub (by assumption) (fun q9 hq9 => by k_mem)) (by assumption) (by assumption)
    | exact hexc (join_none3 (by assumption) (by assumption) (by omega)) _ _ _ _ (RaisedN.sub (by assumption) (fun q9 hq9 => by k_mem)) (by assumption) (by assumption)

theorem const_spec (w : World) (most : Nat) (h23 : most ≤ 23) (env : List Ent) : ∀ D, ConstSpec w most env D
  | .chr t => const_chr w most env t
  | .nm x t => const_nm w most env x t
  | .join l r => const_join w most h23 env l r (const_spec w most h23 env l) (const_spec w most h23 env r)

section
variable {M : Model} {A : Around} {E : Value → Shared → Prop}
theorem exc_other {nm q nm' q' : Str} {C N D N' : Addr} {bs bm bs' bm' sub sub' : List Value} {hdct ab hdct' ab' : Bool} {sn sn' : List Str} {col col' : Option Bool} {dd dd' : Option Addr} {k0 k1 k2 k3 k5 j0 j1 j2 j3 j5 : Option Value} {newId newId' : String}
    {h : Heap} {g : Array GenState} {d : Drawn} {t : Nat} {os : OsState} {e : Addr} {oe : Obj} {Q : Bool → Shared → Prop}
    (hC : h.get? C = some (excClassObj nm q C N bs bm hdct sn sub ab col dd k0 k1 k2 k3 k5 newId)) (hD : h.get? D = some (excClassObj nm' q' D N' bs' bm' hdct' sn' sub' ab' col' dd' j0 j1 j2 j3 j5 newId'))
    (he : h.get? e = some oe) (hcls : oe.cls = .ref C) (hbase : bm'.contains (.type "BaseException") = true) (hn : (Value.ref C :: bm).contains (.ref D) = false)
    (hq : Q false ⟨h, g, d, t, os⟩) : wpAny M A (excMatches (.ref e) (.ref D)) Q E ⟨h, g, d, t, os⟩ := by
  have hcB : (Value.ref D :: bm').contains (.type "BaseException") = true := by rw [List.contains_cons, hbase, Bool.or_true]
  have f := tc_notTuple
  unfold excMatches
  repeat (first | (with_reducible refine wpAny_loadPart_at he ?_; rw [hcls]) | with_reducible refine wpAny_loadPart_at hD ?_ | with_reducible refine wpAny_loadPart_at hC ?_ | (with_reducible refine wpAny_isSubtype_exc hD ?_; rw [hcB]) | (with_reducible refine wpAny_isSubtype_exc hC ?_; rw [hn]) | wp_step)
  exact hq
end

def HeldN (base : Heap) (l : List Env) (e L : Addr) (cls : Value) (news : List (Addr × Obj)) (h : Heap) : Prop :=
  ∃ B a0, base.StaysIn B ∧ (∀ q ∈ news, B.get? q.1 = some q.2 ∧ base.get? q.1 = none) ∧ Heap.HeldW B l e cls a0 L h

section
variable {prog : Program} {w : World} {A₀ : Around} {E : Value → Shared → Prop} {s' : Shared} {base g : Heap} {outer : List Env} {L a e : Addr} {name : Str} {scope : Scope} {cd : Value} {news : List (Addr × Obj)}
theorem passes_on {cls : Value} {Q : Flow → Shared → Prop} (R : RaisedN base (envOf name scope L a cd :: outer) e cls news s'.heap) (hsm : g.UpToSlots s'.heap)
    (k : ∀ h', HeldN base (envOf name scope L a cd :: outer) e L cls news h' → g.UpToSlots h' → E (.ref e) { s' with heap := h' }) :
    wpAny (model prog w) (A₀.deeper (envOf name scope L a cd)) (handleBy (.ref e) (envOf name scope L a cd) []) Q E s' := by
  obtain ⟨B, a0, hB, hl, hfl⟩ := R
  obtain ⟨_, _, _, oe, ws, T, oT, ts, he, hc, hd, h1, _⟩ := id hfl
  refine wpAny_handleBy_nil ?_
  unfold PySem.passOn
  refine wpAny_bind (wpAny_field he hd h1 ?_)
  rw [if_neg (show ¬ ((Value.ref T == Value.none) = true) from by simp)]
  first
    | exact wpAny_bind (wpAny_pure (wpAny_bind (setFlight_onW hfl fun h' hh hs => wpAny_throw (k h' ⟨B, a0, hB, hl, hh⟩ (hsm.trans hs)))))
    | exact wpAny_bind (setFlight_onW hfl fun h' hh hs => wpAny_throw (k h' ⟨B, a0, hB, hl, hh⟩ (hsm.trans hs)))

theorem leave_held {cls : Value} {Q : Unit → Shared → Prop} (R : HeldN base (envOf name scope L a cd :: outer) e L cls news s'.heap) (hsm : g.UpToSlots s'.heap)
    (hQ : ∀ h', RaisedN base outer e cls news h' → g.UpToSlots h' → Q () { s' with heap := h' }) :
    wpAny (model prog w) (A₀.deeper (envOf name scope L a cd)) (leaving (envOf name scope L a cd) (.ref e)) Q E s' := by
  obtain ⟨B, a0, hB, hl, hh⟩ := R
  unfold leaving
  refine wpAny_bind (wpAny_noteFrame_againW rfl hh.2.2.2 ?_)
  refine wpAny_landsW hh fun h' hfl hs => ?_
  obtain ⟨k1, k2, ⟨_, _, k3⟩, k4⟩ := hfl
  exact hQ h' ⟨B, a0, hB, hl, k1, k2, k3, k4⟩ (hsm.trans hs)

theorem passes_x {x : Str} {np pos : Pos} {on : Option Str} {suite : List Stmt} {mg : Str → Option Value} {Q : Flow → Shared → Prop} {nm q nm' q' : Str} {C N D N' : Addr} {bs bm bs' bm' sub sub' : List Value} {hdct ab hdct' ab' : Bool} {sn sn' : List Str} {col col' : Option Bool} {dd dd' : Option Addr} {k0 k1 k2 k3 k5 j0 j1 j2 j3 j5 : Option Value} {newId newId' : String}
    (R : RaisedN base (envOf name scope L a cd :: outer) e (.ref C) news s'.heap) (K : Below A₀ base outer g) (hsm : g.UpToSlots s'.heap)
    (hg : base.Ns mainGlobals mg) (ex : mg x = some (.ref D)) (hC : base.get? C = some (excClassObj nm q C N bs bm hdct sn sub ab col dd k0 k1 k2 k3 k5 newId)) (hD : base.get? D = some (excClassObj nm' q' D N' bs' bm' hdct' sn' sub' ab' col' dd' j0 j1 j2 j3 j5 newId'))
    (hbase : bm'.contains (.type "BaseException") = true) (hn : (Value.ref C :: bm).contains (.ref D) = false)
    (k : ∀ h', HeldN base (envOf name scope L a cd :: outer) e L (.ref C) news h' → g.UpToSlots h' → E (.ref e) { s' with heap := h' })
    (hk : scope.kind = .function := by rfl) (hx : (envOf name scope L a cd).kindOf x = some .globalImplicit := by rfl) (hd : (x == ("__debug__" : Str)) = false := by decide) :
    wpAny (model prog w) (A₀.deeper (envOf name scope L a cd)) (noteFrame (.ref e) (envOf name scope L a cd))
      (fun _ s₂ => wpAny (model prog w) (A₀.deeper (envOf name scope L a cd)) (setFlight (.ref e) none) (fun _ s₃ =>
        wpAny (model prog w) (A₀.deeper (envOf name scope L a cd)) (handleBy (.ref e) (envOf name scope L a cd) [.ExceptHandler (some (.Name x np)) on suite pos]) Q E s₃) E s₂) E s' := by
  obtain ⟨B, a0, hB, hl, hfl⟩ := R
  refine wpAny_looks_onW (Around.frames_deeper K.stack) rfl hfl fun h₄ hheld₄ hsm₄ => ?_
  refine wpAny_landsW hheld₄ fun h₅ hheld hsm₅' => ?_
  have hsm₅ := hsm.trans (hsm₄.trans hsm₅')
  have st : base.StaysIn h₅ := fun b o q => hheld.1 b o (hB b o q)
  obtain ⟨ob, hob, hobc⟩ := hheld.there
  refine wpAny_handleBy_cons (codeAny_handlers_test (Calls.Name_function_global hk hx (Calls.loadGlobal_global (env := envOf name scope L a cd) (hg.keeps st) ex ?_) hd)) (by intro q; cases q)
  refine exc_other (st _ _ hC) (st _ _ hD) hob hobc hbase hn ?_
  exact passes_on (g := g) ⟨B, a0, hB, hl, hheld⟩ hsm₅ k
end

local macro_rules | `(tactic| walk_at "exec Raise some none") => `(tactic| (k_here; (with_reducible show wpAny _ _ (exec (Stmt.Raise (some (Expr.Call (Expr.Name ("CheckFault" : Str) _) _ _ _)) none _) _) _ _ _); refine Raise_x rfl ?_))
local macro_rules | `(tactic| walk_at "call ref") => `(tactic| (k_here; (with_reducible show wpAny _ _ (call (Value.ref 44) [Value.str _ _]) _ _ _); k_dflt (refine' make44 _ ?k1 ?k2 ?k3 ?k4 ?k5 ?kK ?z1 ?kd ?_; (case z1 => exact rfl); (case k1 => k_asm); (case k2 => k_asm); (case k3 => k_asm); (case k4 => k_asm); (case k5 => k_asm); (case kK => exact rfl); (case kd => (dsimp only [ktrTop, Around.deeper]; omega)); k_whole); intro e8 t8 d8 h8 tk8 F8 N8 l8; (have hne8 := fun q hq => Nat.ne_of_lt (l8 q hq)); (try k_sweep); (refine raisable44 (by k_asm) (by k_asm) (by k_asm) ?_); (try dsimp only)))
local macro_rules | `(tactic| walk_at "leaving ref") => `(tactic| (k_here; (refine' leave_x ?k1 ?k2 ?k3 ?k4 ?_; (case k1 => assumption); (case k3 => k_asm); (case k2 => k_asm); (case k4 => assumption); k_whole); intro h8 R8 U8; (try dsimp only at R8 U8 ⊢)))
local macro_rules | `(tactic| walk_at "leaving ref") => `(tactic| (k_here; (refine' leave_on_x ?k1 ?k3 ?k4 ?_; (case k3 => assumption); (case k1 => assumption); (case k4 => assumption); k_whole); intro h8 R8 U8; (try dsimp only at R8 U8 ⊢)))

local macro_rules | `(tactic| walk_at "call ref") => `(tactic| (k_here; (with_reducible show wpAny _ _ (call (Value.ref 457) _) _ _ _); k_dflt (refine' CallsTo.use (ConstSpec.call ?p0 ?p1 ?p2 ?p3) ?k1 ?k2 ?k3 ?k4 ?k5 ?kX ?kT ?kK ?kd ?ku ?_ ?_; (case k1 => k_asm); (case k2 => k_asm); (case k3 => k_asm); (case k4 => k_asm); (case k5 => k_asm); (case kX => k_asm); (case kT => k_asm); (case p1 => exact DIn.mono (by assumption) (fun q9 hq9 => by k_mem)); (case p0 => exact const_spec _ _ (by assumption) _ _); (case p2 => exact LimAt.mono (by assumption) (fun q9 hq9 => by k_mem)); (case p3 => exact EnvAt.mono (by assumption) (fun q9 hq9 => by k_mem)); (case kK => exact rfl); (case kd => (dsimp only [ktrTop, Around.deeper]; omega)); (case ku => (dsimp only [ktrTop, Around.deeper]; omega))); (first | (rintro r8 news8 h8 tk8 F8 N8 ⟨b8, m8, i8, j8, y8, hr8, hv8, hb8, hs8⟩; subst hr8; (try k_sweep); (try k_fold)) | skip); (all_goals (try (intro hx8 e8 h8 tk8 g8 R8 U8 G8; replace U8 := up_trans U8 G8)))))
local macro_rules | `(tactic| walk_at "noteFrame ref") => `(tactic| (k_here; k_dflt (refine' passes_x (D := 56) (C := 44) ?z1 ?z2 ?z3 (TopRead.g (topRead_of ?z4)) (mg_of ?z5 (TopRead.g (topRead_of ?z4)) ?z6) (?z5 44 _ ?z7) (?z5 56 _ ?z8) ?z9 ?zA ?_; (case z1 => assumption); (case z2 => assumption); (case z3 => assumption); (case z5 => k_asm); (case z4 => k_asm); (case z6 => k_is); (case z7 => k_is); (case z8 => k_is); (case z9 => rfl); (case zA => decide); k_whole); intro h8 H8 U8; (try dsimp only at H8 U8 ⊢)))
local macro_rules | `(tactic| walk_at "leaving ref") => `(tactic| (k_here; (refine' leave_held ?k1 ?k3 ?_; (case k1 => assumption); (case k3 => assumption); k_whole); intro h8 R8 U8; (try dsimp only at R8 U8 ⊢)))

set_option maxHeartbeats 4000000 in
theorem eval_spec (w : World) {most : Nat} (h23 : most ≤ 23) {env : List Ent} {D : Dt} {kd vd lim : Addr} {tv : Value} {news : List (Addr × Obj)} (hD : DIn env most news tv D) (hL : LimAt most lim news) (hE : EnvAt P0 w most env kd vd news) :
  CallsTo w (D.high + 34) (8 * D.high + 220) 450 [tv, .ref vd, .ref lim] news (ConstRet D most news) (D.val most = none) := by
  unfold CallsTo
  intro p loose mean mg mb dp un gd cn cs a ccd cl outer A₀ base h₀ L m s Q E B F X N T XB TB hk hd hu hret hexc
  refine wpAny_call ?_
  k_dflt ktr_enter
  k_steps
  all_goals first
    | exact hret _ _ _ _ (by k_asm) (by k_asm) ⟨_, _, _, _, _, rfl, by assumption, by assumption, by assumption⟩
    | exact hexc (by assumption) _ _ _ _ (by assumption) (by assumption) (by assumption)

def padT (t : Str) (n : Int) : Str := Txt.slice t none (some n) ++ Txt.mul (Str.ofString " ") (n - t.length)
def cutT (t : Str) (n : Int) : Str := Txt.slice (t ++ Txt.mul (Str.ofString " ") n) none (some n)

theorem str_ext {x y : Str} (h : x.cps.toList = y.cps.toList) : x = y := by
  cases x; cases y
  exact congrArg Str.mk (Array.toList_inj.mp h)
theorem slice_whole (x : Str) {n : Int} (h : (x.length : Int) ≤ n) : Txt.slice x none (some n) = x := by
  have e : (PySem.Builtin.Str.strSliceIndices none (some n) 1 x.length).length = x.length := by
    unfold PySem.Builtin.Str.strSliceIndices sliceRange
    simp only [show (1 : Int) > 0 by decide, if_true, List.length_map, List.length_range]
    split <;> (try split) <;> (try simp only [Int.ediv_one]) <;> omega
  unfold Txt.slice
  rw [e]
  simp
theorem slice_to (x : Str) {n : Int} (h0 : 0 ≤ n) : (Txt.slice x none (some n)).cps.toList = x.cps.toList.take n.toNat := by
  by_cases h : n ≤ x.length
  · have e := eq_of_beq (slice_closes_toL (x := x) h0 h)
    rw [e]; simp
  · rw [slice_whole x (by omega), List.take_of_length_le]
    show x.cps.toList.length ≤ _
    have : x.cps.toList.length = x.length := Array.length_toList
    omega
theorem blanks (n : Int) : (Txt.mul (Str.ofString " ") n).cps.toList = List.replicate n.toNat 32 := by
  rw [show Str.ofString " " = ⟨#[32]⟩ from by decide +kernel]
  exact mul_one_list 32 n
theorem toList_append (x y : Str) : (x ++ y).cps.toList = x.cps.toList ++ y.cps.toList := by
  show (x.cps ++ y.cps).toList = _
  simp
theorem pad_eq (t : Str) {n : Int} (h : 0 < n) : padT t n = cutT t n := by
  have hl : t.cps.toList.length = t.length := Array.length_toList
  apply str_ext
  unfold padT cutT
  rw [toList_append, slice_to _ (by omega), slice_to _ (by omega), toList_append, blanks, blanks, List.take_append, List.take_replicate, hl]
  congr 2
  omega
theorem cut_len (t : Str) {n : Int} (h : 0 < n) : ((cutT t n).length : Int) ≤ n := by
  have e := slice_to (t ++ Txt.mul (Str.ofString " ") n) (n := n) (by omega)
  have hl : (cutT t n).cps.toList.length = (cutT t n).length := Array.length_toList
  have : (cutT t n).cps.toList.length ≤ n.toNat := by
    show (Txt.slice _ none (some n)).cps.toList.length ≤ _
    rw [e, List.length_take]
    omega
  omega

local macro_rules | `(tactic| walk_at "exec Raise some none") => `(tactic| (k_here; (with_reducible show wpAny _ _ (exec (Stmt.Raise (some (Expr.Call (Expr.Name ("CheckFault" : Str) _) _ _ _)) none _) _) _ _ _); refine Raise_x rfl ?_))
local macro_rules | `(tactic| walk_at "call ref") => `(tactic| (k_here; (with_reducible show wpAny _ _ (call (Value.ref 44) [Value.str _ _]) _ _ _); k_dflt (refine' make44 _ ?k1 ?k2 ?k3 ?k4 ?k5 ?kK ?z1 ?kd ?_; (case z1 => exact rfl); (case k1 => k_asm); (case k2 => k_asm); (case k3 => k_asm); (case k4 => k_asm); (case k5 => k_asm); (case kK => exact rfl); (case kd => (dsimp only [ktrTop, Around.deeper]; omega)); k_whole); intro e8 t8 d8 h8 tk8 F8 N8 l8; (have hne8 := fun q hq => Nat.ne_of_lt (l8 q hq)); (try k_sweep); (refine raisable44 (by k_asm) (by k_asm) (by k_asm) ?_); (try dsimp only)))
local macro_rules | `(tactic| walk_at "leaving ref") => `(tactic| (k_here; (refine' leave_x ?k1 ?k2 ?k3 ?k4 ?_; (case k1 => assumption); (case k3 => k_asm); (case k2 => k_asm); (case k4 => assumption); k_whole); intro h8 R8 U8; (try dsimp only at R8 U8 ⊢)))
local macro_rules | `(tactic| walk_at "leaving ref") => `(tactic| (k_here; (refine' leave_on_x ?k1 ?k3 ?k4 ?_; (case k3 => assumption); (case k1 => assumption); (case k4 => assumption); k_whole); intro h8 R8 U8; (try dsimp only at R8 U8 ⊢)))
local macro_rules | `(tactic| walk_at "call ref") => `(tactic| (k_here; (with_reducible show wpAny _ _ (call (Value.ref 450) _) _ _ _); k_dflt (refine' CallsTo.use (eval_spec _ ?p0 ?p1 ?p2 ?p3) ?k1 ?k2 ?k3 ?k4 ?k5 ?kX ?kT ?kK ?kd ?ku ?_ ?_; (case k1 => k_asm); (case k2 => k_asm); (case k3 => k_asm); (case k4 => k_asm); (case k5 => k_asm); (case kX => k_asm); (case kT => k_asm); (case p1 => assumption); (case p0 => assumption); (case p2 => assumption); (case p3 => assumption); (case kK => exact rfl); (case kd => (dsimp only [ktrTop, Around.deeper]; omega)); (case ku => (dsimp only [ktrTop, Around.deeper]; omega))); (first | (rintro r8 news8 h8 tk8 F8 N8 ⟨b8, m8, i8, j8, y8, hr8, hv8, hb8, hs8⟩; subst hr8; (have hlen8 := len_of hv8 (by assumption) (by assumption)); (try k_sweep); (try k_fold)) | skip); (all_goals (try (intro hx8 e8 h8 tk8 g8 R8 U8 G8; replace U8 := up_trans U8 G8)))))
local macro_rules | `(tactic| walk_at "call ref") => `(tactic| (k_here; (with_reducible show wpAny _ _ (call (Value.ref 471) _) _ _ _); k_dflt (refine' CallsTo.use (chk_spec _ ?p1) ?k1 ?k2 ?k3 ?k4 ?k5 ?kX ?kT ?kK ?kd ?ku ?_ ?_; (case k1 => k_asm); (case k2 => k_asm); (case k3 => k_asm); (case k4 => k_asm); (case k5 => k_asm); (case kX => k_asm); (case kT => k_asm); (case p1 => exact LimAt.mono (by assumption) (fun q9 hq9 => by k_mem)); (case kK => exact rfl); (case kd => (dsimp only [ktrTop, Around.deeper]; omega)); (case ku => (dsimp only [ktrTop, Around.deeper]; omega))); (first | (rintro r8 news8 h8 tk8 F8 N8 ⟨hr8, hn8, hl8⟩; subst hr8; subst hn8; (try k_sweep); (try k_fold)) | skip); (all_goals (try (intro hx8 e8 h8 tk8 g8 R8 U8 G8; replace U8 := up_trans U8 G8)))))
local macro_rules | `(tactic| walk_at "call builtin:len") => `(tactic| (k_here; (with_reducible show wpAny _ _ (call (Value.builtin "len") [Value.str _ _]) _ _ _); (refine P.len_str (by omega) ?_)))

set_option maxHeartbeats 4000000 in
theorem named_none (w : World) {most : Nat} (h23 : most ≤ 23) {env : List Ent} {D : Dt} {kd vd lim : Addr} {tv : Value} {k5 : Tok} {news : List (Addr × Obj)} (hD : DIn env most news tv D) (hL : LimAt most lim news) (hE : EnvAt P0 w most env kd vd news) :
  CallsTo w (D.high + 44) (8 * D.high + 280) 499 [tv, .int 5 k5, .none, .ref vd, .ref lim] news (fun r news' => ∃ t j, D.val most = some t ∧ r = .str t j ∧ ∀ q ∈ news, q ∈ news') (D.val most = none) := by
  unfold CallsTo
  intro p loose mean mg mb dp un gd cn cs a ccd cl outer A₀ base h₀ L m s Q E B F X N T XB TB hk hd hu hret hexc
  refine wpAny_call ?_
  k_dflt ktr_enter
  k_steps
  all_goals first
    | exact hret _ _ _ _ (by k_asm) (by k_asm) ⟨_, _, by assumption, rfl, by assumption⟩
    | exact hexc (by assumption) _ _ _ _ (by assumption) (by assumption) (by assumption)

set_option maxHeartbeats 4000000 in
theorem named_int (w : World) {most : Nat} (h23 : most ≤ 23) {env : List Ent} {D : Dt} {kd vd lim : Addr} {tv : Value} {k5 kn : Tok} {n : Int} {news : List (Addr × Obj)} (hn0 : 0 < n) (hn1 : n ≤ 100) (hD : DIn env most news tv D) (hL : LimAt most lim news) (hE : EnvAt P0 w most env kd vd news) :
  CallsTo w (D.high + 44) (8 * D.high + 280) 499 [tv, .int 5 k5, .int n kn, .ref vd, .ref lim] news (fun r news' => ∃ t j, D.val most = some t ∧ n ≤ most ∧ r = .str (padT t n) j ∧ ∀ q ∈ news, q ∈ news') (D.val most = none ∨ most < n) := by
  unfold CallsTo
  intro p loose mean mg mb dp un gd cn cs a ccd cl outer A₀ base h₀ L m s Q E B F X N T XB TB hk hd hu hret hexc
  refine wpAny_call ?_
  k_dflt ktr_enter
  k_steps
  all_goals first
    | exact hret _ _ _ _ (by k_asm) (by k_asm) ⟨_, _, by assumption, by assumption, rfl, by assumption⟩
    | exact hexc (.inl (by assumption)) _ _ _ _ (by assumption) (by assumption) (by assumption)
    | exact hexc (.inr (by assumption)) _ _ _ _ (RaisedN.sub (by assumption) (by assumption)) (by assumption) (by assumption)

local macro_rules | `(tactic| walk_at "subscriptTail Name Constant ref int") => `(tactic| (k_here; (with_reducible show wpAny _ _ (subscriptTail _ _ (Value.ref _) (Value.int 0 _)) _ _ _); k_dflt (refine' cell0_get ?k1 ?k2 ?_ ?k7; (case k1 => k_asm); (case k2 => k_mem); (case k7 => with_unfolding_all rfl); k_whole)))
local macro_rules | `(tactic| walk_at "subscriptTail Name BinOp ref int") => `(tactic| (k_here; (with_reducible show wpAny _ _ (subscriptTail _ _ (Value.ref _) (Value.int (_ + _) _)) _ _ _); k_dflt (refine' cell_get ?k1 ?k2 ?k3 ?k4 ?k5 ?k6 ?_ ?k7; (case k1 => k_asm); (case k2 => k_mem); (case k3 => assumption); (case k4 => omega); (case k5 => omega); (case k6 => omega); (case k7 => with_unfolding_all rfl); k_whole); intro x8 t8))
local macro_rules | `(tactic| walk_at "setItem ref int") => `(tactic| (k_here; (with_reducible show wpAny _ _ (setItem (Value.ref _) (Value.int 0 _) _) _ _ _); k_dflt (refine' cell0_set ?k1 ?k2 ?k3 ?k4 ?_; (case k1 => k_asm); (case k2 => k_asm); (case k3 => assumption); (case k4 => assumption); k_whole); intro h8 F8 N8; k_sweep))
local macro_rules | `(tactic| walk_at "call builtin:len") => `(tactic| (k_here; (with_reducible show wpAny _ _ (call (Value.builtin _) [Value.ref _]) _ _ _); k_dflt (refine' cells_len ?k1 ?k2 ?k3 ?k4 ?_; (case k1 => k_asm); (case k2 => k_mem); (case k3 => assumption); (case k4 => assumption); k_whole); intro tk8 tk9))

theorem pull_spec (w : World) {c : Addr} {at_ : Int} {t t2 : Tok} {vs : List Value} {ns : List Int} {n : Nat} {news : List (Addr × Obj)} {g : Obj → List (Addr × Obj)} {many : Int}
   (U : UpdF c (listOf ((Value.int at_ t :: vs).toArray) n) news g) (hvs : IntsAre vs ns) (hlen : ns.length ≤ 63) (hat0 : 0 ≤ at_) (hat : at_ ≤ 1000) (hm : 0 < many) :
   CallsTo w 1 16 528 [.ref c, .int many t2] news
     (fun r news' => ∃ x tk t', r = .int x tk ∧ 0 ≤ x ∧ x < many ∧ news' = g (listOf ((Value.int (at_ + 1) t' :: vs).toArray) n)) False := by
  obtain ⟨pre, post, rfl, hg, ha, hb⟩ := U.split
  unfold CallsTo
  intro p loose mean mg mb dp un gd cn cs a ccd cl outer A₀ base h₀ L m s Q E B F X N T XB TB hk hd hu hret hexc
  refine wpAny_call ?_
  k_dflt ktr_enter
  k_steps
  all_goals exact hret _ _ _ _ (by k_asm) (by k_asm) ⟨_, _, _, rfl, fmod_lo _ hm, fmod_hi _ hm, (hg _).symm⟩

local macro_rules | `(tactic| walk_at "call ref") => `(tactic| (k_here; (with_reducible show wpAny _ _ (call (Value.ref 528) _) _ _ _); (refine halt ?_)))
local macro_rules | `(tactic| walk_at "call ref") => `(tactic| (k_here; (with_reducible show wpAny _ _ (call (Value.ref 528) _) _ _ _); k_dflt (refine' CallsTo.use (pull_spec _ ?pU ?pv ?pl ?p0 ?p1 ?pm) ?k1 ?k2 ?k3 ?k4 ?k5 ?kX ?kT ?kK ?kd ?ku ?_ ?pe; (case k1 => k_asm); (case k2 => k_asm); (case k3 => k_asm); (case k4 => k_asm); (case k5 => k_asm); (case kX => k_asm); (case kT => k_asm); (case kK => exact rfl); (case pU => k_updF); (case pv => assumption); (case pl => assumption); (case p0 => omega); (case p1 => omega); (case pm => omega); (case kd => (dsimp only [ktrTop, Around.deeper]; omega)); (case ku => (dsimp only [ktrTop, Around.deeper]; omega)); (case pe => exact fun h => h.elim); k_whole); rintro r8 news8 h8 tk8 F8 N8 ⟨x8, tx8, t8, hr8, hx0, hx1, hn8⟩; subst hr8; subst hn8; (try dsimp only at N8); (try k_sweep); (try k_fold)))
local macro_rules | `(tactic| walk_at "subscriptTail Constant") => `(tactic| (k_here; (with_reducible show wpAny _ _ (subscriptTail _ (Expr.Slice none (some _) none _) (Value.str _ _) (Value.ref _)) _ _ _); k_dflt (refine' text4 (s := ⟨_, _, _, _, _⟩) ?F ?N ?hx ?_ ?hs ?ht; (case F => k_asm); (case N => k_asm); (case hx => decide); (case hs => with_unfolding_all rfl); (case ht => (intro _; with_unfolding_all rfl))); intro y7 h7 t7 c7 F7 N7 hy7; (try dsimp only); (try k_sweep)))
local macro_rules | `(tactic| walk_at "call builtin:len") => `(tactic| (k_here; (with_reducible show wpAny _ _ (call (Value.builtin "len") [Value.str _ _]) _ _ _); (refine P.len_str (by omega) ?_)))
local macro_rules | `(tactic| walk_at "call builtin:len") => `(tactic| (k_here; (with_reducible show wpAny _ _ (call (Value.builtin "len") [Value.ref _]) _ _ _); k_dflt (refine' kda_len (knd := PySem.strKind _ _) ?N ?p ?d ?l ?z ?_; (case N => k_asm); (case p => k_mem); (case d => assumption); (case l => assumption); (case z => (simp only [List.length_map]; omega)); k_whole); (try simp only [List.length_map])))
local macro_rules | `(tactic| walk_at "compareOp NotEq ref ref") => `(tactic| (k_here; (with_reducible show wpAny _ _ (compareOp CmpOp.NotEq (Value.ref _) (Value.ref _)) _ _ _); k_dflt (refine' ne_empty ?N ?p ?d ?l ?pe ?de ?le ?u ?_ ?_; (case N => k_asm); (case p => k_mem); (case d => assumption); (case l => assumption); (case pe => k_mem); (case de => assumption); (case le => assumption); (case u => (dsimp only [ktrTop, Around.deeper]; omega))); all_goals (intro hne7; (simp only [List.length_map] at hne7))))
local macro_rules | `(tactic| walk_at "call builtin:sorted") => `(tactic| (k_here; (with_reducible show wpAny _ _ (call (Value.builtin "sorted") [Value.ref _]) _ _ _); k_dflt (refine' sorted_dict ?hh ?F ?N ?p ?d ?l ?z ?_; (case hh => rfl); (case F => k_asm); (case N => k_asm); (case p => k_mem); (case d => assumption); (case l => assumption); (case z => (simp only [List.length_map]; omega)); k_whole); intro B7 h7 tk7 vs7 n7 F7 N7 l7 hv7 hs7; (try k_lt l7); (try k_sweep); (try simp only [List.length_map] at hv7)))

local macro_rules | `(tactic| walk_at "subscriptTail Name BinOp") => `(tactic| (k_here; (with_reducible show wpAny _ _ (subscriptTail _ _ (Value.ref _) (Value.int (Int.fmod _ _) _)) _ _ _); k_dflt (refine' item_strs ?z1 ?z2 ?z3 ?z4 ?z5 ?z6 ?_ ?z7; (case z1 => k_asm); (case z2 => k_mem); (case z3 => assumption); (case z4 => exact fmod_lo _ (by omega)); (case z5 => exact Int.lt_of_lt_of_le (fmod_hi _ (by omega)) (by omega)); (case z6 => omega); (case z7 => with_unfolding_all rfl); k_whole); intro x6 t6 hx6; (try dsimp only)))
local macro_rules | `(tactic| walk_at "subscriptTail Name Name ref str") => `(tactic| (k_here; k_dflt (refine' known_get ?z1 ?z2 ?z3 ?z4 ?_ ?z7; (case z1 => k_asm); (case z2 => k_mem); (case z3 => assumption); (case z4 => assumption); (case z7 => with_unfolding_all rfl); k_whole); intro q6 hq6 hqx6; subst hqx6; (try dsimp only)))

abbrev TreeRet (most high : Nat) (env : List Ent) (at_ : Int) (c : Addr) (vs : List Value) (n : Nat) (rest : List (Addr × Obj)) (r : Value) (news' : List (Addr × Obj)) : Prop :=
  ∃ a m tv wv D at' t' rest', r = .ref a ∧ news' = (c, listOf ((Value.int at' t' :: vs).toArray) n) :: rest' ∧ (∀ q ∈ rest, q ∈ rest') ∧ (∀ q ∈ rest', q.1 ≠ c) ∧ at_ ≤ at' ∧ at' ≤ at_ + cost high ∧
    (a, tupOf [tv, wv] m) ∈ rest' ∧ DIn env most rest' tv D ∧ D.high ≤ high ∧ Told2 wv (D.val most)
def TreeSpec (w : World) (most high : Nat) : Prop := ∀ (c : Addr) (at_ hi : Int) (t t2 t3 : Tok) (vs : List Value) (ns : List Int) (n : Nat) (rest : List (Addr × Obj)) (env : List Ent) (kd vd : Addr),
   (∀ q ∈ rest, q.1 ≠ c) → IntsAre vs ns → ns.length ≤ 63 → 0 ≤ at_ → at_ + cost high ≤ 1000 → EnvAt P0 w most env kd vd rest → hi = high →
   CallsTo w (high + 2) (8 * high + 24) 535 [.ref c, .ref kd, .int most t2, .int hi t3] ((c, listOf ((Value.int at_ t :: vs).toArray) n) :: rest) (TreeRet most high env at_ c vs n rest) False
theorem TreeSpec.call {w : World} {most high : Nat} (H : TreeSpec w most high) {c : Addr} {at_ hi : Int} {t t2 t3 : Tok} {vs : List Value} {ns : List Int} {n : Nat} {rest : List (Addr × Obj)} {env : List Ent} {kd vd : Addr}
   (hc : ∀ q ∈ rest, q.1 ≠ c) (hv : IntsAre vs ns) (hl : ns.length ≤ 63) (h0 : 0 ≤ at_) (h1 : at_ + cost high ≤ 1000) (hE : EnvAt P0 w most env kd vd rest) (hi' : hi = high) :
   CallsTo w (high + 2) (8 * high + 24) 535 [.ref c, .ref kd, .int most t2, .int hi t3] ((c, listOf ((Value.int at_ t :: vs).toArray) n) :: rest) (TreeRet most high env at_ c vs n rest) False :=
  H _ _ _ _ _ _ _ _ _ _ _ _ _ hc hv hl h0 h1 hE hi'

theorem DIn.only {env : List Ent} {most : Nat} {news news' : List (Addr × Obj)} {v : Value} {d : Dt} (h : DIn env most news v d) (hs : ∀ a its n, (a, tupOf its n) ∈ news → (a, tupOf its n) ∈ news') : DIn env most news' v d := by
  induction h with
  | chr h1 h2 => exact .chr (hs _ _ _ h1) h2
  | nm h1 h2 h3 => exact .nm (hs _ _ _ h1) h2 h3
  | join h1 _ _ i1 i2 => exact .join (hs _ _ _ h1) i1 i2
theorem tree_end {most high : Nat} {env : List Ent} {at_ at' : Int} {c a : Addr} {t' : Tok} {vs : List Value} {n m : Nat} {rest news : List (Addr × Obj)} {h₀ h : Heap} {L : Addr} {tv wv : Value} {D : Dt}
    (N : News h₀ L h news) (hc : (c, listOf ((Value.int at' t' :: vs).toArray) n) ∈ news) (hr : ∀ q ∈ rest, q ∈ news) (hcr : ∀ q ∈ rest, q.1 ≠ c) (h1 : at_ ≤ at') (h2 : at' ≤ at_ + cost high) (hD : (a, tupOf [tv, wv] m) ∈ news)
    (hT : DIn env most news tv D) (hh : D.high ≤ high) (hw : Told2 wv (D.val most)) : ∃ news', News h₀ L h news' ∧ TreeRet most high env at_ c vs n rest (.ref a) news' := by
  have key : ∀ b its k, (b, tupOf its k) ∈ news → (b, tupOf its k) ∈ news.filter (fun q => decide (q.1 ≠ c)) := fun b its k hb => by
    refine List.mem_filter.mpr ⟨hb, decide_eq_true fun e => ?_⟩
    have e1 := (N _ hb).1
    have e2 := (N _ hc).1
    rw [show ((b, tupOf its k) : Addr × Obj).1 = c from e, e2] at e1
    have e3 := congrArg Obj.cls (Option.some.inj e1)
    simp at e3
  refine ⟨(c, listOf ((Value.int at' t' :: vs).toArray) n) :: news.filter (fun q => decide (q.1 ≠ c)), fun q hq => ?_, a, m, tv, wv, D, at', t', _, rfl, rfl, fun q hq => List.mem_filter.mpr ⟨hr q hq, decide_eq_true (hcr q hq)⟩, fun q hq => of_decide_eq_true (List.mem_filter.mp hq).2, h1, h2, key _ _ _ hD, hT.only key, hh, hw⟩
  rcases List.mem_cons.mp hq with rfl | hq
  · exact N _ hc
  · exact N _ (List.mem_filter.mp hq).1

theorem DIn.nm2 {env : List Ent} {most : Nat} {news : List (Addr × Obj)} {a : Addr} {n : Nat} {k1 k2 : Tok} {q : Ent} (hq : q ∈ env) (hm : (a, tupOf [.str "name" k1, .str q.x k2] n) ∈ news) (hl : q.t.length ≤ most) : DIn env most news (.ref a) (.nm q.x q.t) := .nm hm hq hl
theorem sub_trans {a b c : List (Addr × Obj)} (h1 : ∀ q ∈ a, q ∈ b) (h2 : ∀ q ∈ b, q ∈ c) : ∀ q ∈ a, q ∈ c := fun q hq => h2 q (h1 q hq)
theorem sub_cons {a b : List (Addr × Obj)} {x : Addr × Obj} (h : ∀ q ∈ a, q ∈ b) : ∀ q ∈ a, q ∈ x :: b := fun q hq => .tail _ (h q hq)
theorem told_join {most : Nat} {a b : Dt} {x y : Option Str} {v : Value} (h1 : a.val most = x) (h2 : b.val most = y) (h : Told2 v (joined most x y)) : Told2 v ((Dt.join a b).val most) := by
  show Told2 v (joined _ _ _)
  rw [h1, h2]; exact h
theorem tree_ih {w : World} {most high : Nat} (ih : ∀ k, k < high → TreeSpec w most k) (h : 0 < high) : TreeSpec w most (high - 1) := ih _ (by omega)
theorem Told2.split {v : Value} {o : Option Str} (h : Told2 v o) : (o = none ∧ v = .none) ∨ ∃ t tk, o = some t ∧ v = .str t tk := by
  cases o with
  | none => exact .inl ⟨rfl, h⟩
  | some t => obtain ⟨tk, e⟩ := h; exact .inr ⟨t, tk, rfl, e⟩
local macro_rules | `(tactic| walk_at "call ref") => `(tactic| (k_here; (with_reducible show wpAny _ _ (call (Value.ref 535) _) _ _ _); k_dflt (refine' CallsTo.use (TreeSpec.call (tree_ih ?z0 ?z8) ?z1 ?z2 ?z3 ?z4 ?z5 ?z6 ?z7) ?k1 ?k2 ?k3 ?k4 ?k5 ?kX ?kT ?kK ?kd ?ku ?_ ?pe; (case k1 => k_asm); (case k2 => k_asm); (case k3 => k_asm); (case k4 => k_asm); (case k5 => k_asm); (case kX => k_asm); (case kT => k_asm); (case kK => exact rfl); (case z0 => assumption); (case z8 => omega); (case z1 => assumption); (case z2 => assumption); (case z3 => assumption); (case z4 => omega); (case z5 => omega); (case z6 => first | assumption | exact EnvAt.mono (by assumption) (by assumption)); (case z7 => omega); (case kd => (dsimp only [ktrTop, Around.deeper]; omega)); (case ku => (dsimp only [ktrTop, Around.deeper]; omega)); (case pe => exact fun h => h.elim); k_whole); rintro r8 news8 h8 tk8 F8 N8 ⟨a8, m8, tv8, wv8, D8, at8, t8, rest8, hr8, hn8, hsub8, hc8, hle8, hge8, hp8, hD8, hh8, hw8⟩; subst hr8; subst hn8; (rcases Told2.split hw8 with ⟨hv8, hx8⟩ | ⟨y8, ty8, hv8, hx8⟩ <;> subst hx8); (all_goals ((try (have hy8 := DIn.len hD8 hv8)); (try dsimp only at N8); (try k_sweep); (try k_fold)))))

set_option maxHeartbeats 4000000 in
theorem tree_step (w : World) (most : Nat) (h4 : 4 ≤ most) (h23 : most ≤ 23) (high : Nat) (hh : high ≤ 3) (ih : ∀ k, k < high → TreeSpec w most k) : TreeSpec w most high := by
  intro c at_ hi t t2 t3 vs ns n rest env kd vd hc hvs hlen hat0 hat hE hhi
  unfold CallsTo
  intro p loose mean mg mb dp un gd cn cs a ccd cl outer A₀ base h₀ L m s Q E B F X N T XB TB hk hd hu hret hexc
  obtain ⟨ok, hk1, hk2⟩ := hE.known
  have hklo := hE.klo
  have hfew := hE.few
  have hshort := hE.short
  have hcost : 2 ≤ cost high := by cases high <;> simp [cost]
  have hcs : 0 < high → cost high = 2 + 2 * cost (high - 1) := fun h => by
    obtain ⟨k, rfl⟩ := Nat.exists_eq_succ_of_ne_zero (Nat.ne_of_gt h)
    simp [cost]; omega
  refine wpAny_call ?_
  k_dflt ktr_enter
  k_steps
  all_goals (try (exfalso; omega))
  all_goals (try (refine' Exists.elim (tree_end (D := Dt.chr _) ?n1 ?n2 ?n3 hc ?n5 ?n6 ?n7 ?n8 ?n9 ?n10) (fun news9 R9 => hret _ _ _ _ ?n11 R9.1 R9.2); (case n11 => k_asm); (case n1 => k_asm); (case n2 => k_mem); (case n3 => (intro q9 hq9; k_mem)); (case n5 => omega); (case n6 => omega); (case n7 => k_mem); (case n8 => exact DIn.chr (by k_mem) (by omega)); (case n9 => exact Nat.zero_le _); (case n10 => exact ⟨_, rfl⟩)))
  all_goals (try (refine' Exists.elim (tree_end (D := Dt.join _ _) ?n1 ?n2 ?n3 hc ?n5 ?n6 ?n7 ?n8 ?n9 ?n10) (fun news9 R9 => hret _ _ _ _ ?n11 R9.1 R9.2); (case n11 => k_asm); (case n1 => k_asm); (case n2 => k_mem); (case n3 => exact sub_cons (sub_cons (sub_cons (sub_trans (by assumption) (by assumption))))); (case n5 => omega); (case n6 => omega); (case n7 => k_mem); (case n8 => exact DIn.join (by k_mem) (DIn.mono (DIn.mono (by assumption) (by assumption)) (fun q9 hq9 => by k_mem)) (DIn.mono (by assumption) (fun q9 hq9 => by k_mem))); (case n9 => (show max _ _ + 1 ≤ _; omega)); (case n10 => exact told_join (by assumption) (by assumption) (by first | exact rfl | (show Told2 _ (ite _ _ _); rw [if_pos (by omega)]; exact rfl) | (show Told2 _ (ite _ _ _); rw [if_neg (by omega)]; exact ⟨_, rfl⟩)))))
  all_goals ((rename Ent => q9); refine' Exists.elim (tree_end (D := Dt.nm q9.x q9.t) ?n1 ?n2 ?n3 hc ?n5 ?n6 ?n7 ?n8 ?n9 ?n10) (fun news9 R9 => hret _ _ _ _ ?n11 R9.1 R9.2); (case n11 => k_asm); (case n1 => k_asm); (case n2 => k_mem); (case n3 => (intro q9 hq9; k_mem)); (case n5 => omega); (case n6 => omega); (case n7 => k_mem); (case n8 => exact DIn.nm2 (q := q9) (by assumption) (by k_mem) (hshort _ (by assumption))); (case n9 => exact Nat.zero_le _); (case n10 => exact ⟨_, rfl⟩))

theorem tree_spec (w : World) (most : Nat) (h4 : 4 ≤ most) (h23 : most ≤ 23) (high : Nat) (hh : high ≤ 3) : TreeSpec w most high := by
  induction high using Nat.strongRecOn with
  | ind high ih => exact tree_step w most h4 h23 high hh fun k hk => ih k hk (by omega)

section
variable {prog : Program} {w : World} {A : Around} {E : Value → Shared → Prop} {s : Shared} {env : Env} {h₀ : Heap} {x : Str} {body : List Stmt} {Q : Flow → Shared → Prop}
/-- what a turn leaves: the frame but for the names that a turn stores, a ledger that the next turn's word holds of -/
def TurnEnd (x : Str) (stored : List Str) (m₀ : Str → Option Value) (J : List Str → List (Addr × Obj) → Prop) (pre : List Str) (m : Str → Option Value) (news : List (Addr × Obj)) : Prop :=
  (∀ z, z ≠ x → stored.contains z = false → m z = m₀ z) ∧ J pre news
theorem rest_inv (stored : List Str) {m₀ : Str → Option Value} (J : List Str → List (Addr × Obj) → Prop) (l : List Str) {I : Addr}
    (turn : ∀ pre c post (u : Tok) (um : Str → Option Value) it news h tk, l = pre ++ c :: post → (∀ p ∈ news, p.1 ≠ I) → J pre news →
      Fr h₀ env.locals h (fun y => if y = x then some (.str c u) else if stored.contains y then um y else m₀ y) → News h₀ env.locals h ((I, it) :: news) →
      wpAny (model prog w) A (execs body env) (UnrPost h₀ env.locals { s with heap := h, toks := tk } I it (TurnEnd x stored m₀ J (pre ++ [c])) Q) E { s with heap := h, toks := tk })
    (done : ∀ news m h tk, J l news → Fr h₀ env.locals h m → News h₀ env.locals h news → Q .next { s with heap := h, toks := tk }) :
    ∀ (post pre : List Str) (m : Str → Option Value) (news : List (Addr × Obj)), l = pre ++ post → (∀ p ∈ news, p.1 ≠ I) → TurnEnd x stored m₀ J pre m news → StrRest prog w A E h₀ env x body Q s I post m news := by
  intro post
  induction post with
  | nil =>
    intro pre m news e _ hT
    rw [List.append_nil] at e
    subst e
    exact StrRest.zero fun h tk F N => done _ _ _ _ hT.2 F N
  | cons c post ih =>
    intro pre m news e hoff hT
    refine StrRest.succ fun u it h tk F N => ?_
    have em : (fun y => if y = x then some (Value.str c u) else if stored.contains y then m y else m₀ y) = fun y => if y = x then some (Value.str c u) else m y := by
      funext y
      by_cases hy : y = x
      · rw [if_pos hy, if_pos hy]
      · rw [if_neg hy, if_neg hy]
        cases h3 : stored.contains y with
        | true => simp
        | false => simp only [Bool.false_eq_true, if_false]; exact (hT.1 y hy h3).symm
    refine wpAny_mono (turn pre c post u m it news h tk e hoff hT.2 (by rw [em]; exact F) N) (fun f s₂ p => ?_) fun _ _ z => z
    have fin : UnrEnd h₀ env.locals { s with heap := h, toks := tk } I it (TurnEnd x stored m₀ J (pre ++ [c])) s₂ →
        UnrEnd h₀ env.locals { s with heap := h, toks := tk } I it (StrRest prog w A E h₀ env x body Q s I post) s₂ := by
      rintro ⟨h', tk', m', news', e', F', N', ho, r⟩
      exact ⟨h', tk', m', news', e', F', N', ho, ih (pre ++ [c]) m' news' (by rw [e]; simp) ho r⟩
    cases f with
    | ret v => exact p
    | brk => exact p
    | next => exact fin p
    | cont => exact fin p
theorem text_inv {tx : Str} {t : Tok} (stored : List Str) {m₀ : Str → Option Value} {news₀ : List (Addr × Obj)} (J : List Str → List (Addr × Obj) → Prop) (l : List Str) (hx : tx.cps.toList.map (fun c => (⟨#[c]⟩ : Str)) = l)
    (hh : A.handled = none) (F : Fr h₀ env.locals s.heap m₀) (N : News h₀ env.locals s.heap news₀) (h0 : J [] news₀)
    (turn : ∀ I pre c post (u : Tok) (um : Str → Option Value) it news h tk, l = pre ++ c :: post → (∀ p ∈ news, p.1 ≠ I) → J pre news →
      Fr h₀ env.locals h (fun y => if y = x then some (.str c u) else if stored.contains y then um y else m₀ y) → News h₀ env.locals h ((I, it) :: news) →
      wpAny (model prog w) A (execs body env) (UnrPost h₀ env.locals { s with heap := h, toks := tk } I it (TurnEnd x stored m₀ J (pre ++ [c])) Q) E { s with heap := h, toks := tk })
    (done : ∀ news m h tk, J l news → Fr h₀ env.locals h m → News h₀ env.locals h news → Q .next { s with heap := h, toks := tk }) :
    wpAny (model prog w) A (pyIter (.str tx t)) (fun it s₂ => LoopAtV prog w A h₀ env x body Q E it s₂) E s :=
  iter_strUnr hh F N hx fun I hI => rest_inv stored J l (turn I) done l [] m₀ news₀ rfl (fun p hp => Nat.ne_of_lt (hI p hp)) ⟨fun _ _ _ => rfl, h0⟩
end

/-- the loop's word: the cells and what the ledger keeps, the names told so far -/
def LawJ (w : World) (most : Nat) (c kd vd lim dx : Addr) (es : List DictEntry) (nl : Nat) (vs : List Value) (n : Nat) (pre : List Str) (news : List (Addr × Obj)) : Prop :=
  ∃ at_ t rest env, news = (c, listOf ((Value.int at_ t :: vs).toArray) n) :: rest ∧ (∀ q ∈ rest, q.1 ≠ c) ∧ 0 ≤ at_ ∧ at_ ≤ 1 + 31 * (pre.length : Int) ∧ EnvAt P0 w most env kd vd rest ∧
    (lim, instObj 517 dx) ∈ rest ∧ (dx, dictOf es nl) ∈ rest ∧ env.length ≤ pre.length ∧ ∀ q ∈ env, q.x ∈ pre

section
variable {w : World} {most : Nat} {h₀ h : Heap} {L c kd vd lim dx : Addr} {es : List DictEntry} {nl n : Nat} {vs : List Value} {news : List (Addr × Obj)}
theorem news_inj {a : Addr} {o o' : Obj} (N : News h₀ L h news) (h1 : (a, o) ∈ news) (h2 : (a, o') ∈ news) : o = o' := Option.some.inj ((N _ h1).1.symm.trans (N _ h2).1)
theorem dict_data {prog : Program} {K : Type} [DecidableEq K] {knd : KeyKind prog w K} {o : Obj} {kvs : List (K × Value)} (hd : o.IsDictOf knd kvs) : ∃ es ep, o.data = .dict es ep := let ⟨es, ep, _, e, _⟩ := hd; ⟨es, ep, e⟩
theorem off_of {a b : Addr} {o o' : Obj} (N : News h₀ L h news) (h1 : (a, o) ∈ news) (h2 : (b, o') ∈ news) (hd : o.data ≠ o'.data) : a ≠ b := fun e => by
  subst e
  exact hd (by rw [news_inj N h1 h2])
theorem kept {b : Addr} {q : Addr × Obj} (h1 : q ∈ news) (h2 : q.1 ≠ b) : q ∈ news.filter (fun q => decide (q.1 ≠ b)) := List.mem_filter.mpr ⟨h1, decide_eq_true h2⟩
theorem law_start {t tm tl : Tok} {at_ : Int} {ok ov : Obj} {m : Str → Option Value} (F : Fr h₀ L h m) (N : News h₀ L h news) (_f1 : m (Str.ofString "cells") = some (.ref c)) (_f2 : m (Str.ofString "known") = some (.ref kd)) (_f3 : m (Str.ofString "values") = some (.ref vd))
    (_f4 : m (Str.ofString "limits") = some (.ref lim)) (_f5 : m (Str.ofString "most") = some (.int most tm)) (h1 : (c, listOf ((Value.int at_ t :: vs).toArray) n) ∈ news) (h2 : (kd, ok) ∈ news) (h3 : (vd, ov) ∈ news)
    (h4 : (lim, instObj 517 dx) ∈ news) (h5 : (dx, dictOf es nl) ∈ news) (d1 : ok.IsDictOf (PySem.strKind P0 w) []) (d2 : ov.IsDictOf (PySem.strKind P0 w) []) (klo : (kd == sysModules) = false) (vlo : (vd == sysModules) = false)
    (ha : 0 ≤ at_) (hb : at_ ≤ 1) (hg : getL (Str.ofString "steps") es = some (some (.int most tl))) (n1 : kd ≠ vd) (n2 : dx ≠ kd) (n3 : dx ≠ vd) : ∃ news', News h₀ L h news' ∧ LawJ w most c kd vd lim dx es nl vs n [] news' ∧ (getL (Str.ofString "steps") es = some (some (.int most tl)) ∧ kd ≠ vd ∧ dx ≠ kd ∧ dx ≠ vd) := by
  obtain ⟨es1, ep1, e1⟩ := dict_data d1
  obtain ⟨es2, ep2, e2⟩ := dict_data d2
  refine ⟨(c, _) :: news.filter (fun q => decide (q.1 ≠ c)), fun q hq => ?_, ⟨at_, t, _, [], rfl, fun q hq => of_decide_eq_true (List.mem_filter.mp hq).2, ha, by simpa using hb, ⟨⟨ok, ?_, d1⟩, ⟨ov, ?_, d2⟩, klo, vlo, Nat.zero_le _, nofun, nofun⟩, ?_, ?_, Nat.le_refl _, nofun⟩, hg, n1, n2, n3⟩
  · rcases List.mem_cons.mp hq with rfl | hq
    · exact N _ h1
    · exact N _ (List.mem_filter.mp hq).1
  · exact kept h2 (off_of N h2 h1 (by rw [e1]; nofun))
  · exact kept h3 (off_of N h3 h1 (by rw [e2]; nofun))
  · exact kept h4 (off_of N h4 h1 nofun)
  · exact kept h5 (off_of N h5 h1 nofun)

/-- the end of a turn that tells no name -/
theorem law_same {I : Addr} {it : Obj} {at_ : Int} {t : Tok} {pre : List Str} {x : Str} {env : List Ent} (N : News h₀ L h news) (hI : (I, it) ∈ news)
    (h1 : (c, listOf ((Value.int at_ t :: vs).toArray) n) ∈ news) (h4 : (lim, instObj 517 dx) ∈ news) (h5 : (dx, dictOf es nl) ∈ news) (hE : EnvAt P0 w most env kd vd news)
    (ic : c ≠ I) (ik : kd ≠ I) (iv : vd ≠ I) (il : lim ≠ I) (idx : dx ≠ I) (ie : ∀ q ∈ env, q.a ≠ I) (ha : 0 ≤ at_) (hb : at_ ≤ 1 + 31 * ((pre ++ [x]).length : Int)) (he : env.length ≤ (pre ++ [x]).length) (hx : ∀ q ∈ env, q.x ∈ pre ++ [x]) :
    ∃ news', News h₀ L h ((I, it) :: news') ∧ (∀ p ∈ news', p.1 ≠ I) ∧ LawJ w most c kd vd lim dx es nl vs n (pre ++ [x]) news' := by
  obtain ⟨ok, h2, d1⟩ := hE.known
  obtain ⟨ov, h3, d2⟩ := hE.values
  obtain ⟨es1, ep1, e1⟩ := dict_data d1
  obtain ⟨es2, ep2, e2⟩ := dict_data d2
  have two : ∀ q : Addr × Obj, q ∈ news → q.1 ≠ c → q.1 ≠ I → q ∈ (news.filter (fun q => decide (q.1 ≠ I))).filter (fun q => decide (q.1 ≠ c)) := fun q a b d => kept (kept a d) b
  refine ⟨(c, _) :: (news.filter (fun q => decide (q.1 ≠ I))).filter (fun q => decide (q.1 ≠ c)), fun q hq => ?_, fun q hq => ?_, at_, t, _, env, rfl, fun q hq => of_decide_eq_true (List.mem_filter.mp hq).2, ha, hb,
    ⟨⟨ok, ?_, d1⟩, ⟨ov, ?_, d2⟩, hE.klo, hE.vlo, hE.few, hE.short, fun q hq => ?_⟩, ?_, ?_, he, hx⟩
  · rcases List.mem_cons.mp hq with rfl | hq
    · exact N _ hI
    · rcases List.mem_cons.mp hq with rfl | hq
      · exact N _ h1
      · exact N _ (List.mem_filter.mp (List.mem_filter.mp hq).1).1
  · rcases List.mem_cons.mp hq with rfl | hq
    · exact ic
    · exact of_decide_eq_true (List.mem_filter.mp (List.mem_filter.mp hq).1).2
  · exact two _ h2 (off_of N h2 h1 (by rw [e1]; nofun)) ik
  · exact two _ h3 (off_of N h3 h1 (by rw [e2]; nofun)) iv
  · obtain ⟨k1, k2, m, hm⟩ := hE.tups q hq
    exact ⟨k1, k2, m, two _ hm (fun e => by
      have := congrArg Obj.cls (news_inj N h1 (by rw [← e]; exact hm))
      simp at this) (ie q hq)⟩
  · exact two _ h4 (off_of N h4 h1 nofun) il
  · exact two _ h5 (off_of N h5 h1 nofun) idx

/-- a ledger after one dict of it is set: the others stay -/
def SetSub (d : Addr) (news news' : List (Addr × Obj)) : Prop := ∀ q ∈ news, (q.1 ≠ d ∨ ∀ es ep, q.2.data ≠ .dict es ep) → q ∈ news'
theorem set_new {prog : Program} {A : Around} {E : Value → Shared → Prop} {s : Shared} {m : Str → Option Value} {d : Addr} {o : Obj} {kvs : List (Str × Value)} {x : Str} {u : Tok} {v : Value} {Q : Unit → Shared → Prop}
    (F : Fr h₀ L s.heap m) (N : News h₀ L s.heap news) (hm : (d, o) ∈ news) (hd : o.IsDictOf (PySem.strKind prog w) kvs) (hx : x ∉ kvs.map (·.1)) (hsz : kvs.length ≤ 60)
    (h : ∀ h' o' news' tk, Fr h₀ L h' m → News h₀ L h' news' → o'.IsDictOf (PySem.strKind prog w) (kvs ++ [(x, v)]) → (d, o') ∈ news' → SetSub d news news' → Q () { s with heap := h', toks := tk }) :
    wpAny (model prog w) A (setItem (.ref d) (.str x u) v) Q E s := by
  have N' : News h₀ L s.heap ((d, o) :: news.filter (fun q => decide (q.1 ≠ d))) := fun q hq => by
    rcases List.mem_cons.mp hq with rfl | hq
    · exact N _ hm
    · exact N _ (List.mem_filter.mp hq).1
  have hv : valueAt kvs x = none := valueAt_none_of_not_mem hx
  refine kda_set F N' (.head fun q hq => of_decide_eq_true (List.mem_filter.mp hq).2) hd (strKind_is _ _ _ _) (by rw [sizeLine_eq]; omega) fun h' o' F' N'' hd' => ?_
  rw [stored_absent hv] at hd'
  obtain ⟨es1, ep1, e1⟩ := dict_data hd
  refine h h' o' _ _ F' N'' hd' (.head _) fun q hq hne => .tail _ (kept hq ?_)
  rcases hne with hne | hne
  · exact hne
  · intro e
    obtain ⟨a, b⟩ := q
    obtain rfl : a = d := e
    exact hne _ _ (by rw [news_inj N hq hm]; exact e1)
theorem env_next {nwA nwB nwC : List (Addr × Obj)} {env : List Ent} {x t : Str} {tk k1 k2 : Tok} {a : Addr} {m : Nat} {ok ov : Obj} (hE : EnvAt P0 w most env kd vd nwA) (hm5 : (a, tupOf [.int 5 k1, .str t k2] m) ∈ nwA) (hB : SetSub kd nwA nwB) (hC : SetSub vd nwB nwC)
    (hk : (kd, ok) ∈ nwB) (dk : ok.IsDictOf (PySem.strKind P0 w) (env.map (fun q => (q.x, Value.str q.t q.tk)) ++ [(x, .str t tk)])) (hv : (vd, ov) ∈ nwC) (dv : ov.IsDictOf (PySem.strKind P0 w) (env.map (fun q => (q.x, Value.ref q.a)) ++ [(x, .ref a)]))
    (hne : kd ≠ vd) (hlen : env.length + 1 ≤ 7) (ht : t.length ≤ most) : EnvAt P0 w most (env ++ [⟨x, t, tk, a⟩]) kd vd nwC := by
  have tup : ∀ b its k, (b, tupOf its k) ∈ nwA → (b, tupOf its k) ∈ nwC := fun b its k hb => hC _ (hB _ hb (.inr nofun)) (.inr nofun)
  refine ⟨⟨ok, hC _ hk (.inl hne), by simpa using dk⟩, ⟨ov, hv, by simpa using dv⟩, hE.klo, hE.vlo, by simpa using hlen, fun q hq => ?_, fun q hq => ?_⟩
  · rcases List.mem_append.mp hq with hq | hq
    · exact hE.short q hq
    · rw [List.mem_singleton.mp hq]; exact ht
  · rcases List.mem_append.mp hq with hq | hq
    · obtain ⟨k1, k2, n, h⟩ := hE.tups q hq
      exact ⟨k1, k2, n, tup _ _ _ h⟩
    · rw [List.mem_singleton.mp hq]; exact ⟨_, _, _, tup _ _ _ hm5⟩
theorem env_new {β : Type} {f : Ent → β} {env : List Ent} {pre post l : List Str} {x : Str} (hl : l.Nodup) (e : l = pre ++ x :: post) (h : ∀ q ∈ env, q.x ∈ pre) : x ∉ (env.map fun q => (q.x, f q)).map (·.1) := by
  intro hm
  rw [List.map_map] at hm
  obtain ⟨q, hq, hx⟩ := List.mem_map.mp hm
  rw [e, List.nodup_append] at hl
  exact hl.2.2 _ (h q hq) _ (.head _) hx
theorem pad_cut {t : Str} {k : Int} {r : Value} {j : Tok} (h : 0 < k) (e : r = .str (padT t k) j) : r = .str (Txt.slice (t ++ Txt.mul (Str.ofString " ") k) none (some k)) j := by rw [e, pad_eq t h]; rfl
theorem turn_end {I : Addr} {it : Obj} {x y : Str} {stored pre : List Str} {m₀ m' : Str → Option Value} {s₁ : Shared} {h' : Heap} {tk : Nat} (F : Fr h₀ L h' m') (hm : ∀ z, z ≠ y → stored.contains z = false → m' z = m₀ z)
    (R : ∃ news', News h₀ L h' ((I, it) :: news') ∧ (∀ p ∈ news', p.1 ≠ I) ∧ LawJ w most c kd vd lim dx es nl vs n (pre ++ [x]) news') :
    UnrEnd h₀ L s₁ I it (TurnEnd y stored m₀ (LawJ w most c kd vd lim dx es nl vs n) (pre ++ [x])) { s₁ with heap := h', toks := tk } :=
  let ⟨news', N, off, J⟩ := R
  ⟨h', tk, m', news', rfl, F, N, off, hm, J⟩
end
theorem ne_same {prog : Program} {w : World} {A : Around} {E : Value → Shared → Prop} {s : Shared} {x : Str} {t u : Tok} {Q : Value → Shared → Prop} (h : Q (.bool false) s) : wpAny (model prog w) A (compareOp .NotEq (.str x t) (.str x u)) Q E s :=
  PySem.P.ne_str (by simpa using h)

/-- two made tuples of the same kind and text -/
theorem ne_tups {prog : Program} {w : World} {A : Around} {E : Value → Shared → Prop} {s : Shared} {h₀ : Heap} {L a b : Addr} {news : List (Addr × Obj)} {n1 n2 : Nat} {i1 i2 j1 j2 : Tok} {t : Str} {Q : Value → Shared → Prop} (N : News h₀ L s.heap news)
    (h1 : (a, tupOf [.int 5 i1, .str t j1] n1) ∈ news) (h2 : (b, tupOf [.int 5 i2, .str t j2] n2) ∈ news) (hu : A.units + 64 < cLine) (h : Q (.bool false) s) :
    wpAny (model prog w) A (compareOp .NotEq (.ref a) (.ref b)) Q E s := by
  have l1 : s.heap.IsTuple a #[.int 5 i1, .str t j1] := ⟨_, (N _ h1).1, rfl, _, rfl⟩
  have l2 : s.heap.IsTuple b #[.int 5 i2, .str t j2] := ⟨_, (N _ h2).1, rfl, _, rfl⟩
  refine SeqAt.RcNeAt.tuples (e := fun _ => true) l1 l2 (by omega) (fun j p q => ?_) prog w E Q h
  match j, p, q with
  | 0, _, _ =>
    have z := SeqAt.EqAt.int_int (A := A.in1) (s := s) 5 i1 5 i2
    simpa using z
  | 1, _, _ =>
    have z := SeqAt.EqAt.str_str (A := A.in1) (s := s) t j1 t j2
    simpa using z
theorem nm_told {most : Nat} {x t : Str} {P : Prop} (h : (Dt.nm x t).val most = none) : P := by cases h
theorem nm_text {most : Nat} {x t y : Str} (h : (Dt.nm x t).val most = some y) : y = t := by cases h; rfl
theorem din_last {env : List Ent} {most : Nat} {news : List (Addr × Obj)} {a b : Addr} {n : Nat} {k1 k2 tk : Tok} {x t : Str} (h : (a, tupOf [.str "name" k1, .str x k2] n) ∈ news) (ht : t.length ≤ most) :
    DIn (env ++ [⟨x, t, tk, b⟩]) most news (.ref a) (.nm x t) :=
  DIn.nm (q := ⟨x, t, tk, b⟩) h (List.mem_append_right _ (.head _)) ht
theorem lim_next {most : Nat} {lim dx kd vd : Addr} {es : List DictEntry} {nl : Nat} {tk : Tok} {nwA nwB nwC : List (Addr × Obj)} (h1 : (lim, instObj 517 dx) ∈ nwA) (h2 : (dx, dictOf es nl) ∈ nwA) (h3 : getL (Str.ofString "steps") es = some (some (.int most tk))) (hB : SetSub kd nwA nwB) (hC : SetSub vd nwB nwC)
    (n2 : dx ≠ kd) (n3 : dx ≠ vd) : (lim, instObj 517 dx) ∈ nwC ∧ (dx, dictOf es nl) ∈ nwC ∧ LimAt most lim nwC := by
  have a := hC _ (hB _ h1 (.inr nofun)) (.inr nofun)
  have b := hC _ (hB _ h2 (.inl n2)) (.inl n3)
  exact ⟨a, b, _, _, _, _, a, b, h3⟩
theorem seq_next {kd vd a : Addr} {o : Obj} {vs : Array Value} {n : Nat} {nwA nwB nwC : List (Addr × Obj)} (hB : SetSub kd nwA nwB) (hC : SetSub vd nwB nwC) (h : (a, o) ∈ nwA) (ho : o.data = .seq vs n) : (a, o) ∈ nwC :=
  hC _ (hB _ h (.inr fun _ _ e => by cases ho.symm.trans e)) (.inr fun _ _ e => by cases ho.symm.trans e)
theorem off_next {kd vd a : Addr} {o : Obj} {nwA nwB nwC : List (Addr × Obj)} (hB : SetSub kd nwA nwB) (hC : SetSub vd nwB nwC) (h : (a, o) ∈ nwA) (n1 : a ≠ kd) (n2 : a ≠ vd) : (a, o) ∈ nwC :=
  hC _ (hB _ h (.inl n1)) (.inl n2)
theorem all_last {env : List Ent} {P : Ent → Prop} {q : Ent} (h : ∀ q ∈ env, P q) (hq : P q) : ∀ r ∈ env ++ [q], P r := fun r hr => (List.mem_append.mp hr).elim (h r) fun z => List.mem_singleton.mp z ▸ hq
theorem due_len {t : Str} {k : Int} {most : Nat} (h : 0 < k) (h2 : k ≤ most) : (Txt.slice (t ++ Txt.mul (Str.ofString " ") k) none (some k)).length ≤ most := by
  have := cut_len t h
  show (cutT t k).length ≤ most
  omega
theorem ne_above {news : List (Addr × Obj)} {D I : Addr} {it : Obj} (h : ∀ q ∈ news, q.1 < D) (hm : (I, it) ∈ news) : D ≠ I := fun e => absurd (h _ hm) (by rw [e]; exact Nat.lt_irrefl _)
section
variable {w : World} {most : Nat} {h₀ h : Heap} {L c kd vd lim dx : Addr} {es : List DictEntry} {nl n : Nat} {vs : List Value} {news : List (Addr × Obj)}
/-- the end of a turn that tells a name -/
theorem law_told {I : Addr} {it : Obj} {at_ : Int} {t : Tok} {pre : List Str} {x tx : Str} {tk : Tok} {a : Addr} {env : List Ent} (N : News h₀ L h news) (hI : (I, it) ∈ news)
    (h1 : (c, listOf ((Value.int at_ t :: vs).toArray) n) ∈ news) (h4 : (lim, instObj 517 dx) ∈ news) (h5 : (dx, dictOf es nl) ∈ news) (hE : EnvAt P0 w most (env ++ [⟨x, tx, tk, a⟩]) kd vd news)
    (ic : c ≠ I) (ik : kd ≠ I) (iv : vd ≠ I) (il : lim ≠ I) (idx : dx ≠ I) (ie : ∀ q ∈ env, q.a ≠ I) (ia : a ≠ I) (ha : 0 ≤ at_) (hb : at_ ≤ 1 + 31 * ((pre ++ [x]).length : Int)) (he : env.length ≤ pre.length) (hx : ∀ q ∈ env, q.x ∈ pre) :
    ∃ news', News h₀ L h ((I, it) :: news') ∧ (∀ p ∈ news', p.1 ≠ I) ∧ LawJ w most c kd vd lim dx es nl vs n (pre ++ [x]) news' :=
  law_same N hI h1 h4 h5 hE ic ik iv il idx (all_last ie ia) ha hb (by simpa using he) (all_last (fun q hq => List.mem_append_left _ (hx q hq)) (List.mem_append_right _ (.head _)))
theorem test_frame {um m₀ : Str → Option Value} {a b c d e : Option Value} : ∀ z, z ≠ Str.ofString "name" → [Str.ofString "tree", Str.ofString "text", Str.ofString "length", Str.ofString "due", Str.ofString "heard"].contains z = false →
   (fun y => if y = Str.ofString "heard" then a else if y = Str.ofString "due" then b else if y = Str.ofString "tree" then c else if y = Str.ofString "name" then d else if [Str.ofString "tree", Str.ofString "text", Str.ofString "length", Str.ofString "due", Str.ofString "heard"].contains y then um y else
     (fun y => if y = Str.ofString "known" then e else m₀ y) y) z = (fun y => if y = Str.ofString "known" then e else m₀ y) z := by
  intro z hz hs
  have hs' := hs
  simp only [List.contains_cons, List.contains_nil, Bool.or_eq_false_iff, beq_eq_false_iff_ne] at hs'
  obtain ⟨a1, a2, a3, a4, a5, _⟩ := hs'
  (try dsimp only)
  repeat rw [if_neg (by assumption)]
  rw [if_neg (by rw [hs]; nofun)]
end
theorem nm_high (x t : Str) : (Dt.nm x t).high = 0 := rfl

theorem no_some {α : Type} {P : Prop} {a : α} {o : Option α} (h1 : o = none) (h2 : o = some a) : P := by rw [h1] at h2; cases h2
section
variable {prog : Program} {w : World} {A₀ : Around} {E : Value → Shared → Prop} {s' : Shared} {h₀ h : Heap} {outer : List Env} {L a e C : Addr} {m : Str → Option Value} {name : Str} {scope : Scope} {cd : Value}
  {b₀ : Stmt} {suite : List Stmt} {pos np : Pos} {rest : List ExceptHandler} {Q : Flow → Shared → Prop} {news : List (Addr × Obj)} {KF : Frag}
  {p : Program} {loose : List Str} {mean : ExcName → Option Value} {mg mb : Str → Option Value} {x : Str}
theorem caught_x (K : Below A₀ h₀ outer h₀) (F : Fr h₀ L h m) (hsm : h.UpToSlots s'.heap) (R : RaisedN h₀ (envOf name scope L a cd :: outer) e (.ref C) news s'.heap)
    (X : KF.In h₀) (T : TopRead p loose mg mb h₀) (ex : nsIn KF mainGlobals x = some (some (.ref C))) (hm : exmOne KF (.ref C) (.ref C) = some true)
    (k : ∀ h', Fr h₀ L h' m → News h₀ L h' news →
      wpAny (model prog w) ((A₀.deeper (envOf name scope L a cd)).mark (some (.ref e))) (execs (b₀ :: suite) (envOf name scope L a cd)) Q E { s' with heap := h' })
    (hk : scope.kind = .function := by rfl) (hx : (envOf name scope L a cd).kindOf x = some .globalImplicit := by rfl) (hd : (x == ("__debug__" : Str)) = false := by decide)
    (hE : PassesOwnAt (model prog w) ((A₀.deeper (envOf name scope L a cd)).mark (some (.ref e))) (A₀.deeper (envOf name scope L a cd)) (envOf name scope L a cd) E := by passes_own) :
    wpAny (model prog w) (A₀.deeper (envOf name scope L a cd)) (noteFrame (.ref e) (envOf name scope L a cd))
      (fun _ s₂ => wpAny (model prog w) (A₀.deeper (envOf name scope L a cd)) (setFlight (.ref e) none) (fun _ s₃ =>
        wpAny (model prog w) (A₀.deeper (envOf name scope L a cd)) (handleBy (.ref e) (envOf name scope L a cd) (.ExceptHandler (some (.Name x np)) none (b₀ :: suite) pos :: rest)) Q E s₃) E s₂) E s' := by
  obtain ⟨B, a0, hB, hl, hfl⟩ := R
  have hL : B.get? L = none := by
    obtain ⟨_, ⟨L', _, hf, hn', _⟩, _⟩ := hfl.2.2.1
    obtain rfl : L = L' := Option.some.inj hf
    exact hn'
  refine wpAny_looks_onW (Around.frames_deeper K.stack) rfl hfl fun h₄ hheld₄ hsm₄ => ?_
  refine wpAny_landsW hheld₄ fun h₅ hheld hsm₅' => ?_
  have hsm₅ := hsm₄.trans hsm₅'
  have hheld' := flyingW_base hB hheld
  have F₅ := F.of_stays hheld'.1 (hsm.trans hsm₅)
  obtain ⟨ob, hob, hobc⟩ := hheld'.there
  have LT : Looks (model prog w) h₅ (typeOf (.ref e)) (.ref C) := by
    rw [← hobc]
    exact (Looks.ld hob).andThen .now
  refine wpAny_handleBy_cons (codeAny_handlers_test (name_K F₅ X T ex ?_ hk hx hd)) (by intro q; cases q)
  refine (exm_one (X.keeps F₅.keep) LT hm).here (codeAny_handlers_suite ?_)
  refine lands_againW hheld fun h₆ hfl₆ hsm₆ => ?_
  have F₆ := F.of_stays (flyingW_base hB hfl₆).1 ((hsm.trans hsm₅).trans hsm₆)
  exact wpAny_passesOwnAt hE (k h₆ F₆ fun q hq => ⟨hfl₆.1 _ _ (hl q hq).1, (fun z => by have := (hl q hq).1; rw [z, hL] at this; cases this), (hl q hq).2⟩)
end

theorem ints_head {ws : List Value} {l : List Int} (h : IntsAre ws ([0] ++ l)) : ∃ t vs, ws = .int 0 t :: vs ∧ IntsAre vs l := by
  cases h with
  | cons i t h => exact ⟨_, _, rfl, h⟩
local macro_rules | `(tactic| walk_at "exec For Name Name cons nil") => `(tactic| (k_here; (with_reducible show wpAny _ _ (exec (Stmt.For _ _ _ [] _) _) _ _ _); (rename Fr _ _ _ _ => lF'); (with_unfolding_all refine' For_invVF lF' ?k1 ?k2 ?_; (case k1 => exact rfl); (case k2 => exact rfl); k_whole)))
local macro_rules | `(tactic| walk_at "pyIter str") => `(tactic| (refine halt ?_))
local macro_rules | `(tactic| walk_at "setItem ref str") => `(tactic| (refine halt ?_))
local macro_rules | `(tactic| walk_at "newTuple") => `(tactic| (k_here; k_dflt (refine' kup_newTuple ?F ?N ?_ ?z; (case F => k_asm); (case N => k_asm); (case z => kmk_size)); intro D' h' F' N' l1; (have l9 := l1); (try k_lt l1); (try k_sweep)))
local macro_rules | `(tactic| walk_at "compareOp NotEq ref ref") => `(tactic| (k_here; (with_reducible show wpAny _ _ (compareOp CmpOp.NotEq (Value.ref _) (Value.ref _)) _ _ _); k_dflt (refine' ne_tups ?N ?p ?q ?u ?_; (case N => k_asm); (case p => k_mem); (case q => k_mem); (case u => ((try dsimp only [ktrTop, Around.deeper]); (have a9 := depth_caller); (have b9 := units_caller); (have c9 : recursionLimit = 1000 := rfl); (have d9 : cLine = 9900 := rfl); omega)); k_whole)))
local macro_rules | `(tactic| walk_at "compareOp NotEq str str") => `(tactic| (k_here; (with_reducible refine ne_same ?_)))
local macro_rules | `(tactic| walk_at "UnrEnd") => `(tactic| (refine halt ?_))
local macro_rules | `(tactic| walk_at "call ref") => `(tactic| (k_here; (with_reducible show wpAny _ _ (call (Value.ref 450) _) _ _ _); k_dflt (refine' CallsTo.use (eval_spec _ ?p0 ?p1 ?p2 ?p3) ?k1 ?k2 ?k3 ?k4 ?k5 ?kX ?kT ?kK ?kd ?ku ?_ ?pe; (case k1 => k_asm); (case k2 => k_asm); (case k3 => k_asm); (case k4 => k_asm); (case k5 => k_asm); (case kX => k_asm); (case kT => k_asm); (case p0 => assumption); (case p3 => exact EnvAt.mono (by assumption) (fun q9 hq9 => by k_mem)); (case p1 => refine' din_last ?x1 ?x2; (case x1 => k_mem); (case x2 => first | assumption | exact due_len (by assumption) (by assumption))); (case p2 => exact LimAt.mono (by assumption) (fun q9 hq9 => by k_mem)); (case kK => exact rfl); (case kd => ((simp only [nm_high]); ((try dsimp only [ktrTop, Around.deeper]); (have a9 := depth_caller); (have b9 := units_caller); (have c9 : recursionLimit = 1000 := rfl); (have d9 : cLine = 9900 := rfl); omega))); (case ku => ((simp only [nm_high]); ((try dsimp only [ktrTop, Around.deeper]); (have a9 := depth_caller); (have b9 := units_caller); (have c9 : recursionLimit = 1000 := rfl); (have d9 : cLine = 9900 := rfl); omega))); (case pe => exact fun hx8 => nm_told hx8); k_whole); rintro r8 news8 h8 tk8 F8 N8 ⟨b8, m8, i8, j8, y8, hr8, hv8, hb8, hs8⟩; subst hr8; (have e8 := nm_text hv8); subst e8; (try k_sweep); (try k_fold)))
local macro_rules | `(tactic| walk_at "call ref") => `(tactic| (k_here; (with_reducible show wpAny _ _ (call (Value.ref 528) _) _ _ _); (refine halt ?_)))
local macro_rules | `(tactic| walk_at "call ref") => `(tactic| (k_here; (with_reducible show wpAny _ _ (call (Value.ref 528) _) _ _ _); k_dflt (refine' CallsTo.use (pull_spec _ ?pU ?pv ?pl ?p0 ?p1 ?pm) ?k1 ?k2 ?k3 ?k4 ?k5 ?kX ?kT ?kK ?kd ?ku ?_ ?pe; (case k1 => k_asm); (case k2 => k_asm); (case k3 => k_asm); (case k4 => k_asm); (case k5 => k_asm); (case kX => k_asm); (case kT => k_asm); (case kK => exact rfl); (case pU => k_updF); (case pv => assumption); (case pl => assumption); (case p0 => omega); (case p1 => omega); (case pm => omega); (case kd => ((try dsimp only [ktrTop, Around.deeper]); (have a9 := depth_caller); (have b9 := units_caller); (have c9 : recursionLimit = 1000 := rfl); (have d9 : cLine = 9900 := rfl); omega)); (case ku => ((try dsimp only [ktrTop, Around.deeper]); (have a9 := depth_caller); (have b9 := units_caller); (have c9 : recursionLimit = 1000 := rfl); (have d9 : cLine = 9900 := rfl); omega)); (case pe => exact fun h => h.elim); k_whole); rintro r8 news8 h8 tk8 F8 N8 ⟨x8, tx8, t8, hr8, hx0, hx1, hn8⟩; subst hr8; subst hn8; (try dsimp only at N8); (try k_sweep); (try k_fold)))
local macro_rules | `(tactic| walk_at "call ref") => `(tactic| (k_here; (with_reducible show wpAny _ _ (call (Value.ref 535) _) _ _ _); k_dflt (refine' CallsTo.use (TreeSpec.call (tree_spec _ _ ?z0 ?z8 3 (by decide)) ?z1 ?z2 ?z3 ?z4 ?z5 ?z6 ?z7) ?k1 ?k2 ?k3 ?k4 ?k5 ?kX ?kT ?kK ?kd ?ku ?_ ?pe; (case k1 => k_asm); (case k2 => k_asm); (case k3 => k_asm); (case k4 => k_asm); (case k5 => k_asm); (case kX => k_asm); (case kT => k_asm); (case kK => exact rfl); (case z0 => assumption); (case z8 => assumption); (case z1 => assumption); (case z2 => assumption); (case z3 => assumption); (case z4 => omega); (case z5 => omega); (case z6 => assumption); (case z7 => exact rfl); (case kd => ((try dsimp only [ktrTop, Around.deeper]); (have a9 := depth_caller); (have b9 := units_caller); (have c9 : recursionLimit = 1000 := rfl); (have d9 : cLine = 9900 := rfl); omega)); (case ku => ((try dsimp only [ktrTop, Around.deeper]); (have a9 := depth_caller); (have b9 := units_caller); (have c9 : recursionLimit = 1000 := rfl); (have d9 : cLine = 9900 := rfl); omega)); (case pe => exact fun h => h.elim); k_whole); rintro r8 news8 h8 tk8 F8 N8 ⟨a8, m8, tv8, wv8, D8, at8, t8, rest8, hr8, hn8, hsub8, hc8, hle8, hge8, hp8, hD8, hh8, hw8⟩; subst hr8; subst hn8; (rcases Told2.split hw8 with ⟨hv8, hx8⟩ | ⟨y8, ty8, hv8, hx8⟩ <;> subst hx8); (all_goals ((try (have hy8 := DIn.len hD8 hv8)); (try dsimp only at N8); (try k_sweep); (try k_fold)))))
local macro_rules | `(tactic| walk_at "call ref") => `(tactic| (k_here; (with_reducible show wpAny _ _ (call (Value.ref 499) [_, _, Value.none, _, _]) _ _ _); k_dflt (refine' CallsTo.use (named_none _ ?p0 ?p1 ?p2 ?p3) ?k1 ?k2 ?k3 ?k4 ?k5 ?kX ?kT ?kK ?kd ?ku ?_ ?_; (case k1 => k_asm); (case k2 => k_asm); (case k3 => k_asm); (case k4 => k_asm); (case k5 => k_asm); (case kX => k_asm); (case kT => k_asm); (case p0 => assumption); (case p1 => exact DIn.mono (by assumption) (fun q9 hq9 => by k_mem)); (case p2 => exact LimAt.mono (by assumption) (fun q9 hq9 => by k_mem)); (case p3 => exact EnvAt.mono (by assumption) (fun q9 hq9 => by k_mem)); (case kK => exact rfl); (case kd => ((try dsimp only [ktrTop, Around.deeper]); (have a9 := depth_caller); (have b9 := units_caller); (have c9 : recursionLimit = 1000 := rfl); (have d9 : cLine = 9900 := rfl); omega)); (case ku => ((try dsimp only [ktrTop, Around.deeper]); (have a9 := depth_caller); (have b9 := units_caller); (have c9 : recursionLimit = 1000 := rfl); (have d9 : cLine = 9900 := rfl); omega))); (first | ((rename Dt.val _ _ = some _ => hq8); rintro r8 news8 h8 tk8 F8 N8 ⟨t8, j8, hv8, hr8, hs8⟩; (have e8 := Option.some.inj (hv8.symm.trans hq8)); subst e8; subst hr8; (try k_sweep); (try k_fold)) | (rintro r8 news8 h8 tk8 F8 N8 ⟨t8, j8, hv8, hr8, hs8⟩; exact no_some (by assumption) hv8) | skip); (all_goals (try (intro hx8 e8 h8 tk8 g8 R8 U8 G8; (try (exact no_some hx8 (by assumption))))))))
local macro_rules | `(tactic| walk_at "call ref") => `(tactic| (k_here; (with_reducible show wpAny _ _ (call (Value.ref 499) [_, _, Value.int _ _, _, _]) _ _ _); k_dflt (refine' CallsTo.use (named_int _ ?p0 ?p4 ?p5 ?p1 ?p2 ?p3) ?k1 ?k2 ?k3 ?k4 ?k5 ?kX ?kT ?kK ?kd ?ku ?_ ?_; (case k1 => k_asm); (case k2 => k_asm); (case k3 => k_asm); (case k4 => k_asm); (case k5 => k_asm); (case kX => k_asm); (case kT => k_asm); (case p0 => assumption); (case p4 => omega); (case p5 => omega); (case p1 => exact DIn.mono (by assumption) (fun q9 hq9 => by k_mem)); (case p2 => exact LimAt.mono (by assumption) (fun q9 hq9 => by k_mem)); (case p3 => exact EnvAt.mono (by assumption) (fun q9 hq9 => by k_mem)); (case kK => exact rfl); (case kd => ((try dsimp only [ktrTop, Around.deeper]); (have a9 := depth_caller); (have b9 := units_caller); (have c9 : recursionLimit = 1000 := rfl); (have d9 : cLine = 9900 := rfl); omega)); (case ku => ((try dsimp only [ktrTop, Around.deeper]); (have a9 := depth_caller); (have b9 := units_caller); (have c9 : recursionLimit = 1000 := rfl); (have d9 : cLine = 9900 := rfl); omega))); (first | ((rename Dt.val _ _ = some _ => hq8); rintro r8 news8 h8 tk8 F8 N8 ⟨t8, j8, hv8, hn8, hr8, hs8⟩; (first | (exfalso; omega) | ((have e8 := Option.some.inj (hv8.symm.trans hq8)); subst e8; (replace hr8 := pad_cut (by assumption) hr8); subst hr8; (try k_sweep); (try k_fold)))) | (rintro r8 news8 h8 tk8 F8 N8 ⟨t8, j8, hv8, hn8, hr8, hs8⟩; exact no_some (by assumption) hv8) | skip); (all_goals (try (intro hx8 e8 h8 tk8 g8 R8 U8 G8; (try (exfalso; (rcases hx8 with hx8 | hx8); (exact no_some hx8 (by assumption)); omega; done)))))))
local macro_rules | `(tactic| walk_at "noteFrame ref") => `(tactic| (k_here; k_dflt (refine' caught_x ?z1 ?z2 ?z3 ?z4 ?z5 (topRead_of ?z6) ?z7 ?z8 ?_; (case z4 => assumption); (case z1 => assumption); (case z3 => assumption); (case z2 => assumption); (case z5 => k_asm); (case z6 => k_asm); (case z7 => k_is); (case z8 => kts_exm); k_whole); intro h8 F8 N8; (try k_sweep); (try k_fold)))

set_option maxHeartbeats 8000000 in
theorem law_all : PySem.Challenge.rw_pq0359_01.Holds := by
  o_law
  refine holds_open (q := V39) (loose := loose0) (Xt := Xt0) (XP := XL V39 []) (Yf := Hook.obs H39) (Ya := Hook.val H39) (YP := Hook.says H39) (N := 7004) l_left (Hook.of H39) (Hook.keeps H39) (fun s e => xl_of s (Bool.and_eq_true_iff.mp e).1) XL.keeps (by rfl) (by rfl) (by rfl) (fun s e => recFacts_of (Bool.and_eq_true_iff.mp e).2) (by rfl) (by assumption) (by decide +kernel) ⟨rfl, rfl, rfl, rfl, rfl, by decide +kernel⟩ ?hw ?hc
  case hw => w_witness2
  (rename PySem.W.OpenRow.wellSaid _ = true => said)
  clear said
  k_go0
  k_steps
  (rename IntsAre _ (_ ++ _) => hJ)
  obtain ⟨t0, vs0, e0, hJ'⟩ := ints_head hJ
  subst e0
  have hlen0 : ∀ l : List Int, (List.take 40 l).length ≤ 63 := fun l => by rw [List.length_take]; omega
  have hlen1 := hlen0 ‹List Int›
  unfold Halt
  k_dflt (refine' CallsTo.use (pull_spec _ ?pU ?pv ?pl ?p0 ?p1 ?pm) ?k1 ?k2 ?k3 ?k4 ?k5 ?kX ?kT ?kK ?kd ?ku ?_ ?pe; (case k1 => k_asm); (case k2 => k_asm); (case k3 => k_asm); (case k4 => k_asm); (case k5 => k_asm); (case kX => k_asm); (case kT => k_asm); (case kK => exact rfl); (case pU => k_updF); (case pv => assumption); (case pl => assumption); (case p0 => omega); (case p1 => omega); (case pm => omega); (case pe => exact fun h => h.elim); (case ku => decide +kernel); (case kd => decide +kernel))
  rintro r8 news8 h8 tk8 F8 N8 ⟨x8, tx8, t8, hr8, hx0, hx1, hn8⟩
  subst hr8; subst hn8
  (try dsimp only at N8)
  (try k_sweep)
  (try k_fold)
  k_steps
  (rename Fr _ _ _ _ => F')
  (rename News _ _ _ _ => N')
  obtain ⟨most, hmost⟩ := Int.eq_ofNat_of_zero_le (show 0 ≤ 4 + x8 by omega)
  have h4 : 4 ≤ most := by omega
  have h23 : most ≤ 23 := by omega
  rw [hmost] at F' N'
  clear hmost hx0 hx1
  refine' Exists.elim (law_start F' N' ?f1 ?f2 ?f3 ?f4 ?f5 ?g1 ?g2 ?g3 ?g4 ?g5 ?g6 ?g7 ?g8 ?g9 ?ga ?gb ?gc ?n1 ?n2 ?n3) ?_
  case f1 => exact rfl
  case f2 => exact rfl
  case f3 => exact rfl
  case f4 => exact rfl
  case f5 => exact rfl
  case g1 => k_mem
  case g2 => k_mem
  case g3 => k_mem
  case g4 => k_mem
  case g5 => k_mem
  case g6 => assumption
  case g7 => assumption
  case g8 => assumption
  case g9 => assumption
  case ga => omega
  case gb => omega
  case gc => with_unfolding_all rfl
  case n1 => exact (by assumption : ∀ p : Addr × Obj, p ∈ _ → p.1 ≠ _) (_, _) (by k_mem)
  case n2 => exact (by assumption : ∀ p : Addr × Obj, p ∈ _ → p.1 ≠ _) (_, _) (by k_mem)
  case n3 => exact (by assumption : ∀ p : Addr × Obj, p ∈ _ → p.1 ≠ _) (_, _) (by k_mem)
  rintro news₀ ⟨N₀, J₀, hst, hne1, hne2, hne3⟩
  clear N'
  unfold Halt
  with_unfolding_all refine' text_inv [Str.ofString "tree", Str.ofString "text", Str.ofString "length", Str.ofString "due", Str.ofString "heard"] (LawJ _ most _ _ _ _ _ _ _ _ _) [⟨#[65]⟩, ⟨#[66]⟩, ⟨#[67]⟩, ⟨#[68]⟩, ⟨#[69]⟩, ⟨#[70]⟩, ⟨#[71]⟩] ?hx ?hhh ?F ?N ?J ?turn ?done
  case hhh => exact rfl
  case F => exact F'
  case N => exact N₀
  case J => exact J₀
  case hx => decide +kernel
  case done =>
    intro news m h tk J F N
    clear F' N₀
    (try dsimp only)
    k_steps
  case turn =>
    intro I pre c1 post u um it news h tk el hoff hJ F N
    obtain ⟨at_, t, rest, env, rfl, hc, h0, h1, hE, hl1, hl2, he1, he2⟩ := hJ
    have hci : I ≠ _ := fun e => hoff _ (.head _) e.symm
    have N1 := fun q hq => N q ((List.Perm.swap _ _ _).mem_iff.mp hq)
    have N2 : News _ _ _ ((_, _) :: (I, it) :: rest) := N1
    clear N N1 F' N₀
    have hcI : ∀ q ∈ (I, it) :: rest, q.1 ≠ _ := fun q hq => (List.mem_cons.mp hq).elim (fun e => e ▸ hci) (hc q)
    have hEI := hE.mono (news' := (I, it) :: rest) (fun q hq => .tail _ hq)
    have hLI : LimAt most _ ((I, it) :: rest) := ⟨_, _, _, _, .tail _ hl1, .tail _ hl2, hst⟩
    have hpre : pre.length ≤ 6 := by
      have := congrArg List.length el
      simp at this
      omega
    have hcost : cost 3 = 30 := rfl
    obtain ⟨ok, hk1, hk2⟩ := hEI.known
    obtain ⟨ov, hv1, hv2⟩ := hEI.values
    have hnk := env_new (f := fun q => Value.str q.t q.tk) (by decide +kernel) el he2
    have hnv := env_new (f := fun q => Value.ref q.a) (by decide +kernel) el he2
    have hne4 := hne1.symm
    have hIc := hoff _ (.head _)
    have hIk : _ ≠ I := hoff _ (.tail _ (hE.known.choose_spec.1))
    have hIv : _ ≠ I := hoff _ (.tail _ (hE.values.choose_spec.1))
    have hIl : _ ≠ I := hoff _ (.tail _ hl1)
    have hId : _ ≠ I := hoff _ (.tail _ hl2)
    have hIe : ∀ q ∈ env, q.a ≠ I := fun q hq => by
      obtain ⟨k1, k2, n9, h9⟩ := hE.tups q hq
      exact hoff _ (.tail _ h9)
    (try dsimp only at hIc hIk hIv hIl hId)
    (try dsimp only)
    k_steps
    all_goals try (
      unfold Halt
      (with_reducible show UnrEnd _ _ _ _ _ _ _)
      refine' turn_end ?e1 ?e2 (law_same ?n1 ?n2 ?n3 ?n4 ?n5 ?n6 hIc hIk hIv hIl hId hIe ?n7 ?n8 ?n9 ?na)
      case e1 => k_asm
      case n1 => k_asm
      case n2 => k_mem
      case n3 => k_mem
      case n4 => k_mem
      case n5 => k_mem
      case n6 => exact EnvAt.mono hEI (fun q9 hq9 => by k_mem)
      case n7 => omega
      case n8 => (simp only [List.length_append, List.length_cons, List.length_nil]; omega)
      case n9 => (simp only [List.length_append, List.length_cons, List.length_nil]; omega)
      case na => exact fun q hq => List.mem_append_left _ (he2 q hq)
      case e2 => (intro z hz hs; (have hs' := hs); (simp only [List.contains_cons, List.contains_nil, Bool.or_eq_false_iff, beq_eq_false_iff_ne] at hs'); obtain ⟨a1, a2, a3, a4, a5, _⟩ := hs'; (try dsimp only); (repeat rw [if_neg (by assumption)]); rw [if_neg (by rw [hs]; nofun)]))
    all_goals (
      unfold Halt
      k_dflt (refine' set_new ?z1 ?z2 ?z3 ?z4 ?z5 ?z6 ?_)
      case z1 => k_asm
      case z2 => k_asm
      case z3 => k_mem
      case z4 => exact hk2
      case z5 => exact hnk
      case z6 => (simp only [List.length_map]; omega)
      k_whole
      intro h8 o8 news8 tk8 F8 N8 d7 m7 hs7
      (try k_sweep)
      k_steps
      unfold Halt
      k_dflt (refine' set_new ?z1 ?z2 ?z3 ?z4 ?z5 ?z6 ?_)
      case z1 => k_asm
      case z2 => k_asm
      case z3 => exact hs7 (_, _) (by k_mem) (.inl hne4)
      case z4 => exact hv2
      case z5 => exact hnv
      case z6 => (simp only [List.length_map]; omega)
      k_whole
      intro h8 o8 news8 tk8 F8 N8 d8 m8 hs8
      (try k_sweep)
      (rename ∀ q : Addr × Obj, q ∈ (I, it) :: rest → q ∈ _ => hsub)
      (rename ∀ q : Addr × Obj, q ∈ (_, W.listOf _ _) :: _ → q ∈ _ => hcall)
      have g1 := seq_next hs7 hs8 (List.mem_cons_of_mem _ (List.mem_cons_of_mem _ (hcall _ List.mem_cons_self))) rfl
      have gI := off_next hs7 hs8 (List.mem_cons_of_mem _ (List.mem_cons_of_mem _ (hcall _ (List.mem_cons_of_mem _ (hsub _ List.mem_cons_self))))) hIk.symm hIv.symm
      obtain ⟨g4, g5, hL2⟩ := lim_next (List.mem_cons_of_mem _ (List.mem_cons_of_mem _ (hcall _ (List.mem_cons_of_mem _ (hsub _ (List.mem_cons_of_mem _ hl1)))))) (List.mem_cons_of_mem _ (List.mem_cons_of_mem _ (hcall _ (List.mem_cons_of_mem _ (hsub _ (List.mem_cons_of_mem _ hl2)))))) hst hs7 hs8 hne2 hne3
      have hE2 := env_next (EnvAt.mono hEI (fun q hq => List.mem_cons_of_mem _ (List.mem_cons_of_mem _ (hcall _ (List.mem_cons_of_mem _ (hsub _ hq)))))) (List.mem_cons_of_mem _ List.mem_cons_self) hs7 hs8 m7 d7 m8 d8 hne1 (by omega) (by first | assumption | exact due_len (by assumption) (by assumption))
      clear hLI hEI hs7 hs8 m7 d7 m8 d8
      k_steps
      unfold Halt
      (with_reducible show UnrEnd _ _ _ _ _ _ _)
      refine' turn_end ?e1 ?e2 (law_told ?n1 ?n2 ?n3 ?n4 ?n5 ?n6 hIc hIk hIv hIl hId hIe ?n7 ?n8 ?n9 he1 he2)
      case e1 => k_asm
      case n1 => k_asm
      case n2 => k_mem
      case n3 => k_mem
      case n4 => k_mem
      case n5 => k_mem
      case n6 => exact EnvAt.mono hE2 (fun q9 hq9 => by k_mem)
      case n7 => exact ne_above (it := it) (by assumption) (hcall _ (List.mem_cons_of_mem _ (hsub _ List.mem_cons_self)))
      case n8 => omega
      case n9 => (simp only [List.length_append, List.length_cons, List.length_nil]; omega)
      case e2 => (intro z hz hs; (have hs' := hs); (simp only [List.contains_cons, List.contains_nil, Bool.or_eq_false_iff, beq_eq_false_iff_ne] at hs'); obtain ⟨a1, a2, a3, a4, a5, _⟩ := hs'; (try dsimp only); (repeat rw [if_neg (by assumption)]); rw [if_neg (by rw [hs]; nofun)]))

end Mine
theorem PySem.Challenge.cw_pq0359_01_holds : PySem.Challenge.rw_pq0359_01.Holds :=
  Mine.law_all
