import PyProof.Rows.All
import Wide.All
import OpenK.AllK
import Wide.FinOn
import PySem.Challenge.RW_sm0059_01
open PySem PySem.W PyProof.Rows
set_option Elab.async false
set_option linter.all false
set_option linter.unusedVariables false
set_option linter.unusedSimpArgs false
set_option compiler.extract_closed false
set_option maxRecDepth 100000
set_option maxHeartbeats 16000000
namespace Mine
def seenLines : List Nat := [1, 3, 4, 5, 6, 7, 8, 9, 10, 11, 12, 13, 14, 15, 16, 17, 18, 19, 20, 21, 22, 23, 24, 25, 26, 27, 29, 30, 31]
noncomputable def view39 : Program := PySem.W.view PySem.Challenge.pw_sm0059_01 seenLines
theorem law_said : PySem.Challenge.rw_sm0059_01.wellSaid = true := by
  delta OpenLaw.wellSaid OpenRow.wellSaid OpenRow.partSaid looksOpen
  rw [PySem.W.Fast.te8326940854005059898, PySem.W.Fast.te17119622794617984870, PySem.W.Fast.te8377067652309620493, PySem.W.Fast.te9558739934217749035]
  repeat' with_reducible refine look_both ?_ ?_
  all_goals decide +kernel
theorem bare_whole : PySem.Challenge.rw_sm0059_01.row.prog.tablesWhole = true := by decide +kernel
theorem chains_ok : (chainsOk view39 && opensWell PySem.Challenge.rw_sm0059_01.row.prog && (frees PySem.Challenge.rw_sm0059_01.row.toRowW && PySem.Challenge.rw_sm0059_01.row.within.isEmpty)) = true := by decide +kernel
noncomputable def envTop : Env := { scope := PySem.Challenge.rw_sm0059_01.row.prog.main.scope, locals := mainNs, globals := mainNs, cells := [], code := Value.ref 13, frame := some 14 }
noncomputable def topO11 : Params → Obj := fun P => { cls := Value.type "tuple", data := Data.seq #[] }
noncomputable def topO12 : Params → Obj := fun P => { cls := Value.none, data := Data.fields #[] }
noncomputable def topO13 : Params → Obj := fun P =>
  { cls := Value.type "code",
    data :=
      Data.fields
        #[Value.str (Str.ofString "<module>") 182, Value.str (Str.ofString "<module>") 183, Value.str (Str.ofString "/claim/cut.py") 184, Value.int 1 0, Value.int 0 0, Value.int 0 0, Value.int 0 0, Value.int 0 0, Value.ref 11,
          Value.bool false, Value.int 181 0, Value.ref 12, Value.none, Value.none, Value.none, Value.none, Value.int 185 0, Value.int 1 0, Value.str (Str.ofString "/claim/cut.py") 186] }
noncomputable def topO14 : Params → Obj := fun P => { cls := Value.type "frame", slots := #[some (Value.ref 13), some (Value.ref 3), some (Value.ref 3), none, some (Value.str (Str.ofString "__main__") 164), none, some (Value.ref 0)] }
noncomputable def heapA : Params → Heap := fun P => { objs := { toList := [boot_o_0 P, boot_o_1 P, boot_o_2 P, boot_o_3 P, boot_o_4 P, boot_o_5 P, boot_o_6 P, boot_o_7 P, boot_o_8 P, boot_o_9 P, boot_o_10 P, topO11 P, topO12 P, topO13 P, topO14 P] } }
noncomputable def treeA : Params → BT := fun P =>
  BT.node (boot_o_0 P)
    (BT.node (boot_o_1 P) (BT.node (boot_o_3 P) (BT.node (boot_o_7 P) BT.nil BT.nil) (BT.node (topO11 P) BT.nil BT.nil))
      (BT.node (boot_o_5 P) (BT.node (boot_o_9 P) BT.nil BT.nil) (BT.node (topO13 P) BT.nil BT.nil)))
    (BT.node (boot_o_2 P) (BT.node (boot_o_4 P) (BT.node (boot_o_8 P) BT.nil BT.nil) (BT.node (topO12 P) BT.nil BT.nil))
      (BT.node (boot_o_6 P) (BT.node (boot_o_10 P) BT.nil BT.nil) (BT.node (topO14 P) BT.nil BT.nil)))

noncomputable abbrev codeTop : Code := .body (behindTheImports PySem.Challenge.rw_sm0059_01.row.prog) envTop
theorem top_open : ∀ w : World, (fencedOpening treeTable PySem.Challenge.rw_sm0059_01.row.prog w 3496).map (fun s => (s.heap, s.gens, s.drawn, s.toks)) = some (boot_heap w.params, Array.mk [], boot_drawn, boot_toks) :=
  boot_open (by kernel_rfl) (by decide) (fun s => by kernel_rfl)
theorem top_size (w : World) : ((boot_heap w.params).isNs mainGlobals && (Array.mk [] : Array GenState).size == 0, (boot_heap w.params).objs.size, (boot_heap w.params).nsMap mainGlobals "__annotations__") = (true, 11, some (.ref 6)) := by kernel_rfl
theorem top_pre (w : World) (os : OsState) : topGo treeTable PySem.Challenge.rw_sm0059_01.row.prog w 11 (some (.ref 6)) 12 ⟨boot_heap w.params, Array.mk [], boot_drawn, boot_toks, os⟩ (topStub PySem.Challenge.rw_sm0059_01.row.prog) =
    some ({ heap := heapA w.params, toks := 187, os := os }, ⟨denote treeTable codeTop, codeTop, ⟨0, 0, 0, 0⟩, [topFrame ⟨0, 0, 0, 0⟩]⟩) := by kernel_rfl
noncomputable abbrev sharedA (w : World) (os : OsState) : SharedT := { tree := treeA w.params, n := 15, life := { }, gens := { toList := [] }, drawn := { }, toks := 187, os := os }
theorem top_block (w : World) (os : OsState) : segRun treeTable PySem.Challenge.rw_sm0059_01.row.prog w 11 (some (.ref 6)) 1 1 { heap := heapA w.params, toks := 187, os := os } (blockOf (behindTheImports PySem.Challenge.rw_sm0059_01.row.prog) envTop codeTop ⟨0, 0, 0, 0⟩ [topFrame ⟨0, 0, 0, 0⟩]) =
    some (.next, (sharedA w os).abs, codeTop, ⟨0, 0, 0, 0⟩) := by kernel_rfl
theorem fin_run {tb : String → Option Builtin} {p : Program} {w : World} {m₀ : Nat} {ann : Option Value} {env : Env} {c : Code} {pos q : Pos} (s : Shared) :
    topRun tb p w m₀ ann 2 s (restOf [] env c pos [topFrame q]) = some s := by
  obtain ⟨h, g, d, k, os⟩ := s
  rfl
noncomputable abbrev oPrg : Program := PySem.Challenge.rw_sm0059_01.row.prog
noncomputable def oTop : List Stmt := behindTheImports oPrg
def oBlk (l : List Stmt) (i : Nat) : List Stmt := match l.drop i with
  | .ClassDef _ _ _ b _ _ _ _ _ _ _ :: _ => b
  | _ => []
noncomputable def oC1 : List Stmt := oBlk oTop 1
noncomputable def oC27 : List Stmt := oBlk oTop 27
def oAr (l : List Stmt) (i : Nat) : Arguments := match l.drop i with
  | .FunctionDef _ a _ _ _ _ _ _ _ _ :: _ => a
  | _ => ⟨[], [], none, [], [], none, []⟩
def oBo (l : List Stmt) (i : Nat) : List Stmt := match l.drop i with
  | .FunctionDef _ _ b _ _ _ _ _ _ _ :: _ => b
  | _ => []
def oSc (l : List Stmt) (i : Nat) : Scope := match l.drop i with
  | .FunctionDef _ _ _ _ _ _ s _ _ _ :: _ => s
  | _ => default
def oSv (s : String) (n : Nat) : Value := Value.str (Str.ofString s) n
def oIv (n : Int) : Value := Value.int n 0
def oKe (P : Params) (s : String) (n : Nat) (v : Value) : DictEntry := { hash := PyData.keyHash P (Str.ofString s), key := Value.str (Str.ofString s) n, val := v }
def oTup (l : List Value) : Obj := { cls := Value.type "tuple", data := Data.seq ⟨l⟩ }
def oCo (l : List Value) : Obj := { cls := Value.type "code", data := Data.fields ⟨l⟩ }
def oFlds (l : List Value) : Obj := { cls := Value.none, data := Data.fields ⟨l⟩ }
noncomputable def obM2 (P : Params) : Obj := { cls := .none, data := Data.dict #[oKe P "type.__subclasses__.Exception.0" 216 (oIv 31), oKe P "type.__subclasses__.Exception.n" 217 (oIv 1)] 2 }
noncomputable def obM3 (P : Params) : Obj := { cls := Value.type "dict", data := Data.dict #[oKe P "__name__" 165 (oSv "lua.patterns" 220), oKe P "__doc__" 166 (.none), oKe P "__package__" 167 (.none), oKe P "__loader__" 168 (Value.builtin "__main__.__loader__#opaque"), oKe P "__spec__" 169 (.none), oKe P "__annotations__" 170 (.ref 6), oKe P "__builtins__" 171 (.ref 4), oKe P "__file__" 173 (oSv "/claim/cut.py" 172), oKe P "__cached__" 174 (.none), oKe P "LuaError" 219 (.ref 31), oKe P "MOST_CAPTURES" 223 (Value.int 32 222), oKe P "UNFINISHED" 226 (Value.int (-1) 225), oKe P "POSITION" 229 (Value.int (-2) 228), oKe P "ESCAPE" 231 (Value.int 37 230), oKe P "CARET" 233 (Value.int 94 232), oKe P "DOLLAR" 235 (Value.int 36 234), oKe P "DOT" 237 (Value.int 46 236), oKe P "OPEN" 239 (Value.int 40 238), oKe P "CLOSE" 241 (Value.int 41 240), oKe P "SET_OPEN" 243 (Value.int 91 242), oKe P "SET_CLOSE" 245 (Value.int 93 244), oKe P "STAR" 247 (Value.int 42 246), oKe P "PLUS" 249 (Value.int 43 248), oKe P "MINUS" 251 (Value.int 45 250), oKe P "MARK" 253 (Value.int 63 252), oKe P "is_lower" 260 (.ref 41), oKe P "is_upper" 267 (.ref 48), oKe P "is_alpha" 274 (.ref 55), oKe P "is_digit" 281 (.ref 62), oKe P "is_space" 288 (.ref 69), oKe P "is_control" 295 (.ref 76), oKe P "is_punctuation" 302 (.ref 83), oKe P "is_hex" 309 (.ref 90), oKe P "in_class" 319 (.ref 97)] 34 }
noncomputable def obM12 : Obj := oFlds [oIv 2, oIv 0, .ref 20, oIv 24, oIv 0, .ref 40, oIv 26, oIv 0, .ref 47, oIv 28, oIv 0, .ref 54, oIv 30, oIv 0, .ref 61, oIv 32, oIv 0, .ref 68, oIv 34, oIv 0, .ref 75, oIv 36, oIv 0, .ref 82, oIv 38, oIv 0, .ref 89, oIv 40, oIv 0, .ref 96]
noncomputable def obM15 : Obj := oTup [Value.type "Exception"]
noncomputable def obM16 : Obj := { cls := Value.type "builtin_function_or_method", data := Data.fields #[Value.builtin "type.__prepare__", Value.type "type"] }
noncomputable def obM17 (P : Params) : Obj := { cls := Value.type "dict", data := Data.dict #[oKe P "__module__" 196 (oSv "lua.values" 187), oKe P "__qualname__" 198 (oSv "LuaError" 197), oKe P "__firstlineno__" 200 (Value.int 2 199), oKe P "__init__" 208 (.ref 28), oKe P "__static_attributes__" 212 (.ref 29)] 5 }
noncomputable def obM18 : Obj := oTup []
noncomputable def obM19 : Obj := oFlds [oIv 4, oIv 4, .ref 27]
noncomputable def obM20 : Obj := oCo [oSv "LuaError" 191, oSv "LuaError" 192, oSv "/claim/cut.py" 193, oIv 2, oIv 0, oIv 0, oIv 0, oIv 0, .ref 18, .bool false, oIv 181, .ref 19, .none, .none, .none, .none, oIv 194, oIv 2, oSv "/claim/cut.py" 195]
noncomputable def obM21 : Obj := { cls := Value.type "frame", slots := #[some (.ref 20), some (.ref 3), some (.ref 17), none, some (oSv "lua.values" 187), none, some (.ref 0)] }
noncomputable def obM23 : Obj := oFlds []
noncomputable def obM24 : Obj := oTup [oSv "self" 204, oSv "value" 205]
noncomputable def obM26 : Obj := { cls := .none, data := Data.func { name := Str.ofString "__init__", qualname := Str.ofString "LuaError.__init__", params := (oAr oC1 0), body := FuncBody.stmts (oBo oC1 0), scope := (oSc oC1 0), globals := 0, closure := [], defaults := .none, kwdefaults := .none } }
noncomputable def obM27 : Obj := oCo [oSv "__init__" 201, oSv "LuaError.__init__" 202, oSv "/claim/cut.py" 203, oIv 4, oIv 2, oIv 0, oIv 0, oIv 3, .ref 22, .bool true, oIv 181, .ref 23, .none, .ref 24, .ref 25, .ref 26, oIv 206, oIv 4, oSv "/claim/cut.py" 207]
noncomputable def obM28 : Obj := { cls := Value.type "function", data := Data.func { name := Str.ofString "__init__", qualname := Str.ofString "LuaError.__init__", params := (oAr oC1 0), body := FuncBody.stmts (oBo oC1 0), scope := (oSc oC1 0), globals := 3, closure := [], defaults := .none, kwdefaults := .none, pyModule := oSv "lua.values" 187, code := .ref 27 } }
noncomputable def obM29 : Obj := oTup [oSv "is_in_handler" 209, oSv "trace" 210, oSv "value" 211]
noncomputable def obM30 (P : Params) : Obj := { cls := Value.type "dict", data := Data.dict #[oKe P "__module__" 196 (oSv "lua.values" 187), oKe P "__firstlineno__" 200 (Value.int 2 199), oKe P "__init__" 208 (.ref 28), oKe P "__static_attributes__" 212 (.ref 29), oKe P "__weakref__" 214 (.ref 32), oKe P "__doc__" 215 (.none)] 3 }
noncomputable def obM31 : Obj := { cls := Value.type "type", data := Data.cls { name := Str.ofString "LuaError", bases := [Value.type "Exception"], mro := [.ref 31, Value.type "Exception", Value.type "BaseException", Value.type "object"], ns := 30, qualname := Str.ofString "LuaError" }, slots := #[some (.ref 15), none, some (oSv "LuaError" 189), some (oSv "LuaError" 197), some (Value.builtin "Exception.__new__"), some (.bool true)] }
noncomputable def obM32 : Obj := { cls := Value.type "getset_descriptor", data := Data.fields #[oSv "__weakref__" 213, .ref 31, Value.builtin "ExceptionGroup.__weakref__", .none] }
noncomputable def obM33 : Obj := { cls := Value.type "super", data := Data.fields #[.ref 31, .ref 31, .ref 31] }
noncomputable def obM34 : Obj := { cls := Value.type "builtin_function_or_method", data := Data.fields #[Value.builtin "object.__init_subclass__", .ref 31] }
noncomputable def obM37 : Obj := oTup [oSv "c" 257]
noncomputable def obM39 : Obj := { cls := .none, data := Data.func { name := Str.ofString "is_lower", qualname := Str.ofString "is_lower", params := (oAr oTop 18), body := FuncBody.stmts (oBo oTop 18), scope := (oSc oTop 18), globals := 0, closure := [], defaults := .none, kwdefaults := .none } }
noncomputable def obM40 : Obj := oCo [oSv "is_lower" 254, oSv "is_lower" 255, oSv "/claim/cut.py" 256, oIv 24, oIv 1, oIv 0, oIv 0, oIv 3, .ref 35, .bool true, oIv 181, .ref 36, .none, .ref 37, .ref 38, .ref 39, oIv 258, oIv 24, oSv "/claim/cut.py" 259]
noncomputable def obM41 : Obj := { cls := Value.type "function", data := Data.func { name := Str.ofString "is_lower", qualname := Str.ofString "is_lower", params := (oAr oTop 18), body := FuncBody.stmts (oBo oTop 18), scope := (oSc oTop 18), globals := 3, closure := [], defaults := .none, kwdefaults := .none, pyModule := oSv "lua.patterns" 220, code := .ref 40 } }
noncomputable def obM44 : Obj := oTup [oSv "c" 264]
noncomputable def obM46 : Obj := { cls := .none, data := Data.func { name := Str.ofString "is_upper", qualname := Str.ofString "is_upper", params := (oAr oTop 19), body := FuncBody.stmts (oBo oTop 19), scope := (oSc oTop 18), globals := 0, closure := [], defaults := .none, kwdefaults := .none } }
noncomputable def obM47 : Obj := oCo [oSv "is_upper" 261, oSv "is_upper" 262, oSv "/claim/cut.py" 263, oIv 26, oIv 1, oIv 0, oIv 0, oIv 3, .ref 42, .bool true, oIv 181, .ref 43, .none, .ref 44, .ref 45, .ref 46, oIv 265, oIv 26, oSv "/claim/cut.py" 266]
noncomputable def obM48 : Obj := { cls := Value.type "function", data := Data.func { name := Str.ofString "is_upper", qualname := Str.ofString "is_upper", params := (oAr oTop 19), body := FuncBody.stmts (oBo oTop 19), scope := (oSc oTop 18), globals := 3, closure := [], defaults := .none, kwdefaults := .none, pyModule := oSv "lua.patterns" 220, code := .ref 47 } }
noncomputable def obM51 : Obj := oTup [oSv "c" 271]
noncomputable def obM53 : Obj := { cls := .none, data := Data.func { name := Str.ofString "is_alpha", qualname := Str.ofString "is_alpha", params := (oAr oTop 20), body := FuncBody.stmts (oBo oTop 20), scope := (oSc oTop 20), globals := 0, closure := [], defaults := .none, kwdefaults := .none } }
noncomputable def obM54 : Obj := oCo [oSv "is_alpha" 268, oSv "is_alpha" 269, oSv "/claim/cut.py" 270, oIv 28, oIv 1, oIv 0, oIv 0, oIv 3, .ref 49, .bool true, oIv 181, .ref 50, .none, .ref 51, .ref 52, .ref 53, oIv 272, oIv 28, oSv "/claim/cut.py" 273]
noncomputable def obM55 : Obj := { cls := Value.type "function", data := Data.func { name := Str.ofString "is_alpha", qualname := Str.ofString "is_alpha", params := (oAr oTop 20), body := FuncBody.stmts (oBo oTop 20), scope := (oSc oTop 20), globals := 3, closure := [], defaults := .none, kwdefaults := .none, pyModule := oSv "lua.patterns" 220, code := .ref 54 } }
noncomputable def obM58 : Obj := oTup [oSv "c" 278]
noncomputable def obM60 : Obj := { cls := .none, data := Data.func { name := Str.ofString "is_digit", qualname := Str.ofString "is_digit", params := (oAr oTop 21), body := FuncBody.stmts (oBo oTop 21), scope := (oSc oTop 18), globals := 0, closure := [], defaults := .none, kwdefaults := .none } }
noncomputable def obM61 : Obj := oCo [oSv "is_digit" 275, oSv "is_digit" 276, oSv "/claim/cut.py" 277, oIv 30, oIv 1, oIv 0, oIv 0, oIv 3, .ref 56, .bool true, oIv 181, .ref 57, .none, .ref 58, .ref 59, .ref 60, oIv 279, oIv 30, oSv "/claim/cut.py" 280]
noncomputable def obM62 : Obj := { cls := Value.type "function", data := Data.func { name := Str.ofString "is_digit", qualname := Str.ofString "is_digit", params := (oAr oTop 21), body := FuncBody.stmts (oBo oTop 21), scope := (oSc oTop 18), globals := 3, closure := [], defaults := .none, kwdefaults := .none, pyModule := oSv "lua.patterns" 220, code := .ref 61 } }
noncomputable def obM65 : Obj := oTup [oSv "c" 285]
noncomputable def obM67 : Obj := { cls := .none, data := Data.func { name := Str.ofString "is_space", qualname := Str.ofString "is_space", params := (oAr oTop 22), body := FuncBody.stmts (oBo oTop 22), scope := (oSc oTop 18), globals := 0, closure := [], defaults := .none, kwdefaults := .none } }
noncomputable def obM68 : Obj := oCo [oSv "is_space" 282, oSv "is_space" 283, oSv "/claim/cut.py" 284, oIv 32, oIv 1, oIv 0, oIv 0, oIv 3, .ref 63, .bool true, oIv 181, .ref 64, .none, .ref 65, .ref 66, .ref 67, oIv 286, oIv 32, oSv "/claim/cut.py" 287]
noncomputable def obM69 : Obj := { cls := Value.type "function", data := Data.func { name := Str.ofString "is_space", qualname := Str.ofString "is_space", params := (oAr oTop 22), body := FuncBody.stmts (oBo oTop 22), scope := (oSc oTop 18), globals := 3, closure := [], defaults := .none, kwdefaults := .none, pyModule := oSv "lua.patterns" 220, code := .ref 68 } }
noncomputable def obM72 : Obj := oTup [oSv "c" 292]
noncomputable def obM74 : Obj := { cls := .none, data := Data.func { name := Str.ofString "is_control", qualname := Str.ofString "is_control", params := (oAr oTop 23), body := FuncBody.stmts (oBo oTop 23), scope := (oSc oTop 18), globals := 0, closure := [], defaults := .none, kwdefaults := .none } }
noncomputable def obM75 : Obj := oCo [oSv "is_control" 289, oSv "is_control" 290, oSv "/claim/cut.py" 291, oIv 34, oIv 1, oIv 0, oIv 0, oIv 3, .ref 70, .bool true, oIv 181, .ref 71, .none, .ref 72, .ref 73, .ref 74, oIv 293, oIv 34, oSv "/claim/cut.py" 294]
noncomputable def obM76 : Obj := { cls := Value.type "function", data := Data.func { name := Str.ofString "is_control", qualname := Str.ofString "is_control", params := (oAr oTop 23), body := FuncBody.stmts (oBo oTop 23), scope := (oSc oTop 18), globals := 3, closure := [], defaults := .none, kwdefaults := .none, pyModule := oSv "lua.patterns" 220, code := .ref 75 } }
noncomputable def obM79 : Obj := oTup [oSv "c" 299]
noncomputable def obM81 : Obj := { cls := .none, data := Data.func { name := Str.ofString "is_punctuation", qualname := Str.ofString "is_punctuation", params := (oAr oTop 24), body := FuncBody.stmts (oBo oTop 24), scope := (oSc oTop 24), globals := 0, closure := [], defaults := .none, kwdefaults := .none } }
noncomputable def obM82 : Obj := oCo [oSv "is_punctuation" 296, oSv "is_punctuation" 297, oSv "/claim/cut.py" 298, oIv 36, oIv 1, oIv 0, oIv 0, oIv 3, .ref 77, .bool true, oIv 181, .ref 78, .none, .ref 79, .ref 80, .ref 81, oIv 300, oIv 36, oSv "/claim/cut.py" 301]
noncomputable def obM83 : Obj := { cls := Value.type "function", data := Data.func { name := Str.ofString "is_punctuation", qualname := Str.ofString "is_punctuation", params := (oAr oTop 24), body := FuncBody.stmts (oBo oTop 24), scope := (oSc oTop 24), globals := 3, closure := [], defaults := .none, kwdefaults := .none, pyModule := oSv "lua.patterns" 220, code := .ref 82 } }
noncomputable def obM86 : Obj := oTup [oSv "c" 306]
noncomputable def obM88 : Obj := { cls := .none, data := Data.func { name := Str.ofString "is_hex", qualname := Str.ofString "is_hex", params := (oAr oTop 25), body := FuncBody.stmts (oBo oTop 25), scope := (oSc oTop 25), globals := 0, closure := [], defaults := .none, kwdefaults := .none } }
noncomputable def obM89 : Obj := oCo [oSv "is_hex" 303, oSv "is_hex" 304, oSv "/claim/cut.py" 305, oIv 38, oIv 1, oIv 0, oIv 0, oIv 3, .ref 84, .bool true, oIv 181, .ref 85, .none, .ref 86, .ref 87, .ref 88, oIv 307, oIv 38, oSv "/claim/cut.py" 308]
noncomputable def obM90 : Obj := { cls := Value.type "function", data := Data.func { name := Str.ofString "is_hex", qualname := Str.ofString "is_hex", params := (oAr oTop 25), body := FuncBody.stmts (oBo oTop 25), scope := (oSc oTop 25), globals := 3, closure := [], defaults := .none, kwdefaults := .none, pyModule := oSv "lua.patterns" 220, code := .ref 89 } }
noncomputable def obM93 : Obj := oTup [oSv "c" 313, oSv "letter" 314, oSv "low" 315, oSv "found" 316]
noncomputable def obM95 : Obj := { cls := .none, data := Data.func { name := Str.ofString "in_class", qualname := Str.ofString "in_class", params := (oAr oTop 26), body := FuncBody.stmts (oBo oTop 26), scope := (oSc oTop 26), globals := 0, closure := [], defaults := .none, kwdefaults := .none } }
noncomputable def obM96 : Obj := oCo [oSv "in_class" 310, oSv "in_class" 311, oSv "/claim/cut.py" 312, oIv 40, oIv 2, oIv 0, oIv 0, oIv 3, .ref 91, .bool true, oIv 181, .ref 92, .none, .ref 93, .ref 94, .ref 95, oIv 317, oIv 40, oSv "/claim/cut.py" 318]
noncomputable def obM97 : Obj := { cls := Value.type "function", data := Data.func { name := Str.ofString "in_class", qualname := Str.ofString "in_class", params := (oAr oTop 26), body := FuncBody.stmts (oBo oTop 26), scope := (oSc oTop 26), globals := 3, closure := [], defaults := .none, kwdefaults := .none, pyModule := oSv "lua.patterns" 220, code := .ref 96 } }
noncomputable def obN3 (P : Params) : Obj := { cls := Value.type "dict", data := Data.dict #[oKe P "__name__" 165 (oSv "lua.patterns" 220), oKe P "__doc__" 166 (.none), oKe P "__package__" 167 (.none), oKe P "__loader__" 168 (Value.builtin "__main__.__loader__#opaque"), oKe P "__spec__" 169 (.none), oKe P "__annotations__" 170 (.ref 6), oKe P "__builtins__" 171 (.ref 4), oKe P "__file__" 173 (oSv "/claim/cut.py" 172), oKe P "__cached__" 174 (.none), oKe P "LuaError" 219 (.ref 31), oKe P "MOST_CAPTURES" 223 (Value.int 32 222), oKe P "UNFINISHED" 226 (Value.int (-1) 225), oKe P "POSITION" 229 (Value.int (-2) 228), oKe P "ESCAPE" 231 (Value.int 37 230), oKe P "CARET" 233 (Value.int 94 232), oKe P "DOLLAR" 235 (Value.int 36 234), oKe P "DOT" 237 (Value.int 46 236), oKe P "OPEN" 239 (Value.int 40 238), oKe P "CLOSE" 241 (Value.int 41 240), oKe P "SET_OPEN" 243 (Value.int 91 242), oKe P "SET_CLOSE" 245 (Value.int 93 244), oKe P "STAR" 247 (Value.int 42 246), oKe P "PLUS" 249 (Value.int 43 248), oKe P "MINUS" 251 (Value.int 45 250), oKe P "MARK" 253 (Value.int 63 252), oKe P "is_lower" 260 (.ref 41), oKe P "is_upper" 267 (.ref 48), oKe P "is_alpha" 274 (.ref 55), oKe P "is_digit" 281 (.ref 62), oKe P "is_space" 288 (.ref 69), oKe P "is_control" 295 (.ref 76), oKe P "is_punctuation" 302 (.ref 83), oKe P "is_hex" 309 (.ref 90), oKe P "in_class" 319 (.ref 97), oKe P "Matcher" 572 (.ref 253)] 35 }
noncomputable def obN12 : Obj := oFlds [oIv 2, oIv 0, .ref 20, oIv 24, oIv 0, .ref 40, oIv 26, oIv 0, .ref 47, oIv 28, oIv 0, .ref 54, oIv 30, oIv 0, .ref 61, oIv 32, oIv 0, .ref 68, oIv 34, oIv 0, .ref 75, oIv 36, oIv 0, .ref 82, oIv 38, oIv 0, .ref 89, oIv 40, oIv 0, .ref 96, oIv 65, oIv 0, .ref 103]
noncomputable def obN100 (P : Params) : Obj := { cls := Value.type "dict", data := Data.dict #[oKe P "__module__" 327 (oSv "lua.patterns" 220), oKe P "__qualname__" 329 (oSv "Matcher" 328), oKe P "__firstlineno__" 331 (Value.int 65 330), oKe P "__init__" 344 (.ref 112), oKe P "count" 351 (.ref 119), oKe P "reset" 358 (.ref 126), oKe P "at" 366 (.ref 133), oKe P "class_end" 377 (.ref 140), oKe P "in_set" 389 (.ref 147), oKe P "is_single" 401 (.ref 154), oKe P "match" 411 (.ref 161), oKe P "match_here" 426 (.ref 168), oKe P "match_special" 436 (.ref 175), oKe P "match_balance" 449 (.ref 182), oKe P "match_frontier" 461 (.ref 189), oKe P "expand_most" 473 (.ref 196), oKe P "expand_least" 484 (.ref 203), oKe P "start_capture" 495 (.ref 210), oKe P "end_capture" 506 (.ref 217), oKe P "to_close" 514 (.ref 224), oKe P "match_capture" 526 (.ref 231), oKe P "capture" 538 (.ref 238), oKe P "captures" 544 (.ref 243), oKe P "search" 556 (.ref 250), oKe P "__static_attributes__" 565 (.ref 251)] 25 }
noncomputable def obN102 : Obj := oFlds [oIv 67, oIv 4, .ref 111, oIv 78, oIv 4, .ref 118, oIv 82, oIv 4, .ref 125, oIv 88, oIv 4, .ref 132, oIv 91, oIv 4, .ref 139, oIv 113, oIv 4, .ref 146, oIv 134, oIv 4, .ref 153, oIv 146, oIv 4, .ref 160, oIv 155, oIv 4, .ref 167, oIv 193, oIv 4, .ref 174, oIv 200, oIv 4, .ref 181, oIv 220, oIv 4, .ref 188, oIv 230, oIv 4, .ref 195, oIv 242, oIv 4, .ref 202, oIv 251, oIv 4, .ref 209, oIv 262, oIv 4, .ref 216, oIv 270, oIv 4, .ref 223, oIv 278, oIv 4, .ref 230, oIv 288, oIv 4, .ref 237, oIv 298, oIv 4, .ref 242, oIv 302, oIv 4, .ref 249]
noncomputable def obN103 : Obj := oCo [oSv "Matcher" 322, oSv "Matcher" 323, oSv "/claim/cut.py" 324, oIv 65, oIv 0, oIv 0, oIv 0, oIv 0, .ref 101, .bool false, oIv 181, .ref 102, .none, .none, .none, .none, oIv 325, oIv 65, oSv "/claim/cut.py" 326]
noncomputable def obN104 : Obj := { cls := Value.type "frame", slots := #[some (.ref 103), some (.ref 3), some (.ref 100), none, some (oSv "lua.patterns" 220), none, some (.ref 0)] }
noncomputable def obN105 : Obj := oTup [Value.int 60 332, .none]
noncomputable def obN108 : Obj := oTup [oSv "self" 336, oSv "text" 337, oSv "pattern" 338, oSv "depth" 339, oSv "tick" 340, oSv "zero" 341]
noncomputable def obN110 : Obj := { cls := .none, data := Data.func { name := Str.ofString "__init__", qualname := Str.ofString "Matcher.__init__", params := (oAr oC27 0), body := FuncBody.stmts (oBo oC27 0), scope := (oSc oC27 0), globals := 0, closure := [], defaults := .none, kwdefaults := .none } }
noncomputable def obN111 : Obj := oCo [oSv "__init__" 333, oSv "Matcher.__init__" 334, oSv "/claim/cut.py" 335, oIv 67, oIv 5, oIv 0, oIv 0, oIv 3, .ref 106, .bool true, oIv 181, .ref 107, .none, .ref 108, .ref 109, .ref 110, oIv 342, oIv 67, oSv "/claim/cut.py" 343]
noncomputable def obN112 : Obj := { cls := Value.type "function", data := Data.func { name := Str.ofString "__init__", qualname := Str.ofString "Matcher.__init__", params := (oAr oC27 0), body := FuncBody.stmts (oBo oC27 0), scope := (oSc oC27 0), globals := 3, closure := [], defaults := .ref 105, kwdefaults := .none, pyModule := oSv "lua.patterns" 220, code := .ref 111 } }
noncomputable def obN115 : Obj := oTup [oSv "self" 348]
noncomputable def obN117 : Obj := { cls := .none, data := Data.func { name := Str.ofString "count", qualname := Str.ofString "Matcher.count", params := (oAr oC27 1), body := FuncBody.stmts (oBo oC27 1), scope := (oSc oC27 1), globals := 0, closure := [], defaults := .none, kwdefaults := .none } }
noncomputable def obN118 : Obj := oCo [oSv "count" 345, oSv "Matcher.count" 346, oSv "/claim/cut.py" 347, oIv 78, oIv 1, oIv 0, oIv 0, oIv 3, .ref 113, .bool true, oIv 181, .ref 114, .none, .ref 115, .ref 116, .ref 117, oIv 349, oIv 78, oSv "/claim/cut.py" 350]
noncomputable def obN119 : Obj := { cls := Value.type "function", data := Data.func { name := Str.ofString "count", qualname := Str.ofString "Matcher.count", params := (oAr oC27 1), body := FuncBody.stmts (oBo oC27 1), scope := (oSc oC27 1), globals := 3, closure := [], defaults := .none, kwdefaults := .none, pyModule := oSv "lua.patterns" 220, code := .ref 118 } }
noncomputable def obN122 : Obj := oTup [oSv "self" 355]
noncomputable def obN124 : Obj := { cls := .none, data := Data.func { name := Str.ofString "reset", qualname := Str.ofString "Matcher.reset", params := (oAr oC27 2), body := FuncBody.stmts (oBo oC27 2), scope := (oSc oC27 1), globals := 0, closure := [], defaults := .none, kwdefaults := .none } }
noncomputable def obN125 : Obj := oCo [oSv "reset" 352, oSv "Matcher.reset" 353, oSv "/claim/cut.py" 354, oIv 82, oIv 1, oIv 0, oIv 0, oIv 3, .ref 120, .bool true, oIv 181, .ref 121, .none, .ref 122, .ref 123, .ref 124, oIv 356, oIv 82, oSv "/claim/cut.py" 357]
noncomputable def obN126 : Obj := { cls := Value.type "function", data := Data.func { name := Str.ofString "reset", qualname := Str.ofString "Matcher.reset", params := (oAr oC27 2), body := FuncBody.stmts (oBo oC27 2), scope := (oSc oC27 1), globals := 3, closure := [], defaults := .none, kwdefaults := .none, pyModule := oSv "lua.patterns" 220, code := .ref 125 } }
noncomputable def obN129 : Obj := oTup [oSv "self" 362, oSv "p" 363]
noncomputable def obN131 : Obj := { cls := .none, data := Data.func { name := Str.ofString "at", qualname := Str.ofString "Matcher.at", params := (oAr oC27 3), body := FuncBody.stmts (oBo oC27 3), scope := (oSc oC27 3), globals := 0, closure := [], defaults := .none, kwdefaults := .none } }
noncomputable def obN132 : Obj := oCo [oSv "at" 359, oSv "Matcher.at" 360, oSv "/claim/cut.py" 361, oIv 88, oIv 2, oIv 0, oIv 0, oIv 3, .ref 127, .bool true, oIv 181, .ref 128, .none, .ref 129, .ref 130, .ref 131, oIv 364, oIv 88, oSv "/claim/cut.py" 365]
noncomputable def obN133 : Obj := { cls := Value.type "function", data := Data.func { name := Str.ofString "at", qualname := Str.ofString "Matcher.at", params := (oAr oC27 3), body := FuncBody.stmts (oBo oC27 3), scope := (oSc oC27 3), globals := 3, closure := [], defaults := .none, kwdefaults := .none, pyModule := oSv "lua.patterns" 220, code := .ref 132 } }
noncomputable def obN136 : Obj := oTup [oSv "self" 370, oSv "p" 371, oSv "first" 372, oSv "is_first" 373, oSv "is_escaped" 374]
noncomputable def obN138 : Obj := { cls := .none, data := Data.func { name := Str.ofString "class_end", qualname := Str.ofString "Matcher.class_end", params := (oAr oC27 4), body := FuncBody.stmts (oBo oC27 4), scope := (oSc oC27 4), globals := 0, closure := [], defaults := .none, kwdefaults := .none } }
noncomputable def obN139 : Obj := oCo [oSv "class_end" 367, oSv "Matcher.class_end" 368, oSv "/claim/cut.py" 369, oIv 91, oIv 2, oIv 0, oIv 0, oIv 3, .ref 134, .bool true, oIv 181, .ref 135, .none, .ref 136, .ref 137, .ref 138, oIv 375, oIv 91, oSv "/claim/cut.py" 376]
noncomputable def obN140 : Obj := { cls := Value.type "function", data := Data.func { name := Str.ofString "class_end", qualname := Str.ofString "Matcher.class_end", params := (oAr oC27 4), body := FuncBody.stmts (oBo oC27 4), scope := (oSc oC27 4), globals := 3, closure := [], defaults := .none, kwdefaults := .none, pyModule := oSv "lua.patterns" 220, code := .ref 139 } }
noncomputable def obN143 : Obj := oTup [oSv "self" 381, oSv "c" 382, oSv "p" 383, oSv "last" 384, oSv "is_wanted" 385, oSv "here" 386]
noncomputable def obN145 : Obj := { cls := .none, data := Data.func { name := Str.ofString "in_set", qualname := Str.ofString "Matcher.in_set", params := (oAr oC27 5), body := FuncBody.stmts (oBo oC27 5), scope := (oSc oC27 5), globals := 0, closure := [], defaults := .none, kwdefaults := .none } }
noncomputable def obN146 : Obj := oCo [oSv "in_set" 378, oSv "Matcher.in_set" 379, oSv "/claim/cut.py" 380, oIv 113, oIv 4, oIv 0, oIv 0, oIv 3, .ref 141, .bool true, oIv 181, .ref 142, .none, .ref 143, .ref 144, .ref 145, oIv 387, oIv 113, oSv "/claim/cut.py" 388]
noncomputable def obN147 : Obj := { cls := Value.type "function", data := Data.func { name := Str.ofString "in_set", qualname := Str.ofString "Matcher.in_set", params := (oAr oC27 5), body := FuncBody.stmts (oBo oC27 5), scope := (oSc oC27 5), globals := 3, closure := [], defaults := .none, kwdefaults := .none, pyModule := oSv "lua.patterns" 220, code := .ref 146 } }
noncomputable def obN150 : Obj := oTup [oSv "self" 393, oSv "s" 394, oSv "p" 395, oSv "end" 396, oSv "c" 397, oSv "first" 398]
noncomputable def obN152 : Obj := { cls := .none, data := Data.func { name := Str.ofString "is_single", qualname := Str.ofString "Matcher.is_single", params := (oAr oC27 6), body := FuncBody.stmts (oBo oC27 6), scope := (oSc oC27 6), globals := 0, closure := [], defaults := .none, kwdefaults := .none } }
noncomputable def obN153 : Obj := oCo [oSv "is_single" 390, oSv "Matcher.is_single" 391, oSv "/claim/cut.py" 392, oIv 134, oIv 4, oIv 0, oIv 0, oIv 3, .ref 148, .bool true, oIv 181, .ref 149, .none, .ref 150, .ref 151, .ref 152, oIv 399, oIv 134, oSv "/claim/cut.py" 400]
noncomputable def obN154 : Obj := { cls := Value.type "function", data := Data.func { name := Str.ofString "is_single", qualname := Str.ofString "Matcher.is_single", params := (oAr oC27 6), body := FuncBody.stmts (oBo oC27 6), scope := (oSc oC27 6), globals := 3, closure := [], defaults := .none, kwdefaults := .none, pyModule := oSv "lua.patterns" 220, code := .ref 153 } }
noncomputable def obN157 : Obj := oTup [oSv "self" 405, oSv "s" 406, oSv "p" 407, oSv "found" 408]
noncomputable def obN159 : Obj := { cls := .none, data := Data.func { name := Str.ofString "match", qualname := Str.ofString "Matcher.match", params := (oAr oC27 7), body := FuncBody.stmts (oBo oC27 7), scope := (oSc oC27 7), globals := 0, closure := [], defaults := .none, kwdefaults := .none } }
noncomputable def obN160 : Obj := oCo [oSv "match" 402, oSv "Matcher.match" 403, oSv "/claim/cut.py" 404, oIv 146, oIv 3, oIv 0, oIv 0, oIv 3, .ref 155, .bool true, oIv 181, .ref 156, .none, .ref 157, .ref 158, .ref 159, oIv 409, oIv 146, oSv "/claim/cut.py" 410]
noncomputable def obN161 : Obj := { cls := Value.type "function", data := Data.func { name := Str.ofString "match", qualname := Str.ofString "Matcher.match", params := (oAr oC27 7), body := FuncBody.stmts (oBo oC27 7), scope := (oSc oC27 7), globals := 3, closure := [], defaults := .none, kwdefaults := .none, pyModule := oSv "lua.patterns" 220, code := .ref 160 } }
noncomputable def obN164 : Obj := oTup [oSv "self" 415, oSv "s" 416, oSv "p" 417, oSv "first" 418, oSv "second" 419, oSv "end" 420, oSv "after" 421, oSv "is_here" 422, oSv "found" 423]
noncomputable def obN166 : Obj := { cls := .none, data := Data.func { name := Str.ofString "match_here", qualname := Str.ofString "Matcher.match_here", params := (oAr oC27 8), body := FuncBody.stmts (oBo oC27 8), scope := (oSc oC27 8), globals := 0, closure := [], defaults := .none, kwdefaults := .none } }
noncomputable def obN167 : Obj := oCo [oSv "match_here" 412, oSv "Matcher.match_here" 413, oSv "/claim/cut.py" 414, oIv 155, oIv 3, oIv 0, oIv 0, oIv 3, .ref 162, .bool true, oIv 181, .ref 163, .none, .ref 164, .ref 165, .ref 166, oIv 424, oIv 155, oSv "/claim/cut.py" 425]
noncomputable def obN168 : Obj := { cls := Value.type "function", data := Data.func { name := Str.ofString "match_here", qualname := Str.ofString "Matcher.match_here", params := (oAr oC27 8), body := FuncBody.stmts (oBo oC27 8), scope := (oSc oC27 8), globals := 3, closure := [], defaults := .none, kwdefaults := .none, pyModule := oSv "lua.patterns" 220, code := .ref 167 } }
noncomputable def obN171 : Obj := oTup [oSv "self" 430, oSv "s" 431, oSv "p" 432, oSv "letter" 433]
noncomputable def obN173 : Obj := { cls := .none, data := Data.func { name := Str.ofString "match_special", qualname := Str.ofString "Matcher.match_special", params := (oAr oC27 9), body := FuncBody.stmts (oBo oC27 9), scope := (oSc oC27 9), globals := 0, closure := [], defaults := .none, kwdefaults := .none } }
noncomputable def obN174 : Obj := oCo [oSv "match_special" 427, oSv "Matcher.match_special" 428, oSv "/claim/cut.py" 429, oIv 193, oIv 4, oIv 0, oIv 0, oIv 3, .ref 169, .bool true, oIv 181, .ref 170, .none, .ref 171, .ref 172, .ref 173, oIv 434, oIv 193, oSv "/claim/cut.py" 435]
noncomputable def obN175 : Obj := { cls := Value.type "function", data := Data.func { name := Str.ofString "match_special", qualname := Str.ofString "Matcher.match_special", params := (oAr oC27 9), body := FuncBody.stmts (oBo oC27 9), scope := (oSc oC27 9), globals := 3, closure := [], defaults := .none, kwdefaults := .none, pyModule := oSv "lua.patterns" 220, code := .ref 174 } }
noncomputable def obN178 : Obj := oTup [oSv "self" 440, oSv "s" 441, oSv "p" 442, oSv "begin" 443, oSv "end" 444, oSv "open_ones" 445, oSv "c" 446]
noncomputable def obN180 : Obj := { cls := .none, data := Data.func { name := Str.ofString "match_balance", qualname := Str.ofString "Matcher.match_balance", params := (oAr oC27 10), body := FuncBody.stmts (oBo oC27 10), scope := (oSc oC27 10), globals := 0, closure := [], defaults := .none, kwdefaults := .none } }
noncomputable def obN181 : Obj := oCo [oSv "match_balance" 437, oSv "Matcher.match_balance" 438, oSv "/claim/cut.py" 439, oIv 200, oIv 3, oIv 0, oIv 0, oIv 3, .ref 176, .bool true, oIv 181, .ref 177, .none, .ref 178, .ref 179, .ref 180, oIv 447, oIv 200, oSv "/claim/cut.py" 448]
noncomputable def obN182 : Obj := { cls := Value.type "function", data := Data.func { name := Str.ofString "match_balance", qualname := Str.ofString "Matcher.match_balance", params := (oAr oC27 10), body := FuncBody.stmts (oBo oC27 10), scope := (oSc oC27 10), globals := 3, closure := [], defaults := .none, kwdefaults := .none, pyModule := oSv "lua.patterns" 220, code := .ref 181 } }
noncomputable def obN185 : Obj := oTup [oSv "self" 453, oSv "s" 454, oSv "p" 455, oSv "end" 456, oSv "ahead" 457, oSv "here" 458]
noncomputable def obN187 : Obj := { cls := .none, data := Data.func { name := Str.ofString "match_frontier", qualname := Str.ofString "Matcher.match_frontier", params := (oAr oC27 11), body := FuncBody.stmts (oBo oC27 11), scope := (oSc oC27 11), globals := 0, closure := [], defaults := .none, kwdefaults := .none } }
noncomputable def obN188 : Obj := oCo [oSv "match_frontier" 450, oSv "Matcher.match_frontier" 451, oSv "/claim/cut.py" 452, oIv 220, oIv 3, oIv 0, oIv 0, oIv 3, .ref 183, .bool true, oIv 181, .ref 184, .none, .ref 185, .ref 186, .ref 187, oIv 459, oIv 220, oSv "/claim/cut.py" 460]
noncomputable def obN189 : Obj := { cls := Value.type "function", data := Data.func { name := Str.ofString "match_frontier", qualname := Str.ofString "Matcher.match_frontier", params := (oAr oC27 11), body := FuncBody.stmts (oBo oC27 11), scope := (oSc oC27 11), globals := 3, closure := [], defaults := .none, kwdefaults := .none, pyModule := oSv "lua.patterns" 220, code := .ref 188 } }
noncomputable def obN192 : Obj := oTup [oSv "self" 465, oSv "s" 466, oSv "p" 467, oSv "end" 468, oSv "many" 469, oSv "found" 470]
noncomputable def obN194 : Obj := { cls := .none, data := Data.func { name := Str.ofString "expand_most", qualname := Str.ofString "Matcher.expand_most", params := (oAr oC27 12), body := FuncBody.stmts (oBo oC27 12), scope := (oSc oC27 12), globals := 0, closure := [], defaults := .none, kwdefaults := .none } }
noncomputable def obN195 : Obj := oCo [oSv "expand_most" 462, oSv "Matcher.expand_most" 463, oSv "/claim/cut.py" 464, oIv 230, oIv 4, oIv 0, oIv 0, oIv 3, .ref 190, .bool true, oIv 181, .ref 191, .none, .ref 192, .ref 193, .ref 194, oIv 471, oIv 230, oSv "/claim/cut.py" 472]
noncomputable def obN196 : Obj := { cls := Value.type "function", data := Data.func { name := Str.ofString "expand_most", qualname := Str.ofString "Matcher.expand_most", params := (oAr oC27 12), body := FuncBody.stmts (oBo oC27 12), scope := (oSc oC27 12), globals := 3, closure := [], defaults := .none, kwdefaults := .none, pyModule := oSv "lua.patterns" 220, code := .ref 195 } }
noncomputable def obN199 : Obj := oTup [oSv "self" 477, oSv "s" 478, oSv "p" 479, oSv "end" 480, oSv "found" 481]
noncomputable def obN201 : Obj := { cls := .none, data := Data.func { name := Str.ofString "expand_least", qualname := Str.ofString "Matcher.expand_least", params := (oAr oC27 13), body := FuncBody.stmts (oBo oC27 13), scope := (oSc oC27 13), globals := 0, closure := [], defaults := .none, kwdefaults := .none } }
noncomputable def obN202 : Obj := oCo [oSv "expand_least" 474, oSv "Matcher.expand_least" 475, oSv "/claim/cut.py" 476, oIv 242, oIv 4, oIv 0, oIv 0, oIv 3, .ref 197, .bool true, oIv 181, .ref 198, .none, .ref 199, .ref 200, .ref 201, oIv 482, oIv 242, oSv "/claim/cut.py" 483]
noncomputable def obN203 : Obj := { cls := Value.type "function", data := Data.func { name := Str.ofString "expand_least", qualname := Str.ofString "Matcher.expand_least", params := (oAr oC27 13), body := FuncBody.stmts (oBo oC27 13), scope := (oSc oC27 13), globals := 3, closure := [], defaults := .none, kwdefaults := .none, pyModule := oSv "lua.patterns" 220, code := .ref 202 } }
noncomputable def obN206 : Obj := oTup [oSv "self" 488, oSv "s" 489, oSv "p" 490, oSv "kind" 491, oSv "found" 492]
noncomputable def obN208 : Obj := { cls := .none, data := Data.func { name := Str.ofString "start_capture", qualname := Str.ofString "Matcher.start_capture", params := (oAr oC27 14), body := FuncBody.stmts (oBo oC27 14), scope := (oSc oC27 14), globals := 0, closure := [], defaults := .none, kwdefaults := .none } }
noncomputable def obN209 : Obj := oCo [oSv "start_capture" 485, oSv "Matcher.start_capture" 486, oSv "/claim/cut.py" 487, oIv 251, oIv 4, oIv 0, oIv 0, oIv 3, .ref 204, .bool true, oIv 181, .ref 205, .none, .ref 206, .ref 207, .ref 208, oIv 493, oIv 251, oSv "/claim/cut.py" 494]
noncomputable def obN210 : Obj := { cls := Value.type "function", data := Data.func { name := Str.ofString "start_capture", qualname := Str.ofString "Matcher.start_capture", params := (oAr oC27 14), body := FuncBody.stmts (oBo oC27 14), scope := (oSc oC27 14), globals := 3, closure := [], defaults := .none, kwdefaults := .none, pyModule := oSv "lua.patterns" 220, code := .ref 209 } }
noncomputable def obN213 : Obj := oTup [oSv "self" 499, oSv "s" 500, oSv "p" 501, oSv "number" 502, oSv "found" 503]
noncomputable def obN215 : Obj := { cls := .none, data := Data.func { name := Str.ofString "end_capture", qualname := Str.ofString "Matcher.end_capture", params := (oAr oC27 15), body := FuncBody.stmts (oBo oC27 15), scope := (oSc oC27 15), globals := 0, closure := [], defaults := .none, kwdefaults := .none } }
noncomputable def obN216 : Obj := oCo [oSv "end_capture" 496, oSv "Matcher.end_capture" 497, oSv "/claim/cut.py" 498, oIv 262, oIv 3, oIv 0, oIv 0, oIv 3, .ref 211, .bool true, oIv 181, .ref 212, .none, .ref 213, .ref 214, .ref 215, oIv 504, oIv 262, oSv "/claim/cut.py" 505]
noncomputable def obN217 : Obj := { cls := Value.type "function", data := Data.func { name := Str.ofString "end_capture", qualname := Str.ofString "Matcher.end_capture", params := (oAr oC27 15), body := FuncBody.stmts (oBo oC27 15), scope := (oSc oC27 15), globals := 3, closure := [], defaults := .none, kwdefaults := .none, pyModule := oSv "lua.patterns" 220, code := .ref 216 } }
noncomputable def obN220 : Obj := oTup [oSv "self" 510, oSv "number" 511]
noncomputable def obN222 : Obj := { cls := .none, data := Data.func { name := Str.ofString "to_close", qualname := Str.ofString "Matcher.to_close", params := (oAr oC27 16), body := FuncBody.stmts (oBo oC27 16), scope := (oSc oC27 16), globals := 0, closure := [], defaults := .none, kwdefaults := .none } }
noncomputable def obN223 : Obj := oCo [oSv "to_close" 507, oSv "Matcher.to_close" 508, oSv "/claim/cut.py" 509, oIv 270, oIv 1, oIv 0, oIv 0, oIv 3, .ref 218, .bool true, oIv 181, .ref 219, .none, .ref 220, .ref 221, .ref 222, oIv 512, oIv 270, oSv "/claim/cut.py" 513]
noncomputable def obN224 : Obj := { cls := Value.type "function", data := Data.func { name := Str.ofString "to_close", qualname := Str.ofString "Matcher.to_close", params := (oAr oC27 16), body := FuncBody.stmts (oBo oC27 16), scope := (oSc oC27 16), globals := 3, closure := [], defaults := .none, kwdefaults := .none, pyModule := oSv "lua.patterns" 220, code := .ref 223 } }
noncomputable def obN227 : Obj := oTup [oSv "self" 518, oSv "s" 519, oSv "digit" 520, oSv "number" 521, oSv "size" 522, oSv "start" 523]
noncomputable def obN229 : Obj := { cls := .none, data := Data.func { name := Str.ofString "match_capture", qualname := Str.ofString "Matcher.match_capture", params := (oAr oC27 17), body := FuncBody.stmts (oBo oC27 17), scope := (oSc oC27 17), globals := 0, closure := [], defaults := .none, kwdefaults := .none } }
noncomputable def obN230 : Obj := oCo [oSv "match_capture" 515, oSv "Matcher.match_capture" 516, oSv "/claim/cut.py" 517, oIv 278, oIv 3, oIv 0, oIv 0, oIv 3, .ref 225, .bool true, oIv 181, .ref 226, .none, .ref 227, .ref 228, .ref 229, oIv 524, oIv 278, oSv "/claim/cut.py" 525]
noncomputable def obN231 : Obj := { cls := Value.type "function", data := Data.func { name := Str.ofString "match_capture", qualname := Str.ofString "Matcher.match_capture", params := (oAr oC27 17), body := FuncBody.stmts (oBo oC27 17), scope := (oSc oC27 17), globals := 3, closure := [], defaults := .none, kwdefaults := .none, pyModule := oSv "lua.patterns" 220, code := .ref 230 } }
noncomputable def obN234 : Obj := oTup [oSv "self" 530, oSv "number" 531, oSv "s" 532, oSv "end" 533, oSv "size" 534, oSv "start" 535]
noncomputable def obN236 : Obj := { cls := .none, data := Data.func { name := Str.ofString "capture", qualname := Str.ofString "Matcher.capture", params := (oAr oC27 18), body := FuncBody.stmts (oBo oC27 18), scope := (oSc oC27 18), globals := 0, closure := [], defaults := .none, kwdefaults := .none } }
noncomputable def obN237 : Obj := oCo [oSv "capture" 527, oSv "Matcher.capture" 528, oSv "/claim/cut.py" 529, oIv 288, oIv 4, oIv 0, oIv 0, oIv 3, .ref 232, .bool true, oIv 181, .ref 233, .none, .ref 234, .ref 235, .ref 236, oIv 536, oIv 288, oSv "/claim/cut.py" 537]
noncomputable def obN238 : Obj := { cls := Value.type "function", data := Data.func { name := Str.ofString "capture", qualname := Str.ofString "Matcher.capture", params := (oAr oC27 18), body := FuncBody.stmts (oBo oC27 18), scope := (oSc oC27 18), globals := 3, closure := [], defaults := .none, kwdefaults := .none, pyModule := oSv "lua.patterns" 220, code := .ref 237 } }
noncomputable def obN241 : Obj := { cls := .none, data := Data.func { name := Str.ofString "captures", qualname := Str.ofString "Matcher.captures", params := (oAr oC27 19), body := FuncBody.stmts (oBo oC27 19), scope := (oSc oC27 19), globals := 0, closure := [], defaults := .none, kwdefaults := .none } }
noncomputable def obN242 : Obj := oCo [oSv "captures" 539, oSv "Matcher.captures" 540, oSv "/claim/cut.py" 541, oIv 298, oIv 4, oIv 0, oIv 0, oIv 3, .ref 239, .bool true, oIv 181, .ref 240, .none, .none, .none, .ref 241, oIv 542, oIv 298, oSv "/claim/cut.py" 543]
noncomputable def obN243 : Obj := { cls := Value.type "function", data := Data.func { name := Str.ofString "captures", qualname := Str.ofString "Matcher.captures", params := (oAr oC27 19), body := FuncBody.stmts (oBo oC27 19), scope := (oSc oC27 19), globals := 3, closure := [], defaults := .none, kwdefaults := .none, pyModule := oSv "lua.patterns" 220, code := .ref 242 } }
noncomputable def obN246 : Obj := oTup [oSv "self" 548, oSv "init" 549, oSv "p" 550, oSv "is_anchored" 551, oSv "s" 552, oSv "end" 553]
noncomputable def obN248 : Obj := { cls := .none, data := Data.func { name := Str.ofString "search", qualname := Str.ofString "Matcher.search", params := (oAr oC27 20), body := FuncBody.stmts (oBo oC27 20), scope := (oSc oC27 20), globals := 0, closure := [], defaults := .none, kwdefaults := .none } }
noncomputable def obN249 : Obj := oCo [oSv "search" 545, oSv "Matcher.search" 546, oSv "/claim/cut.py" 547, oIv 302, oIv 4, oIv 0, oIv 0, oIv 3, .ref 244, .bool true, oIv 181, .ref 245, .none, .ref 246, .ref 247, .ref 248, oIv 554, oIv 302, oSv "/claim/cut.py" 555]
noncomputable def obN250 : Obj := { cls := Value.type "function", data := Data.func { name := Str.ofString "search", qualname := Str.ofString "Matcher.search", params := (oAr oC27 20), body := FuncBody.stmts (oBo oC27 20), scope := (oSc oC27 20), globals := 3, closure := [], defaults := .none, kwdefaults := .none, pyModule := oSv "lua.patterns" 220, code := .ref 249 } }
noncomputable def obN251 : Obj := oTup [oSv "depth" 557, oSv "lengths" 558, oSv "level" 559, oSv "most_depth" 560, oSv "pattern" 561, oSv "starts" 562, oSv "text" 563, oSv "tick" 564]
noncomputable def obN252 (P : Params) : Obj := { cls := Value.type "dict", data := Data.dict #[oKe P "__module__" 327 (oSv "lua.patterns" 220), oKe P "__firstlineno__" 331 (Value.int 65 330), oKe P "__init__" 344 (.ref 112), oKe P "count" 351 (.ref 119), oKe P "reset" 358 (.ref 126), oKe P "at" 366 (.ref 133), oKe P "class_end" 377 (.ref 140), oKe P "in_set" 389 (.ref 147), oKe P "is_single" 401 (.ref 154), oKe P "match" 411 (.ref 161), oKe P "match_here" 426 (.ref 168), oKe P "match_special" 436 (.ref 175), oKe P "match_balance" 449 (.ref 182), oKe P "match_frontier" 461 (.ref 189), oKe P "expand_most" 473 (.ref 196), oKe P "expand_least" 484 (.ref 203), oKe P "start_capture" 495 (.ref 210), oKe P "end_capture" 506 (.ref 217), oKe P "to_close" 514 (.ref 224), oKe P "match_capture" 526 (.ref 231), oKe P "capture" 538 (.ref 238), oKe P "captures" 544 (.ref 243), oKe P "search" 556 (.ref 250), oKe P "__static_attributes__" 565 (.ref 251), oKe P "__dict__" 567 (.ref 254), oKe P "__weakref__" 569 (.ref 255), oKe P "__doc__" 570 (.none)] 4 }
noncomputable def obN253 : Obj := { cls := Value.type "type", data := Data.cls { name := Str.ofString "Matcher", bases := [Value.type "object"], mro := [.ref 253, Value.type "object"], ns := 252, qualname := Str.ofString "Matcher" }, slots := #[none, none, some (oSv "Matcher" 320), some (oSv "Matcher" 328), some (Value.builtin "object.__new__"), some (.bool true)] }
noncomputable def obN254 : Obj := { cls := Value.type "getset_descriptor", data := Data.fields #[oSv "__dict__" 566, .ref 253, Value.builtin "function.__dict__", Value.builtin "function.__dict__#set"] }
noncomputable def obN255 : Obj := { cls := Value.type "getset_descriptor", data := Data.fields #[oSv "__weakref__" 568, .ref 253, Value.builtin "ExceptionGroup.__weakref__", .none] }
noncomputable def obN256 : Obj := { cls := Value.type "super", data := Data.fields #[.ref 253, .ref 253, .ref 253] }
noncomputable def obN257 : Obj := { cls := Value.type "builtin_function_or_method", data := Data.fields #[Value.builtin "object.__init_subclass__", .ref 253] }
noncomputable def obZ3 (P : Params) : Obj := { cls := Value.type "dict", data := Data.dict #[oKe P "__name__" 165 (oSv "law_sm0059_01" 573), oKe P "__doc__" 166 (.none), oKe P "__package__" 167 (.none), oKe P "__loader__" 168 (Value.builtin "__main__.__loader__#opaque"), oKe P "__spec__" 169 (.none), oKe P "__annotations__" 170 (.ref 6), oKe P "__builtins__" 171 (.ref 4), oKe P "__file__" 173 (oSv "/claim/cut.py" 172), oKe P "__cached__" 174 (.none), oKe P "LuaError" 219 (.ref 31), oKe P "MOST_CAPTURES" 223 (Value.int 32 222), oKe P "UNFINISHED" 226 (Value.int (-1) 225), oKe P "POSITION" 229 (Value.int (-2) 228), oKe P "ESCAPE" 231 (Value.int 37 230), oKe P "CARET" 233 (Value.int 94 232), oKe P "DOLLAR" 235 (Value.int 36 234), oKe P "DOT" 237 (Value.int 46 236), oKe P "OPEN" 239 (Value.int 40 238), oKe P "CLOSE" 241 (Value.int 41 240), oKe P "SET_OPEN" 243 (Value.int 91 242), oKe P "SET_CLOSE" 245 (Value.int 93 244), oKe P "STAR" 247 (Value.int 42 246), oKe P "PLUS" 249 (Value.int 43 248), oKe P "MINUS" 251 (Value.int 45 250), oKe P "MARK" 253 (Value.int 63 252), oKe P "is_lower" 260 (.ref 41), oKe P "is_upper" 267 (.ref 48), oKe P "is_alpha" 274 (.ref 55), oKe P "is_digit" 281 (.ref 62), oKe P "is_space" 288 (.ref 69), oKe P "is_control" 295 (.ref 76), oKe P "is_punctuation" 302 (.ref 83), oKe P "is_hex" 309 (.ref 90), oKe P "in_class" 319 (.ref 97), oKe P "Matcher" 572 (.ref 253), oKe P "_law_trickled" 584 (.ref 264), oKe P "_law_answer" 598 (.ref 271), oKe P "law" 604 (.ref 276)] 38 }
noncomputable def obZ12 : Obj := oFlds [oIv 2, oIv 0, .ref 20, oIv 24, oIv 0, .ref 40, oIv 26, oIv 0, .ref 47, oIv 28, oIv 0, .ref 54, oIv 30, oIv 0, .ref 61, oIv 32, oIv 0, .ref 68, oIv 34, oIv 0, .ref 75, oIv 36, oIv 0, .ref 82, oIv 38, oIv 0, .ref 89, oIv 40, oIv 0, .ref 96, oIv 65, oIv 0, .ref 103, oIv 314, oIv 0, .ref 263, oIv 318, oIv 0, .ref 270, oIv 330, oIv 0, .ref 275]
noncomputable def obZ260 : Obj := oTup [oSv "drain" 578, oSv "many" 579, oSv "cells" 580, oSv "turn" 581]
noncomputable def obZ262 : Obj := { cls := .none, data := Data.func { name := Str.ofString "_law_trickled", qualname := Str.ofString "_law_trickled", params := (oAr oTop 29), body := FuncBody.stmts (oBo oTop 29), scope := (oSc oTop 29), globals := 0, closure := [], defaults := .none, kwdefaults := .none } }
noncomputable def obZ263 : Obj := oCo [oSv "_law_trickled" 575, oSv "_law_trickled" 576, oSv "/claim/cut.py" 577, oIv 314, oIv 2, oIv 0, oIv 0, oIv 3, .ref 258, .bool true, oIv 181, .ref 259, .none, .ref 260, .ref 261, .ref 262, oIv 582, oIv 314, oSv "/claim/cut.py" 583]
noncomputable def obZ264 : Obj := { cls := Value.type "function", data := Data.func { name := Str.ofString "_law_trickled", qualname := Str.ofString "_law_trickled", params := (oAr oTop 29), body := FuncBody.stmts (oBo oTop 29), scope := (oSc oTop 29), globals := 3, closure := [], defaults := .none, kwdefaults := .none, pyModule := oSv "law_sm0059_01" 573, code := .ref 263 } }
noncomputable def obZ267 : Obj := oTup [oSv "matcher" 588, oSv "asking" 589, oSv "first" 590, oSv "kind" 591, oSv "place" 592, oSv "is_bound" 593, oSv "end" 594, oSv "found" 595]
noncomputable def obZ269 : Obj := { cls := .none, data := Data.func { name := Str.ofString "_law_answer", qualname := Str.ofString "_law_answer", params := (oAr oTop 30), body := FuncBody.stmts (oBo oTop 30), scope := (oSc oTop 30), globals := 0, closure := [], defaults := .none, kwdefaults := .none } }
noncomputable def obZ270 : Obj := oCo [oSv "_law_answer" 585, oSv "_law_answer" 586, oSv "/claim/cut.py" 587, oIv 318, oIv 3, oIv 0, oIv 0, oIv 3, .ref 265, .bool true, oIv 181, .ref 266, .none, .ref 267, .ref 268, .ref 269, oIv 596, oIv 318, oSv "/claim/cut.py" 597]
noncomputable def obZ271 : Obj := { cls := Value.type "function", data := Data.func { name := Str.ofString "_law_answer", qualname := Str.ofString "_law_answer", params := (oAr oTop 30), body := FuncBody.stmts (oBo oTop 30), scope := (oSc oTop 30), globals := 3, closure := [], defaults := .none, kwdefaults := .none, pyModule := oSv "law_sm0059_01" 573, code := .ref 270 } }
noncomputable def obZ274 : Obj := { cls := .none, data := Data.func { name := Str.ofString "law", qualname := Str.ofString "law", params := (oAr oTop 31), body := FuncBody.stmts (oBo oTop 31), scope := (oSc oTop 31), globals := 0, closure := [], defaults := .none, kwdefaults := .none } }
noncomputable def obZ275 : Obj := oCo [oSv "law" 599, oSv "law" 600, oSv "/claim/cut.py" 601, oIv 330, oIv 1, oIv 0, oIv 0, oIv 3, .ref 272, .bool true, oIv 181, .ref 273, .none, .none, .none, .ref 274, oIv 602, oIv 330, oSv "/claim/cut.py" 603]
noncomputable def obZ276 : Obj := { cls := Value.type "function", data := Data.func { name := Str.ofString "law", qualname := Str.ofString "law", params := (oAr oTop 31), body := FuncBody.stmts (oBo oTop 31), scope := (oSc oTop 31), globals := 3, closure := [], defaults := .none, kwdefaults := .none, pyModule := oSv "law_sm0059_01" 573, code := .ref 275 } }
noncomputable def treeM (P : Params) : BT := (.node (boot_o_0 P) (.node (boot_o_1 P) (.node (obM3 P) (.node (boot_o_7 P) (.node obM15 (.node obM31 (.node obM18 .nil .nil) (.node obM95 .nil .nil)) (.node obM47 (.node obM79 .nil .nil) .nil)) (.node obM23 (.node obM39 (.node obM23 .nil .nil) .nil) (.node obM55 (.node obM18 .nil .nil) .nil))) (.node (topO11 P) (.node obM19 (.node obM18 (.node obM67 .nil .nil) .nil) (.node obM51 (.node obM83 .nil .nil) .nil)) (.node obM27 (.node obM23 (.node obM75 .nil .nil) .nil) (.node obM18 (.node obM18 .nil .nil) .nil)))) (.node (boot_o_5 P) (.node (boot_o_9 P) (.node (obM17 P) (.node obM33 (.node obM65 .nil .nil) (.node obM97 .nil .nil)) (.node obM18 (.node obM81 .nil .nil) .nil)) (.node obM18 (.node obM41 (.node obM18 .nil .nil) .nil) (.node obM23 (.node obM89 .nil .nil) .nil))) (.node (topO13 P) (.node obM21 (.node obM37 (.node obM69 .nil .nil) .nil) (.node obM53 (.node obM23 .nil .nil) .nil)) (.node obM29 (.node obM18 (.node obM18 .nil .nil) .nil) (.node obM61 (.node obM93 .nil .nil) .nil))))) (.node (obM2 P) (.node (boot_o_4 P) (.node (boot_o_8 P) (.node obM16 (.node obM32 (.node obM23 .nil .nil) (.node obM96 .nil .nil)) (.node obM48 (.node obM18 .nil .nil) .nil)) (.node obM24 (.node obM40 (.node obM72 .nil .nil) .nil) (.node obM18 (.node obM88 .nil .nil) .nil))) (.node obM12 (.node obM20 (.node obM23 (.node obM68 .nil .nil) .nil) (.node obM18 (.node obM18 .nil .nil) .nil)) (.node obM28 (.node obM44 (.node obM76 .nil .nil) .nil) (.node obM60 (.node obM23 .nil .nil) .nil)))) (.node (boot_o_6 P) (.node (boot_o_10 P) (.node obM18 (.node obM34 (.node obM18 .nil .nil) .nil) (.node obM23 (.node obM82 .nil .nil) .nil)) (.node obM26 (.node obM18 (.node obM74 .nil .nil) .nil) (.node obM58 (.node obM90 .nil .nil) .nil))) (.node (topO14 P) (.node obM18 (.node obM18 (.node obM18 .nil .nil) .nil) (.node obM54 (.node obM86 .nil .nil) .nil)) (.node (obM30 P) (.node obM46 (.node obM23 .nil .nil) .nil) (.node obM62 (.node obM18 .nil .nil) .nil))))))
noncomputable def treeN (P : Params) : BT := (.node (boot_o_0 P) (.node (boot_o_1 P) (.node (obN3 P) (.node (boot_o_7 P) (.node obM15 (.node obM31 (.node obM18 (.node obM18 (.node obN255 .nil .nil) .nil) (.node obM23 .nil .nil)) (.node obM95 (.node obN159 .nil .nil) (.node obN223 .nil .nil))) (.node obM47 (.node obM79 (.node obN143 .nil .nil) (.node obM18 .nil .nil)) (.node obN111 (.node obN175 .nil .nil) (.node obM18 .nil .nil)))) (.node obM23 (.node obM39 (.node obM23 (.node obM23 .nil .nil) (.node obN199 .nil .nil)) (.node obN103 (.node obN167 .nil .nil) (.node obN231 .nil .nil))) (.node obM55 (.node obM18 (.node obM18 .nil .nil) (.node obN215 .nil .nil)) (.node obN119 (.node obM18 .nil .nil) (.node obM18 .nil .nil))))) (.node (topO11 P) (.node obM19 (.node obM18 (.node obM67 (.node obN131 .nil .nil) (.node obN195 .nil .nil)) (.node obM16 (.node obM23 .nil .nil) (.node obN227 .nil .nil))) (.node obM51 (.node obM83 (.node obN147 .nil .nil) (.node obM18 .nil .nil)) (.node obN115 (.node obM18 .nil .nil) (.node obN243 .nil .nil)))) (.node obM27 (.node obM23 (.node obM75 (.node obN139 .nil .nil) (.node obN203 .nil .nil)) (.node obM23 (.node obN171 .nil .nil) (.node obM18 .nil .nil))) (.node obM18 (.node obM18 (.node obM18 .nil .nil) (.node obM23 .nil .nil)) (.node obM18 (.node obN187 .nil .nil) (.node obN251 .nil .nil)))))) (.node (boot_o_5 P) (.node (boot_o_9 P) (.node (obM17 P) (.node obM33 (.node obM65 (.node obN129 (.node obN257 .nil .nil) .nil) (.node obM18 .nil .nil)) (.node obM97 (.node obN161 .nil .nil) (.node obM18 .nil .nil))) (.node obM18 (.node obM81 (.node obN145 .nil .nil) (.node obN209 .nil .nil)) (.node obM18 (.node obM23 .nil .nil) (.node obN241 .nil .nil)))) (.node obM18 (.node obM41 (.node obM18 (.node obM18 .nil .nil) (.node obN201 .nil .nil)) (.node obN105 (.node obM18 .nil .nil) (.node obM23 .nil .nil))) (.node obM23 (.node obM89 (.node obN153 .nil .nil) (.node obN217 .nil .nil)) (.node obM23 (.node obN185 .nil .nil) (.node obN249 .nil .nil))))) (.node (topO13 P) (.node obM21 (.node obM37 (.node obM69 (.node obN133 .nil .nil) (.node obM18 .nil .nil)) (.node obM18 (.node obM18 .nil .nil) (.node obN229 .nil .nil))) (.node obM53 (.node obM23 (.node obM23 .nil .nil) (.node obN213 .nil .nil)) (.node obN117 (.node obN181 .nil .nil) (.node obM23 .nil .nil)))) (.node obM29 (.node obM18 (.node obM18 (.node obM18 .nil .nil) (.node obM23 .nil .nil)) (.node obM18 (.node obN173 .nil .nil) (.node obN237 .nil .nil))) (.node obM61 (.node obM93 (.node obN157 .nil .nil) (.node obM18 .nil .nil)) (.node obN125 (.node obN189 .nil .nil) (.node obN253 .nil .nil))))))) (.node (obM2 P) (.node (boot_o_4 P) (.node (boot_o_8 P) (.node obM16 (.node obM32 (.node obM23 (.node obM23 (.node obN256 .nil .nil) .nil) (.node obN192 .nil .nil)) (.node obM96 (.node obN160 .nil .nil) (.node obN224 .nil .nil))) (.node obM48 (.node obM18 (.node obM18 .nil .nil) (.node obN208 .nil .nil)) (.node obN112 (.node obM18 .nil .nil) (.node obM23 .nil .nil)))) (.node obM24 (.node obM40 (.node obM72 (.node obN136 .nil .nil) (.node obM18 .nil .nil)) (.node obN104 (.node obN168 .nil .nil) (.node obM18 .nil .nil))) (.node obM18 (.node obM88 (.node obN152 .nil .nil) (.node obN216 .nil .nil)) (.node obM18 (.node obM23 .nil .nil) (.node obN248 .nil .nil))))) (.node obN12 (.node obM20 (.node obM23 (.node obM68 (.node obN132 .nil .nil) (.node obN196 .nil .nil)) (.node (obN100 P) (.node obN164 .nil .nil) (.node obM18 .nil .nil))) (.node obM18 (.node obM18 (.node obM18 .nil .nil) (.node obM23 .nil .nil)) (.node obM18 (.node obN180 .nil .nil) (.node obM18 .nil .nil)))) (.node obM28 (.node obM44 (.node obM76 (.node obN140 .nil .nil) (.node obM18 .nil .nil)) (.node obN108 (.node obM18 .nil .nil) (.node obN236 .nil .nil))) (.node obM60 (.node obM23 (.node obM23 .nil .nil) (.node obN220 .nil .nil)) (.node obN124 (.node obN188 .nil .nil) (.node (obN252 P) .nil .nil)))))) (.node (boot_o_6 P) (.node (boot_o_10 P) (.node obM18 (.node obM34 (.node obM18 (.node obM18 .nil .nil) (.node obN194 .nil .nil)) (.node obM18 (.node obM18 .nil .nil) (.node obM23 .nil .nil))) (.node obM23 (.node obM82 (.node obN146 .nil .nil) (.node obN210 .nil .nil)) (.node obM23 (.node obN178 .nil .nil) (.node obN242 .nil .nil)))) (.node obM26 (.node obM18 (.node obM74 (.node obN138 .nil .nil) (.node obN202 .nil .nil)) (.node obM18 (.node obM23 .nil .nil) (.node obN234 .nil .nil))) (.node obM58 (.node obM90 (.node obN154 .nil .nil) (.node obM18 .nil .nil)) (.node obN122 (.node obM18 .nil .nil) (.node obN250 .nil .nil))))) (.node (topO14 P) (.node obM18 (.node obM18 (.node obM18 (.node obM18 .nil .nil) (.node obM23 .nil .nil)) (.node obN102 (.node obN166 .nil .nil) (.node obN230 .nil .nil))) (.node obM54 (.node obM86 (.node obN150 .nil .nil) (.node obM18 .nil .nil)) (.node obN118 (.node obN182 .nil .nil) (.node obN246 .nil .nil)))) (.node (obM30 P) (.node obM46 (.node obM23 (.node obM23 .nil .nil) (.node obN206 .nil .nil)) (.node obN110 (.node obN174 .nil .nil) (.node obN238 .nil .nil))) (.node obM62 (.node obM18 (.node obM18 .nil .nil) (.node obN222 .nil .nil)) (.node obN126 (.node obM18 .nil .nil) (.node obN254 .nil .nil))))))))
noncomputable def treeZ (P : Params) : BT := (.node (boot_o_0 P) (.node (boot_o_1 P) (.node (obZ3 P) (.node (boot_o_7 P) (.node obM15 (.node obM31 (.node obM18 (.node obM18 (.node obN255 .nil .nil) .nil) (.node obM23 .nil .nil)) (.node obM95 (.node obN159 .nil .nil) (.node obN223 .nil .nil))) (.node obM47 (.node obM79 (.node obN143 (.node obZ271 .nil .nil) .nil) (.node obM18 .nil .nil)) (.node obN111 (.node obN175 .nil .nil) (.node obM18 .nil .nil)))) (.node obM23 (.node obM39 (.node obM23 (.node obM23 (.node obZ263 .nil .nil) .nil) (.node obN199 .nil .nil)) (.node obN103 (.node obN167 .nil .nil) (.node obN231 .nil .nil))) (.node obM55 (.node obM18 (.node obM18 .nil .nil) (.node obN215 .nil .nil)) (.node obN119 (.node obM18 .nil .nil) (.node obM18 .nil .nil))))) (.node (topO11 P) (.node obM19 (.node obM18 (.node obM67 (.node obN131 (.node obM23 .nil .nil) .nil) (.node obN195 .nil .nil)) (.node obM16 (.node obM23 .nil .nil) (.node obN227 .nil .nil))) (.node obM51 (.node obM83 (.node obN147 (.node obZ275 .nil .nil) .nil) (.node obM18 .nil .nil)) (.node obN115 (.node obM18 .nil .nil) (.node obN243 .nil .nil)))) (.node obM27 (.node obM23 (.node obM75 (.node obN139 (.node obZ267 .nil .nil) .nil) (.node obN203 .nil .nil)) (.node obM23 (.node obN171 .nil .nil) (.node obM18 .nil .nil))) (.node obM18 (.node obM18 (.node obM18 .nil .nil) (.node obM23 .nil .nil)) (.node obM18 (.node obN187 .nil .nil) (.node obN251 .nil .nil)))))) (.node (boot_o_5 P) (.node (boot_o_9 P) (.node (obM17 P) (.node obM33 (.node obM65 (.node obN129 (.node obN257 .nil .nil) .nil) (.node obM18 .nil .nil)) (.node obM97 (.node obN161 .nil .nil) (.node obM18 .nil .nil))) (.node obM18 (.node obM81 (.node obN145 (.node obM23 .nil .nil) .nil) (.node obN209 .nil .nil)) (.node obM18 (.node obM23 .nil .nil) (.node obN241 .nil .nil)))) (.node obM18 (.node obM41 (.node obM18 (.node obM18 (.node obM18 .nil .nil) .nil) (.node obN201 .nil .nil)) (.node obN105 (.node obM18 .nil .nil) (.node obM23 .nil .nil))) (.node obM23 (.node obM89 (.node obN153 .nil .nil) (.node obN217 .nil .nil)) (.node obM23 (.node obN185 .nil .nil) (.node obN249 .nil .nil))))) (.node (topO13 P) (.node obM21 (.node obM37 (.node obM69 (.node obN133 (.node obM18 .nil .nil) .nil) (.node obM18 .nil .nil)) (.node obM18 (.node obM18 .nil .nil) (.node obN229 .nil .nil))) (.node obM53 (.node obM23 (.node obM23 .nil .nil) (.node obN213 .nil .nil)) (.node obN117 (.node obN181 .nil .nil) (.node obM23 .nil .nil)))) (.node obM29 (.node obM18 (.node obM18 (.node obM18 (.node obZ269 .nil .nil) .nil) (.node obM23 .nil .nil)) (.node obM18 (.node obN173 .nil .nil) (.node obN237 .nil .nil))) (.node obM61 (.node obM93 (.node obN157 .nil .nil) (.node obM18 .nil .nil)) (.node obN125 (.node obN189 .nil .nil) (.node obN253 .nil .nil))))))) (.node (obM2 P) (.node (boot_o_4 P) (.node (boot_o_8 P) (.node obM16 (.node obM32 (.node obM23 (.node obM23 (.node obN256 .nil .nil) .nil) (.node obN192 .nil .nil)) (.node obM96 (.node obN160 .nil .nil) (.node obN224 .nil .nil))) (.node obM48 (.node obM18 (.node obM18 (.node obM18 .nil .nil) .nil) (.node obN208 .nil .nil)) (.node obN112 (.node obM18 .nil .nil) (.node obM23 .nil .nil)))) (.node obM24 (.node obM40 (.node obM72 (.node obN136 (.node obZ264 .nil .nil) .nil) (.node obM18 .nil .nil)) (.node obN104 (.node obN168 .nil .nil) (.node obM18 .nil .nil))) (.node obM18 (.node obM88 (.node obN152 .nil .nil) (.node obN216 .nil .nil)) (.node obM18 (.node obM23 .nil .nil) (.node obN248 .nil .nil))))) (.node obZ12 (.node obM20 (.node obM23 (.node obM68 (.node obN132 (.node obZ260 .nil .nil) .nil) (.node obN196 .nil .nil)) (.node (obN100 P) (.node obN164 .nil .nil) (.node obM18 .nil .nil))) (.node obM18 (.node obM18 (.node obM18 (.node obZ276 .nil .nil) .nil) (.node obM23 .nil .nil)) (.node obM18 (.node obN180 .nil .nil) (.node obM18 .nil .nil)))) (.node obM28 (.node obM44 (.node obM76 (.node obN140 (.node obM18 .nil .nil) .nil) (.node obM18 .nil .nil)) (.node obN108 (.node obM18 .nil .nil) (.node obN236 .nil .nil))) (.node obM60 (.node obM23 (.node obM23 .nil .nil) (.node obN220 .nil .nil)) (.node obN124 (.node obN188 .nil .nil) (.node (obN252 P) .nil .nil)))))) (.node (boot_o_6 P) (.node (boot_o_10 P) (.node obM18 (.node obM34 (.node obM18 (.node obM18 (.node obM18 .nil .nil) .nil) (.node obN194 .nil .nil)) (.node obM18 (.node obM18 .nil .nil) (.node obM23 .nil .nil))) (.node obM23 (.node obM82 (.node obN146 (.node obZ274 .nil .nil) .nil) (.node obN210 .nil .nil)) (.node obM23 (.node obN178 .nil .nil) (.node obN242 .nil .nil)))) (.node obM26 (.node obM18 (.node obM74 (.node obN138 (.node obM23 .nil .nil) .nil) (.node obN202 .nil .nil)) (.node obM18 (.node obM23 .nil .nil) (.node obN234 .nil .nil))) (.node obM58 (.node obM90 (.node obN154 .nil .nil) (.node obM18 .nil .nil)) (.node obN122 (.node obM18 .nil .nil) (.node obN250 .nil .nil))))) (.node (topO14 P) (.node obM18 (.node obM18 (.node obM18 (.node obM18 (.node obZ262 .nil .nil) .nil) (.node obM23 .nil .nil)) (.node obN102 (.node obN166 .nil .nil) (.node obN230 .nil .nil))) (.node obM54 (.node obM86 (.node obN150 .nil .nil) (.node obM18 .nil .nil)) (.node obN118 (.node obN182 .nil .nil) (.node obN246 .nil .nil)))) (.node (obM30 P) (.node obM46 (.node obM23 (.node obM23 (.node obZ270 .nil .nil) .nil) (.node obN206 .nil .nil)) (.node obN110 (.node obN174 .nil .nil) (.node obN238 .nil .nil))) (.node obM62 (.node obM18 (.node obM18 .nil .nil) (.node obN222 .nil .nil)) (.node obN126 (.node obM18 .nil .nil) (.node obN254 .nil .nil))))))))
noncomputable abbrev sharedM (w : World) (os : OsState) : SharedT := { tree := treeM w.params, n := 98, life := { }, gens := { toList := [] }, drawn := { }, toks := 320, os := os }
noncomputable abbrev sharedN (w : World) (os : OsState) : SharedT := { tree := treeN w.params, n := 258, life := { }, gens := { toList := [] }, drawn := { }, toks := 573, os := os }
noncomputable abbrev sharedZ (w : World) (os : OsState) : SharedT := { tree := treeZ w.params, n := 277, life := { }, gens := { toList := [] }, drawn := { }, toks := 605, os := os }
noncomputable abbrev heapZ (P : Params) : Heap := absHeap (treeZ P) 277 { }
abbrev posM : Pos := ⟨40, 0, 64, 51⟩
abbrev posN : Pos := ⟨65, 0, 312, 19⟩
abbrev posZ : Pos := ⟨330, 0, 345, 15⟩
theorem seg_M (w : World) (os : OsState) : segRunT treeTable oPrg w 11 (some (.ref 6)) 1 900 (sharedA w os) (piecesOf (oTop.take 27) envTop codeTop ⟨0, 0, 0, 0⟩ [topFrame ⟨0, 0, 0, 0⟩]) = some (.next, sharedM w os, codeTop, posM) := by
  rw [PySem.W.Fast.te10110043849684766642, PySem.W.Fast.te14364793385576792824]
  kernel_rfl
theorem seg_N (w : World) (os : OsState) : segRunT treeTable oPrg w 11 (some (.ref 6)) 1 1000 (sharedM w os) (piecesOf ((oTop.drop 27).take 1) envTop codeTop posM [topFrame ⟨0, 0, 0, 0⟩]) = some (.next, sharedN w os, codeTop, posN) := by
  rw [PySem.W.Fast.te10110043849684766642, PySem.W.Fast.te14364793385576792824]
  kernel_rfl
theorem seg_Z (w : World) (os : OsState) : segRunT treeTable oPrg w 11 (some (.ref 6)) 1 200 (sharedN w os) (piecesOf ((oTop.drop 27).drop 1) envTop codeTop posN [topFrame ⟨0, 0, 0, 0⟩]) = some (.next, sharedZ w os, codeTop, posZ) := by
  rw [PySem.W.Fast.te10110043849684766642, PySem.W.Fast.te14364793385576792824]
  kernel_rfl
theorem top_run (w : World) (os : OsState) : topRun treeTable oPrg w 11 (some (.ref 6)) (12 + (1 + (900 + (1000 + (200 + 2))))) ⟨boot_heap w.params, Array.mk [], boot_drawn, boot_toks, os⟩ (topStub oPrg) =
    some ⟨heapZ w.params, { toList := [] }, { }, 605, os⟩ := by
  refine go_top (top_pre w os) (piece_block (top_block w os) ?_)
  have e : behindTheImports oPrg = oTop.take 27 ++ ((oTop.drop 27).take 1 ++ ((oTop.drop 27).drop 1 ++ [])) := by
    rw [List.append_nil, List.take_append_drop, List.take_append_drop]
    rfl
  show topRun treeTable oPrg w 11 (some (.ref 6)) _ _ (restOf (behindTheImports oPrg) envTop codeTop ⟨0, 0, 0, 0⟩ [topFrame ⟨0, 0, 0, 0⟩]) = _
  rw [e]
  exact piece_app (segRun_of (seg_M w os)) (piece_app (segRun_of (seg_N w os)) (piece_app (segRun_of (seg_Z w os)) (fin_run _)))
theorem top_kept (w : World) (os : OsState) : (staticsOk (importedModules oPrg.main.body) (boot_heap w.params) (heapZ w.params) && namesBound oPrg (heapZ w.params) && gensDone ⟨heapZ w.params, { toList := [] }, { }, 605, os⟩ && laidKept (boot_heap w.params) (heapZ w.params)) = true := by kernel_rfl
theorem top_seen (w : World) (os : OsState) : openSeen view39 [] (importedModules oPrg.main.body) (fun s => xlAt view39 [] s && recOk (RowW.records PySem.Challenge.rw_sm0059_01.row.toRowW) s) true ⟨heapZ w.params, { toList := [] }, { }, 605, os⟩ = openGood view39 [] := by
  delta openSeen openGood
  refine looks_pair ?_ (looks_pair ?_ (looks_pair ?_ (looks_pair ?_ (looks_pair ?_ (looks_pair ?_ (looks_pair ?_ (looks_pair ?_ ?_)))))))
  all_goals as_aux_lemma => kernel_rfl
local macro_rules | `(tactic| o_law) => `(tactic| refine holds_law law_said fun _ => ?_)
set_option hygiene false in
local macro_rules | `(tactic| o_head $H) => `(tactic| (refine PySem.W.holds_open (q := view39) (loose := []) (Xt := fun s => xlAt view39 [] s && recOk (RowW.records PySem.Challenge.rw_sm0059_01.row.toRowW) s) (XP := XL view39 []) (Yf := Hook.obs $H) (Ya := Hook.val $H) (YP := Hook.says $H) (N := 3496) ?hl (Hook.of $H) (Hook.keeps $H) (fun s e => xl_of s (Bool.and_eq_true_iff.mp e).1) XL.keeps (by rfl) (by rfl) (by rfl) (fun s e => recFacts_of (Bool.and_eq_true_iff.mp e).2) (by rfl) (row_said law_said) chains_ok ⟨rfl, rfl, rfl, rfl, rfl, bare_whole⟩ ?hw ?hc; (case hl => (refine LeftO.of_pieces (H₁ := heapZ) top_open top_size top_run (by decide) ?_; intro w; funext os; refine looks_pair (top_kept w os) (looks_pair (top_seen w os) ?_); kernel_rfl))))
open_top hd for PySem.Challenge.rw_sm0059_01
local macro_rules | `(tactic| k_qdec) => `(tactic| decide +kernel)
-- Fw
theorem freshFw : True := by w_top off; trivial
section
noncomputable abbrev Core := List (Addr × Obj)
/-- all but the core's objects stand as they stood -/
noncomputable def Kept (h h' : Heap) (core : Core) : Prop := ∀ b o, h.get? b = some o → b ∉ core.map (·.1) → h'.get? b = some o
/-- an own exception (class at 31), just made -/
structure NewLua (h h' : Heap) (e : Addr) : Prop where
  keeps : ∀ b o, h.get? b = some o → h'.get? b = some o
  new : h.get? e = none
  there : ∃ oe vs a0, h'.get? e = some oe ∧ oe.cls = .ref 31 ∧ oe.data = .fields vs ∧ vs[1]? = some .none ∧ vs[0]? = some a0
section
variable {M : Model} {A : Around} {E : Value → Shared → Prop} {s' : Shared} {base g h : Heap} {outer : List Env} {L a e : Addr} {m : Str → Option Value} {name : Str} {scope : Scope} {cd : Value} {Q : Unit → Shared → Prop} {news : List (Addr × Obj)}
/-- an exception made in this very frame leaves it -/
theorem leave_lua (K : Below A base outer g) (hx : NewLua h s'.heap e) (F : Fr g L h m) (N : News g L h news) (hk : scope.kind = .function)
    (hQ : ∀ h', RaisedSN base g outer e (.ref 31) news h' → g.UpToSlots h' → Q () { s' with heap := h' }) :
    wpAny M (A.deeper (envOf name scope L a cd)) (leaving (envOf name scope L a cd) (.ref e)) Q E s' := by
  have K' := K.push (name := name) (a := a) (cd := cd) F hk
  let fs := (envOf name scope L a cd :: outer).filterMap (·.frame)
  have inFs : ∀ env ∈ (envOf name scope L a cd :: outer), ∀ b, env.frame = some b → b ∈ fs := fun env he b hb => List.mem_filterMap.mpr ⟨env, he, hb⟩
  have offB : ∀ b o, base.get? b = some o → b ∉ fs := fun b o q hm => by rw [(K'.frames.mem hm).1] at q; cases q
  have offL : ∀ o, g.get? L = some o → False := fun o q => by rw [kts_self F] at q; cases q
  have st : base.StaysIn (hideAll h fs) := fun b o q => hideAll_get _ (K'.stays b o q) (offB b o q)
  have sg : ∀ b o, g.get? b = some o → b ∉ outer.filterMap (·.frame) → (hideAll h fs).get? b = some o := fun b o q nm =>
    hideAll_get _ (F.keep b o q) fun hm => (kts_mem hm).elim (fun z => offL o (z ▸ q)) nm
  have hl : ∀ q ∈ news, (hideAll h fs).get? q.1 = some q.2 ∧ g.get? q.1 = none ∧ base.get? q.1 = none := fun q hq => by
    refine ⟨hideAll_get _ (N q hq).1 fun hm => ?_, (N q hq).2.2, fresh_of_stays K.stays (N q hq).2.2⟩
    rcases kts_mem hm with z | z
    · exact (N q hq).2.1 z
    · obtain ⟨o, ho, _⟩ := (K.frames.mem z).2
      rw [(N q hq).2.2] at ho; cases ho
  obtain ⟨oe, vs, a0, he, hc, hd, h1, h0⟩ := hx.there
  have hen : (hideAll h fs).get? e = none := by
    cases q : (hideAll h fs).get? e with
    | none => rfl
    | some o => have := of_hideAll _ q; rw [hx.new] at this; cases this
  refine wpAny_leaving_firstW (a0 := a0) K'.stack ((funFrames_hide K'.frames inFs).of_keeps fun b o hb _ => ⟨o, hx.keeps b o hb, rfl⟩) rfl he (fun b o hb => hx.keeps b o (of_hideAll _ hb)) hen hd h1 h0 fun h' hL => ?_
  obtain ⟨k1, ⟨_, _, k2⟩, k3, k4⟩ := hL
  exact hQ h' ⟨_, a0, st, sg, hl, k1, hen, k2, by rw [← hc]; exact k3⟩ (((Heap.UpToSlots.of_keeps F.keep).trans (Heap.UpToSlots.of_keeps hx.keeps)).trans k4)
end
/-- what a call of the def f with the arguments vs does, in any caller's frame: it hands back a v and turns the core (Ret), or it raises a LuaError behind a core (Err) -/
noncomputable def Ctr (w : World) (mean : ExcName → Option Value) (mg mb : Str → Option Value) (f : Addr) (vs : List Value) (d : Nat) (core : Core) (Ret : Value → Core → Prop) (Err : Core → Prop) : Prop :=
  ∀ (dp un : Nat) (gd : Option (List Code)) (cn : Str) (cs : Scope) (a : Addr) (ccd : Value) (cl : List (Str × Addr)) (outer : List Env) (A₀ : Around) (base h₀ : Heap) (L : Addr) (m : Str → Option Value) (h : Heap) (gn : Array GenState) (dr : Drawn) (tk : Nat) (os : OsState) (Q E : Value → Shared → Prop),
    Below A₀ base outer h₀ → Fr h₀ L h m → (hd.heap_1 w.params).In h₀ → News h₀ L h core → Top view39 (looseW view39 []) mean mg mb h₀ → cs.kind = .function → dp + d + 1 < recursionLimit → un + 8 * (d + 1) < cLine →
    (∀ v core' h' tk', Ret v core' → Fr h₀ L h' m → News h₀ L h' core' → Kept h h' core → (∀ q ∈ core', q.1 ∈ core.map (·.1) ∨ h.get? q.1 = none) → Q v ⟨h', gn, dr, tk', os⟩) →
    (∀ e core' g h' tk', Err core' → Fr h₀ L g m → Kept h g core → RaisedSN base g (envX cn cs L a ccd cl :: outer) e (.ref 31) core' h' → g.UpToSlots h' → E (.ref e) ⟨h', gn, dr, tk', os⟩) →
    wpAny (model PySem.Challenge.rw_sm0059_01.row.prog w) (ktrTop dp un gd cn cs L a ccd cl outer) (call (.ref f) vs) Q E ⟨h, gn, dr, tk, os⟩
/-- a LuaError that a callee raised goes on through this frame -/
noncomputable def PassE (base g : Heap) (L : Addr) (envs : List Env) (gn : Array GenState) (dr : Drawn) (os : OsState) (Err : Core → Prop) (E : Value → Shared → Prop) : Prop :=
  ∀ (e : Addr) (m' : Str → Option Value) (core' : Core) (g₂ h' : Heap) (tk' : Nat), Err core' → Fr g L g₂ m' → RaisedSN base g₂ envs e (.ref 31) core' h' → g₂.UpToSlots h' → E (.ref e) ⟨h', gn, dr, tk', os⟩
theorem PassE.go {base g : Heap} {L : Addr} {envs : List Env} {gn : Array GenState} {dr : Drawn} {os : OsState} {Err : Core → Prop} {E : Value → Shared → Prop} {e : Addr} {m' : Str → Option Value} {core' : Core} {g₂ h' : Heap} {tk' : Nat}
    (P : PassE base g L envs gn dr os Err E) (F : Fr g L g₂ m') (R : RaisedSN base g₂ envs e (.ref 31) core' h') (U : g₂.UpToSlots h') (r : Err core') : E (.ref e) ⟨h', gn, dr, tk', os⟩ := P e m' core' g₂ h' tk' r F R U
/-- the same of the def's body, in its own frame -/
noncomputable def Body (w : World) (mean : ExcName → Option Value) (mg mb : Str → Option Value) (f : Addr) (qual : Str) (scope : Scope) (cdv : Value) (body : List Stmt) (binds : List (Str × Value)) (d : Nat) (core : Core) (Ret : Value → Core → Prop) (Err : Core → Prop) : Prop :=
  ∀ (dp un : Nat) (gd : Option (List Code)) (outer : List Env) (A₀ : Around) (base g : Heap) (L : Addr) (h : Heap) (gn : Array GenState) (dr : Drawn) (tk : Nat) (os : OsState) (Q : Flow → Shared → Prop) (E : Value → Shared → Prop),
    Below A₀ base outer g → Fr g L h (fun y => binds.reverse.lookup y) → (hd.heap_1 w.params).In g → News g L h core → Top view39 (looseW view39 []) mean mg mb g → dp + d < recursionLimit → un + 8 * d < cLine → (∀ p ∈ core, p.1 < L) →
    PassesOwn (model PySem.Challenge.rw_sm0059_01.row.prog w) (ktrTop dp un gd qual scope L f cdv [] outer) (envX qual scope L f cdv []) E →
    (∀ v m' core' h' tk', Ret v core' → Fr g L h' m' → News g L h' core' → Q (.ret v) ⟨h', gn, dr, tk', os⟩) →
    (∀ m' core' h' tk', Ret .none core' → Fr g L h' m' → News g L h' core' → Q .next ⟨h', gn, dr, tk', os⟩) →
    PassE base g L (envX qual scope L f cdv [] :: outer) gn dr os Err E →
    (∀ e m' core' h' h'' tk', Err core' → Fr g L h' m' → News g L h' core' → NewLua h' h'' e → E (.ref e) ⟨h'', gn, dr, tk', os⟩) →
    wpAny (model PySem.Challenge.rw_sm0059_01.row.prog w) (ktrTop dp un gd qual scope L f cdv [] outer) (execs body (envX qual scope L f cdv [])) Q E ⟨h, gn, dr, tk, os⟩
theorem ctr_of_body {w : World} {mean : ExcName → Option Value} {mg mb : Str → Option Value} {f : Addr} {vs : List Value} {d : Nat} {core : Core} {Ret : Value → Core → Prop} {Err : Core → Prop}
    {name qual : Str} {params : Arguments} {body : List Stmt} {scope : Scope} {dV kV doc pm cdv ct oc : Value} {an od : Option Addr} {osl : Array (Option Value)} {binds : List (Str × Value)}
    (ho : (hd.heap_1 w.params).lookup f = some ⟨oc, od, .func (fnOf name qual params body scope dV kV doc pm an cdv ct), osl⟩) (hcd : codeIn (hd.heap_1 w.params) cdv qual = true)
    (hbind : ∀ s : Shared, (hd.heap_1 w.params).In s.heap → BindsTo s (fnOf name qual params body scope dV kV doc pm an cdv ct) ⟨vs, []⟩ binds) (hloc : ∀ y ∈ binds, scope.names.lookup y.1 = some .local)
    (hcell : ∀ x ∈ scope.names, x.2 ≠ .cell) (hco : scope.isCoroutine = false) (hgen : scope.isGenerator = false) (hk : scope.kind = .function)
    (hb : Body w mean mg mb f qual scope cdv body binds d core Ret Err) : Ctr w mean mg mb f vs d core Ret Err := by
  intro dp un gd cn cs a ccd cl outer A₀ base h₀ L m h gn dr tk os Q E B F X N T hck hd hu hret herr
  refine wpAny_call ?_
  have XS := X.keeps F.keep
  obtain ⟨FG, BG, st, _⟩ := groundX (A := ktrTop dp un gd cn cs L a ccd cl outer) (s := ⟨h, gn, dr, tk, os⟩) (R := fun _ _ => True) (env := envX cn cs L a ccd cl) B F N rfl rfl hck
  refine codeAny_call_def (fd := fnX name qual params body scope [] dV kV doc pm an cdv ct) (body := body) (binds := binds) (by show dp < recursionLimit; omega) (XS _ _ ho) rfl (T.nolimit.keeps F.keep) (codeRec_of XS hcd) rfl (hbind ⟨h, gn, dr, tk, os⟩ XS) hcell hloc (fun h₁ hns hk₁ => ?_) hco hgen hk
  have KG : Kept h (hideAll h (core.map (·.1))) core := fun b o e nm => hideAll_get _ e nm
  have F₁ : Fr (hideAll h (core.map (·.1))) h.objs.size h₁ (fun y => binds.reverse.lookup y) := ⟨hns, fun b o e => hk₁ b o (of_hideAll _ e), Nat.le_of_eq (hideAll_size _ _)⟩
  have N₁ : News (hideAll h (core.map (·.1))) h.objs.size h₁ core := fun p hp => ⟨hk₁ _ _ (N p hp).1, Nat.ne_of_lt (Heap.lt_size (N p hp).1), hideAll_none _ (List.mem_map_of_mem hp)⟩
  obtain ⟨oL, es, ep, hL, hLd, hLk, hLf⟩ := FG.ns
  have fin : ∀ core' (h' : Heap) m', Fr (hideAll h (core.map (·.1))) h.objs.size h' m' → News (hideAll h (core.map (·.1))) h.objs.size h' core' → Fr h₀ L h' m ∧ News h₀ L h' core' ∧ Kept h h' core := fun core' h' m' F' N' =>
    ⟨⟨⟨oL, es, ep, F'.keep L oL hL, hLd, hLk, hLf⟩, fun b o e => F'.keep b o (st b o e), F.above⟩,
      fun p hp => ⟨(N' p hp).1, fun q => (by have := (N' p hp).2.2; rw [q, hL] at this; cases this), (by
        cases q : h₀.get? p.1 with
        | none => rfl
        | some o => have := (N' p hp).2.2; rw [st _ _ q] at this; cases this)⟩,
      fun b o e nm => F'.keep b o (KG b o e nm)⟩
  have src : ∀ {core' : Core} {h' : Heap}, News (hideAll h (core.map (·.1))) h.objs.size h' core' → ∀ q ∈ core', q.1 ∈ core.map (·.1) ∨ h.get? q.1 = none := fun N' q hq => by
    by_cases hm : q.1 ∈ core.map (·.1)
    · exact .inl hm
    · cases z : h.get? q.1 with
      | none => exact .inr rfl
      | some o => have y := (N' q hq).2.2; rw [KG _ _ z hm] at y; cases y
  refine hb (dp + 1) (un + 3) gd (envX cn cs L a ccd cl :: outer) _ base _ h.objs.size h₁ gn dr (tk + binds.length) os _ _ BG F₁ (X.keeps st) N₁ (T.keeps st) (by omega) (by omega) (fun p hp => Heap.lt_size (N p hp).1) PassesOwn.leaving ?_ ?_ ?_ ?_
  · intro v m' core' h' tk' r F' N'
    obtain ⟨a1, a2, a3⟩ := fin core' h' m' F' N'
    exact hret v core' h' tk' r a1 a2 a3 (src N')
  · intro m' core' h' tk' r F' N'
    obtain ⟨a1, a2, a3⟩ := fin core' h' m' F' N'
    exact hret .none core' h' tk' r a1 a2 a3 (src N')
  · intro e m' core' g₂ h' tk' r F' R hsm
    exact leave_onSN (name := qual) (scope := scope) (a := f) (cd := cdv) BG F' R hsm fun h'' R' _ U => herr e core' _ h'' tk' r FG KG R' U
  · intro e m' core' h' h'' tk' r F' N' hx
    exact leave_lua (name := qual) (scope := scope) (a := f) (cd := cdv) BG (s' := ⟨h'', gn, dr, tk', os⟩) hx F' N' hk fun h₃ R' U => herr e core' _ h₃ tk' r FG KG R' U
section
variable {w : World} {mean : ExcName → Option Value} {mg mb : Str → Option Value} {f : Addr} {vs : List Value} {d : Nat} {core : Core} {Ret : Value → Core → Prop} {Err : Core → Prop}
theorem Ctr.use (C : Ctr w mean mg mb f vs d core Ret Err) {dp un : Nat} {gd : Option (List Code)} {cn : Str} {cs : Scope} {a : Addr} {ccd : Value} {cl : List (Str × Addr)} {outer : List Env} {A₀ : Around} {base h₀ : Heap} {L : Addr} {m : Str → Option Value} {h : Heap} {gn : Array GenState} {dr : Drawn} {tk : Nat} {os : OsState} {Q E : Value → Shared → Prop}
    (B : Below A₀ base outer h₀) (F : Fr h₀ L h m) (X : (hd.heap_1 w.params).In h₀) (N : News h₀ L h core) (T : Top view39 (looseW view39 []) mean mg mb h₀) (hk : cs.kind = .function) (hd : dp + d + 1 < recursionLimit) (hu : un + 8 * (d + 1) < cLine)
    (hret : ∀ v core' h' tk', Ret v core' → Fr h₀ L h' m → News h₀ L h' core' → Kept h h' core → (∀ q ∈ core', q.1 ∈ core.map (·.1) ∨ h.get? q.1 = none) → Q v ⟨h', gn, dr, tk', os⟩)
    (herr : ∀ e core' g h' tk', Err core' → Fr h₀ L g m → Kept h g core → RaisedSN base g (envX cn cs L a ccd cl :: outer) e (.ref 31) core' h' → g.UpToSlots h' → E (.ref e) ⟨h', gn, dr, tk', os⟩) :
    wpAny (model PySem.Challenge.rw_sm0059_01.row.prog w) (ktrTop dp un gd cn cs L a ccd cl outer) (call (.ref f) vs) Q E ⟨h, gn, dr, tk, os⟩ :=
  C dp un gd cn cs a ccd cl outer A₀ base h₀ L m h gn dr tk os Q E B F X N T hk hd hu hret herr
end
section
variable {w : World} {mean : ExcName → Option Value} {mg mb : Str → Option Value} {f : Addr} {vs : List Value} {d : Nat} {core : Core}
/-- a call that hands back the value X, or an int X, and writes nothing -/
theorem Ctr.useB {X : Value} (C : Ctr w mean mg mb f vs d core (fun v core' => core' = core ∧ v = X) (fun _ => False)) {dp un : Nat} {gd : Option (List Code)} {cn : Str} {cs : Scope} {a : Addr} {ccd : Value} {cl : List (Str × Addr)} {outer : List Env} {A₀ : Around} {base h₀ : Heap} {L : Addr} {m : Str → Option Value} {h : Heap} {gn : Array GenState} {dr : Drawn} {tk : Nat} {os : OsState} {Q E : Value → Shared → Prop}
    (B : Below A₀ base outer h₀) (F : Fr h₀ L h m) (K : (hd.heap_1 w.params).In h₀) (N : News h₀ L h core) (T : Top view39 (looseW view39 []) mean mg mb h₀) (hk : cs.kind = .function) (hd : dp + d + 1 < recursionLimit) (hu : un + 8 * (d + 1) < cLine)
    (hret : ∀ h' tk', Fr h₀ L h' m → News h₀ L h' core → Q X ⟨h', gn, dr, tk', os⟩) :
    wpAny (model PySem.Challenge.rw_sm0059_01.row.prog w) (ktrTop dp un gd cn cs L a ccd cl outer) (call (.ref f) vs) Q E ⟨h, gn, dr, tk, os⟩ :=
  C.use B F K N T hk hd hu (fun _ _ _ _ r F' N' _ _ => by obtain ⟨rfl, rfl⟩ := r; exact hret _ _ F' N') (fun _ _ _ _ _ r => r.elim)
theorem Ctr.useI {X : Int} (C : Ctr w mean mg mb f vs d core (fun v core' => core' = core ∧ ∃ t, v = .int X t) (fun _ => False)) {dp un : Nat} {gd : Option (List Code)} {cn : Str} {cs : Scope} {a : Addr} {ccd : Value} {cl : List (Str × Addr)} {outer : List Env} {A₀ : Around} {base h₀ : Heap} {L : Addr} {m : Str → Option Value} {h : Heap} {gn : Array GenState} {dr : Drawn} {tk : Nat} {os : OsState} {Q E : Value → Shared → Prop}
    (B : Below A₀ base outer h₀) (F : Fr h₀ L h m) (K : (hd.heap_1 w.params).In h₀) (N : News h₀ L h core) (T : Top view39 (looseW view39 []) mean mg mb h₀) (hk : cs.kind = .function) (hd : dp + d + 1 < recursionLimit) (hu : un + 8 * (d + 1) < cLine)
    (hret : ∀ h' tk' t', Fr h₀ L h' m → News h₀ L h' core → Q (.int X t') ⟨h', gn, dr, tk', os⟩) :
    wpAny (model PySem.Challenge.rw_sm0059_01.row.prog w) (ktrTop dp un gd cn cs L a ccd cl outer) (call (.ref f) vs) Q E ⟨h, gn, dr, tk, os⟩ :=
  C.use B F K N T hk hd hu (fun _ _ _ _ r F' N' _ _ => by obtain ⟨rfl, t, rfl⟩ := r; exact hret _ _ t F' N') (fun _ _ _ _ _ r => r.elim)
end
section
variable {w : World} {mean : ExcName → Option Value} {mg mb : Str → Option Value} {f : Addr} {vs : List Value} {d : Nat} {core : Core}
/-- a call that writes nothing and hands back a v of which R holds, or raises -/
theorem Ctr.useP {R : Value → Prop} {Err : Core → Prop} (C : Ctr w mean mg mb f vs d core (fun v core' => core' = core ∧ R v) Err) {dp un : Nat} {gd : Option (List Code)} {cn : Str} {cs : Scope} {a : Addr} {ccd : Value} {cl : List (Str × Addr)} {outer : List Env} {A₀ : Around} {base h₀ : Heap} {L : Addr} {m : Str → Option Value} {h : Heap} {gn : Array GenState} {dr : Drawn} {tk : Nat} {os : OsState} {Q E : Value → Shared → Prop}
    (B : Below A₀ base outer h₀) (F : Fr h₀ L h m) (K : (hd.heap_1 w.params).In h₀) (N : News h₀ L h core) (T : Top view39 (looseW view39 []) mean mg mb h₀) (hk : cs.kind = .function) (hd : dp + d + 1 < recursionLimit) (hu : un + 8 * (d + 1) < cLine)
    (hret : ∀ v h' tk', R v → Fr h₀ L h' m → News h₀ L h' core → Q v ⟨h', gn, dr, tk', os⟩)
    (herr : ∀ e core' g h' tk', Err core' → Fr h₀ L g m → Kept h g core → RaisedSN base g (envX cn cs L a ccd cl :: outer) e (.ref 31) core' h' → g.UpToSlots h' → E (.ref e) ⟨h', gn, dr, tk', os⟩) :
    wpAny (model PySem.Challenge.rw_sm0059_01.row.prog w) (ktrTop dp un gd cn cs L a ccd cl outer) (call (.ref f) vs) Q E ⟨h, gn, dr, tk, os⟩ :=
  C.use B F K N T hk hd hu (fun _ _ _ _ r F' N' _ _ => by obtain ⟨rfl, r⟩ := r; exact hret _ _ _ r F' N') herr
end
theorem at_call (n : Addr) {M : Model} {A : Around} {vs : List Value} {Q E : Value → Shared → Prop} {s : Shared} (h : wpAny M A (call (.ref n) vs) Q E s) : wpAny M A (call (.ref n) vs) Q E s := h
theorem room1 {a m n R : Nat} (h : a + m < R) (e : Nat.ble (n + 1) m = true) : a + n + 1 < R := by
  have := Nat.le_of_ble_eq_true e
  omega
theorem room8 {a m n R : Nat} (h : a + 8 * m < R) (e : Nat.ble (n + 1) m = true) : a + 8 * (n + 1) < R := by
  have := Nat.le_of_ble_eq_true e
  omega
/-- what is wanted behind a statement: the rest goes on -/
def Then (M : Model) (A : Around) (rest : List Stmt) (env : Env) (Q : Flow → Shared → Prop) (E : Value → Shared → Prop) (f : Flow) (s : Shared) : Prop :=
  match f with | .next => wpAny M A (execs rest env) Q E s | f => Q f s
section
variable {M : Model} {A : Around} {E : Value → Shared → Prop} {s : Shared} {env : Env} {st : Stmt} {rest : List Stmt} {Q : Flow → Shared → Prop} {v : Value}
theorem execs_then (h : wpAny M A (exec st env) (Then M A rest env Q E) E s) : wpAny M A (execs (st :: rest) env) Q E s := wpAny_execs_cons h
theorem Then.go (h : wpAny M A (execs rest env) Q E s) : Then M A rest env Q E .next s := h
theorem Then.step (h : wpAny M A (exec st env) (Then M A rest env Q E) E s) : Then M A (st :: rest) env Q E .next s := execs_then h
theorem Then.last (h : Q .next s) : Then M A [] env Q E .next s := wpAny_execs_nil h
theorem Then.ret (h : Q (.ret v) s) : Then M A rest env Q E (.ret v) s := h
theorem Then.brk (h : Q .brk s) : Then M A rest env Q E .brk s := h
theorem Then.cont (h : Q .cont s) : Then M A rest env Q E .cont s := h
end
/-- where a row of statements is cut: what holds behind the first -/
inductive CutQ (Mid : Shared → Prop) (Q : Flow → Shared → Prop) : Flow → Shared → Prop
  | next {s} : Mid s → CutQ Mid Q .next s
  | ret {v s} : Q (.ret v) s → CutQ Mid Q (.ret v) s
  | brk {s} : Q .brk s → CutQ Mid Q .brk s
  | cont {s} : Q .cont s → CutQ Mid Q .cont s
theorem execs_cut {M : Model} {A : Around} {E : Value → Shared → Prop} {s : Shared} {env : Env} {st : Stmt} {rest : List Stmt} {Q : Flow → Shared → Prop} (Mid : Shared → Prop)
    (h1 : wpAny M A (exec st env) (CutQ Mid Q) E s) (h2 : ∀ s', Mid s' → wpAny M A (execs rest env) Q E s') : wpAny M A (execs (st :: rest) env) Q E s := by
  refine wpAny_bind (m := exec st env) (wpAny_mono h1 (fun f s' hf => ?_) fun _ _ y => y)
  cases hf with
  | next h => exact h2 _ h
  | ret h => exact wpAny_pure h
  | brk h => exact wpAny_pure h
  | cont h => exact wpAny_pure h
theorem wp_split {M : Model} {Γ : Ctx} {E : Value → Shared → Prop} {env : Env} {Q : Flow → Shared → Prop} {Mid : Shared → Prop} : ∀ (n : Nat) {sts : List Stmt} {p : Pos} {s : Shared},
    Sem.wp M Γ (execs (sts.take n) env) (fun f _ s' => CutQ Mid Q f s') (fun e _ s' => E e s') p s → (∀ p' s', Mid s' → Sem.wp M Γ (execs (sts.drop n) env) (fun f _ s' => Q f s') (fun e _ s' => E e s') p' s') →
    Sem.wp M Γ (execs sts env) (fun f _ s' => Q f s') (fun e _ s' => E e s') p s
  | 0, sts, p, s, h1, h2 => by
    have z : CutQ Mid Q .next s := h1
    cases z with
    | next hm => exact h2 p s hm
  | n + 1, [], p, s, h1, h2 => by
    have z : CutQ Mid Q .next s := h1
    cases z with
    | next hm => exact h2 p s hm
  | n + 1, st :: r, p, s, h1, h2 => by
    have z : Sem.wp M Γ (exec st env >>= fun f => match f with | .next => execs (r.take n) env | f => pure f) (fun f _ s' => CutQ Mid Q f s') (fun e _ s' => E e s') p s := h1
    show Sem.wp M Γ (exec st env >>= fun f => match f with | .next => execs r env | f => pure f) _ _ p s
    rw [Sem.wp_bind'] at z ⊢
    refine Sem.wp_mono M Γ _ (fun f p' s' y => ?_) (fun _ _ _ y => y) p s z
    cases f with
    | next => exact wp_split n y h2
    | ret v => cases (show CutQ Mid Q (.ret v) s' from y) with | ret q => exact q
    | brk => cases (show CutQ Mid Q .brk s' from y) with | brk q => exact q
    | cont => cases (show CutQ Mid Q .cont s' from y) with | cont q => exact q
/-- a row of statements is cut behind its first n -/
theorem execs_split {M : Model} {A : Around} {E : Value → Shared → Prop} {s : Shared} {env : Env} {sts : List Stmt} {Q : Flow → Shared → Prop} (n : Nat) (Mid : Shared → Prop)
    (h1 : wpAny M A (execs (sts.take n) env) (CutQ Mid Q) E s) (h2 : ∀ s', Mid s' → wpAny M A (execs (sts.drop n) env) Q E s') : wpAny M A (execs sts env) Q E s :=
  fun Γ p hΓ => wp_split n (h1 Γ p hΓ) fun p' s' hm => h2 s' hm Γ p' hΓ
/-- P gives Q, held from simp -/
structure MidGives (P Q : Shared → Prop) : Prop where
  go : ∀ s, P s → Q s
theorem execs_cutM {M : Model} {A : Around} {E : Value → Shared → Prop} {s : Shared} {env : Env} {st : Stmt} {rest : List Stmt} {Q : Flow → Shared → Prop} (Mid : Shared → Prop)
    (h1 : ∀ Mq : Shared → Prop, MidGives Mid Mq → wpAny M A (exec st env) (CutQ Mq Q) E s) (h2 : ∀ s', Mid s' → wpAny M A (execs rest env) Q E s') : wpAny M A (execs (st :: rest) env) Q E s :=
  execs_cut Mid (h1 Mid ⟨fun _ h => h⟩) h2
theorem execs_splitM {M : Model} {A : Around} {E : Value → Shared → Prop} {s : Shared} {env : Env} {sts : List Stmt} {Q : Flow → Shared → Prop} (n : Nat) (Mid : Shared → Prop)
    (h1 : ∀ Mq : Shared → Prop, MidGives Mid Mq → wpAny M A (execs (sts.take n) env) (CutQ Mq Q) E s) (h2 : ∀ s', Mid s' → wpAny M A (execs (sts.drop n) env) Q E s') : wpAny M A (execs sts env) Q E s :=
  execs_split n Mid (h1 Mid ⟨fun _ h => h⟩) h2
/-- held back from the walk -/
inductive Hold (P : Prop) : Prop | mk : P → Hold P
theorem Hold.out {P : Prop} (h : Hold P) : P := h.1
theorem Hold.lay {P : Prop} (h : Hold P) : P := h.1
theorem whlIf_split {b : Bool} {T F : Prop} (h1 : b = true → T) (h2 : b = false → F) : WhlIf b T F := by
  cases b
  · exact h2 rfl
  · exact h1 rfl
end
-- M1
theorem freshM1 : True := by w_top off; trivial
-- the premises of a call's contract
local macro_rules | `(tactic| top_caughtB) => `(tactic| ((case k1 => k_asm); (case k2 => k_asm); (case k3 => k_asm); (case k4 => k_asm); (case k5 => k_asm); (case kK => first | exact rfl | assumption)))
local macro_rules | `(tactic| top_caught0) => `(tactic| ((case kd => first | exact room1 (by assumption) (by rfl) | omega); (case ku => first | exact room8 (by assumption) (by rfl) | omega)))
local macro_rules | `(tactic| ktn_open) => `(tactic| (top_caughtB; top_caught0))
local macro_rules | `(tactic| top_strB) => `(tactic| ((try k_sweep); (try dsimp only); (try k_fold)))
local macro_rules | `(tactic| top_reprB) => `(tactic| (rotate_left; intro e' core' g' h' tk' r' F' k' R' u'; refine PassE.go (by assumption) F' R' u' (Hold.out ?_); replace r' := Hold.mk r'; clear F' k' R' u'; rotate_right))
local macro_rules | `(tactic| top_raiseB) => `(tactic| (k_dflt (refine' Ctr.useB ?kC ?k1 ?k2 ?k3 ?k4 ?k5 ?kK ?kd ?ku ?_; top_caughtB; (case kC => top_argsB); top_caught0; intro h' tk' F' N'; top_strB)))
local macro_rules | `(tactic| top_raise0) => `(tactic| (k_dflt (refine' Ctr.useI ?kC ?k1 ?k2 ?k3 ?k4 ?k5 ?kK ?kd ?ku ?_; top_caughtB; (case kC => top_args); top_caught0; intro h' tk' t' F' N'; top_strB)))
local macro_rules | `(tactic| top_raise) => `(tactic| (refine' Ctr.use ?kC ?k1 ?k2 ?k3 ?k4 ?k5 ?kK ?kd ?ku ?_ ?_; top_caughtB))
local macro_rules | `(tactic| top_name) => `(tactic| (refine' Ctr.useP ?kC ?k1 ?k2 ?k3 ?k4 ?k5 ?kK ?kd ?ku ?_ ?_; top_caughtB))
local macro_rules | `(tactic| top_caught) => `(tactic| (top_caught0; top_reprB))
local macro_rules | `(tactic| walk_at "call ref") => `(tactic| (k_here; top_raiseB))
local macro_rules | `(tactic| walk_at "execs cons") => `(tactic| (k_here; first | k_gentoks | ((with_reducible refine execs_then ?_); try dsimp only)))
local macro_rules | `(tactic| walk_at "Then") => `(tactic| with_reducible first | refine Then.last ?_ | refine Then.step ?_ | refine Then.go ?_ | refine Then.ret ?_ | refine Then.brk ?_ | refine Then.cont ?_)
local macro_rules | `(tactic| walk_at "eval Name") => `(tactic| (k_here; k_dflt (refine' ld ?k1 ?k2 ?_; (case k1 => k_asm); (case k2 => first | exact rfl | assumption); k_whole)))
section
noncomputable def isLower (c : Int) : Bool := decide (97 ≤ c ∧ c ≤ 122)
noncomputable def isUpper (c : Int) : Bool := decide (65 ≤ c ∧ c ≤ 90)
noncomputable def isAlpha (c : Int) : Bool := isLower c || isUpper c
noncomputable def isDigit (c : Int) : Bool := decide (48 ≤ c ∧ c ≤ 57)
noncomputable def isSpace (c : Int) : Bool := decide (c = 32 ∨ (9 ≤ c ∧ c ≤ 13))
noncomputable def isControl (c : Int) : Bool := decide (c < 32 ∨ c = 127)
noncomputable def isPunct (c : Int) : Bool := decide (32 < c ∧ c < 127) && (!isAlpha c && !isDigit c)
noncomputable def isHex (c : Int) : Bool := isDigit c || decide ((65 ≤ c ∧ c ≤ 70) ∨ (97 ≤ c ∧ c ≤ 102))
noncomputable def lowF (l : Int) : Int := if isUpper l then l + 32 else l
noncomputable def classF (c low : Int) : Option Bool :=
  if low = 97 then some (isAlpha c) else if low = 99 then some (isControl c) else if low = 100 then some (isDigit c) else if low = 108 then some (isLower c)
  else if low = 112 then some (isPunct c) else if low = 115 then some (isSpace c) else if low = 117 then some (isUpper c) else if low = 119 then some (isAlpha c || isDigit c)
  else if low = 120 then some (isHex c) else if low = 122 then some (c == 0) else none
noncomputable def inClass (c l : Int) : Bool := match classF c (lowF l) with
  | some b => if isUpper l then !b else b
  | none => l == c
variable {w : World} {mean : ExcName → Option Value} {mg mb : Str → Option Value}
/-- a pure def of ints that gives a bool -/
noncomputable abbrev BoolCtr (w : World) (mean : ExcName → Option Value) (mg mb : Str → Option Value) (f : Addr) (vs : List Value) (d : Nat) (b : Bool) : Prop :=
  ∀ core : Core, Ctr w mean mg mb f vs d core (fun v core' => core' = core ∧ v = .bool b) (fun _ => False)
set_option maxHeartbeats 16000000
theorem is_lower_ok {c : Int} {t : Tok} : BoolCtr w mean mg mb 41 [.int c t] 0 (isLower c) := by
  intro core
  refine' ctr_of_body (binds := [("c", .int c t)]) ?ho ?hcd ?hbind ?hloc ?hcell ?hco ?hgen ?hk ?hb
  case ho => k_is
  case hcd => k_is
  case hbind => exact fun _ _ => BindsTo.of_eq rfl
  case hloc => exact locs rfl
  case hcell => decide
  case hco => exact rfl
  case hgen => exact rfl
  case hk => exact rfl
  unfold Body
  intro dp un gd outer A₀ base g L h gn dr tk os Q E B F X N T hdp hun hlt hE hret hnext hpass hnew
  try dsimp only
  k_steps
  all_goals (refine hret _ _ _ _ _ ⟨rfl, congrArg Value.bool ?_⟩ (by k_asm) (by k_asm))
  all_goals (rw [Bool.eq_iff_iff]; simp only [isLower, Bool.and_eq_true, Bool.or_eq_true, Bool.not_eq_true', decide_eq_true_eq, decide_eq_false_iff_not, beq_iff_eq] at *; omega)
end
local macro_rules | `(tactic| top_argsB) => `(tactic| exact is_lower_ok _)
section
variable {w : World} {mean : ExcName → Option Value} {mg mb : Str → Option Value}
set_option maxHeartbeats 16000000
theorem is_upper_ok {c : Int} {t : Tok} : BoolCtr w mean mg mb 48 [.int c t] 0 (isUpper c) := by
  intro core
  refine' ctr_of_body (binds := [("c", .int c t)]) ?ho ?hcd ?hbind ?hloc ?hcell ?hco ?hgen ?hk ?hb
  case ho => k_is
  case hcd => k_is
  case hbind => exact fun _ _ => BindsTo.of_eq rfl
  case hloc => exact locs rfl
  case hcell => decide
  case hco => exact rfl
  case hgen => exact rfl
  case hk => exact rfl
  unfold Body
  intro dp un gd outer A₀ base g L h gn dr tk os Q E B F X N T hdp hun hlt hE hret hnext hpass hnew
  try dsimp only
  k_steps
  all_goals (refine hret _ _ _ _ _ ⟨rfl, congrArg Value.bool ?_⟩ (by k_asm) (by k_asm))
  all_goals (rw [Bool.eq_iff_iff]; simp only [isUpper, Bool.and_eq_true, Bool.or_eq_true, Bool.not_eq_true', decide_eq_true_eq, decide_eq_false_iff_not, beq_iff_eq] at *; omega)
end
local macro_rules | `(tactic| top_argsB) => `(tactic| exact is_upper_ok _)
section
variable {w : World} {mean : ExcName → Option Value} {mg mb : Str → Option Value}
set_option maxHeartbeats 16000000
theorem is_alpha_ok {c : Int} {t : Tok} : BoolCtr w mean mg mb 55 [.int c t] 1 (isAlpha c) := by
  intro core
  refine' ctr_of_body (binds := [("c", .int c t)]) ?ho ?hcd ?hbind ?hloc ?hcell ?hco ?hgen ?hk ?hb
  case ho => k_is
  case hcd => k_is
  case hbind => exact fun _ _ => BindsTo.of_eq rfl
  case hloc => exact locs rfl
  case hcell => decide
  case hco => exact rfl
  case hgen => exact rfl
  case hk => exact rfl
  unfold Body
  intro dp un gd outer A₀ base g L h gn dr tk os Q E B F X N T hdp hun hlt hE hret hnext hpass hnew
  try dsimp only
  k_steps
  all_goals (refine hret _ _ _ _ _ ⟨rfl, congrArg Value.bool ?_⟩ (by k_asm) (by k_asm))
  all_goals (simp_all [isAlpha])
end
local macro_rules | `(tactic| top_argsB) => `(tactic| exact is_alpha_ok _)
section
variable {w : World} {mean : ExcName → Option Value} {mg mb : Str → Option Value}
set_option maxHeartbeats 16000000
theorem is_digit_ok {c : Int} {t : Tok} : BoolCtr w mean mg mb 62 [.int c t] 0 (isDigit c) := by
  intro core
  refine' ctr_of_body (binds := [("c", .int c t)]) ?ho ?hcd ?hbind ?hloc ?hcell ?hco ?hgen ?hk ?hb
  case ho => k_is
  case hcd => k_is
  case hbind => exact fun _ _ => BindsTo.of_eq rfl
  case hloc => exact locs rfl
  case hcell => decide
  case hco => exact rfl
  case hgen => exact rfl
  case hk => exact rfl
  unfold Body
  intro dp un gd outer A₀ base g L h gn dr tk os Q E B F X N T hdp hun hlt hE hret hnext hpass hnew
  try dsimp only
  k_steps
  all_goals (refine hret _ _ _ _ _ ⟨rfl, congrArg Value.bool ?_⟩ (by k_asm) (by k_asm))
  all_goals (rw [Bool.eq_iff_iff]; simp only [isDigit, Bool.and_eq_true, Bool.or_eq_true, Bool.not_eq_true', decide_eq_true_eq, decide_eq_false_iff_not, beq_iff_eq] at *; omega)
end
local macro_rules | `(tactic| top_argsB) => `(tactic| exact is_digit_ok _)
section
variable {w : World} {mean : ExcName → Option Value} {mg mb : Str → Option Value}
set_option maxHeartbeats 16000000
theorem is_space_ok {c : Int} {t : Tok} : BoolCtr w mean mg mb 69 [.int c t] 0 (isSpace c) := by
  intro core
  refine' ctr_of_body (binds := [("c", .int c t)]) ?ho ?hcd ?hbind ?hloc ?hcell ?hco ?hgen ?hk ?hb
  case ho => k_is
  case hcd => k_is
  case hbind => exact fun _ _ => BindsTo.of_eq rfl
  case hloc => exact locs rfl
  case hcell => decide
  case hco => exact rfl
  case hgen => exact rfl
  case hk => exact rfl
  unfold Body
  intro dp un gd outer A₀ base g L h gn dr tk os Q E B F X N T hdp hun hlt hE hret hnext hpass hnew
  try dsimp only
  k_steps
  all_goals (refine hret _ _ _ _ _ ⟨rfl, congrArg Value.bool ?_⟩ (by k_asm) (by k_asm))
  all_goals (rw [Bool.eq_iff_iff]; simp only [isSpace, Bool.and_eq_true, Bool.or_eq_true, Bool.not_eq_true', decide_eq_true_eq, decide_eq_false_iff_not, beq_iff_eq] at *; omega)
end
local macro_rules | `(tactic| top_argsB) => `(tactic| exact is_space_ok _)
section
variable {w : World} {mean : ExcName → Option Value} {mg mb : Str → Option Value}
set_option maxHeartbeats 16000000
theorem is_control_ok {c : Int} {t : Tok} : BoolCtr w mean mg mb 76 [.int c t] 0 (isControl c) := by
  intro core
  refine' ctr_of_body (binds := [("c", .int c t)]) ?ho ?hcd ?hbind ?hloc ?hcell ?hco ?hgen ?hk ?hb
  case ho => k_is
  case hcd => k_is
  case hbind => exact fun _ _ => BindsTo.of_eq rfl
  case hloc => exact locs rfl
  case hcell => decide
  case hco => exact rfl
  case hgen => exact rfl
  case hk => exact rfl
  unfold Body
  intro dp un gd outer A₀ base g L h gn dr tk os Q E B F X N T hdp hun hlt hE hret hnext hpass hnew
  try dsimp only
  k_steps
  all_goals (refine hret _ _ _ _ _ ⟨rfl, congrArg Value.bool ?_⟩ (by k_asm) (by k_asm))
  all_goals (rw [Bool.eq_iff_iff]; simp only [isControl, Bool.and_eq_true, Bool.or_eq_true, Bool.not_eq_true', decide_eq_true_eq, decide_eq_false_iff_not, beq_iff_eq] at *; omega)
end
local macro_rules | `(tactic| top_argsB) => `(tactic| exact is_control_ok _)
section
variable {w : World} {mean : ExcName → Option Value} {mg mb : Str → Option Value}
set_option maxHeartbeats 16000000
theorem is_punctuation_ok {c : Int} {t : Tok} : BoolCtr w mean mg mb 83 [.int c t] 2 (isPunct c) := by
  intro core
  refine' ctr_of_body (binds := [("c", .int c t)]) ?ho ?hcd ?hbind ?hloc ?hcell ?hco ?hgen ?hk ?hb
  case ho => k_is
  case hcd => k_is
  case hbind => exact fun _ _ => BindsTo.of_eq rfl
  case hloc => exact locs rfl
  case hcell => decide
  case hco => exact rfl
  case hgen => exact rfl
  case hk => exact rfl
  unfold Body
  intro dp un gd outer A₀ base g L h gn dr tk os Q E B F X N T hdp hun hlt hE hret hnext hpass hnew
  try dsimp only
  k_steps
  all_goals (refine hret _ _ _ _ _ ⟨rfl, congrArg Value.bool ?_⟩ (by k_asm) (by k_asm))
  all_goals (rw [Bool.eq_iff_iff]; constructor <;> intro h9 <;> simp_all [isPunct] <;> omega)
end
local macro_rules | `(tactic| top_argsB) => `(tactic| exact is_punctuation_ok _)
section
variable {w : World} {mean : ExcName → Option Value} {mg mb : Str → Option Value}
set_option maxHeartbeats 16000000
theorem is_hex_ok {c : Int} {t : Tok} : BoolCtr w mean mg mb 90 [.int c t] 1 (isHex c) := by
  intro core
  refine' ctr_of_body (binds := [("c", .int c t)]) ?ho ?hcd ?hbind ?hloc ?hcell ?hco ?hgen ?hk ?hb
  case ho => k_is
  case hcd => k_is
  case hbind => exact fun _ _ => BindsTo.of_eq rfl
  case hloc => exact locs rfl
  case hcell => decide
  case hco => exact rfl
  case hgen => exact rfl
  case hk => exact rfl
  unfold Body
  intro dp un gd outer A₀ base g L h gn dr tk os Q E B F X N T hdp hun hlt hE hret hnext hpass hnew
  try dsimp only
  k_steps
  all_goals (refine hret _ _ _ _ _ ⟨rfl, congrArg Value.bool ?_⟩ (by k_asm) (by k_asm))
  all_goals (rw [Bool.eq_iff_iff]; constructor <;> intro h9 <;> simp_all [isHex] <;> omega)
end
local macro_rules | `(tactic| top_argsB) => `(tactic| exact is_hex_ok _)
local macro_rules | `(tactic| walk_at "eval IfExp") => `(tactic| fail "no")
section
variable {w : World} {mean : ExcName → Option Value} {mg mb : Str → Option Value}
set_option maxHeartbeats 16000000
theorem in_class_ok {c l : Int} {t u : Tok} : BoolCtr w mean mg mb 97 [.int c t, .int l u] 3 (inClass c l) := by
  intro core
  refine' ctr_of_body (binds := [("c", .int c t), ("letter", .int l u)]) ?ho ?hcd ?hbind ?hloc ?hcell ?hco ?hgen ?hk ?hb
  case ho => k_is
  case hcd => k_is
  case hbind => exact fun _ _ => BindsTo.of_eq rfl
  case hloc => exact locs rfl
  case hcell => decide
  case hco => exact rfl
  case hgen => exact rfl
  case hk => exact rfl
  unfold Body
  intro dp un gd outer A₀ base g L h gn dr tk os Q E B F X N T hdp hun hlt hE hret hnext hpass hnew
  try dsimp only

  refine execs_cutM (fun s' => ∃ h' m' tk' z, s' = ⟨h', gn, dr, tk', os⟩ ∧ Fr g L h' m' ∧ News g L h' core ∧ m' "c" = some (.int c t) ∧ m' "letter" = some (.int l u) ∧ m' "low" = some (.int (lowF l) z)) ?_ ?_
  · intro Mq hMq
    k_steps
    all_goals exact CutQ.next (hMq.go _ ⟨_, _, _, _, rfl, by k_asm, by k_asm, by exact rfl, by exact rfl, by simp [lowF, *] <;> rfl⟩)
  rintro _ ⟨h1, m1, tk1, z1, rfl, F1, N1, ec, el, ew⟩
  clear F N
  refine execs_cutM (fun s' => ∃ h' m' tk' b, s' = ⟨h', gn, dr, tk', os⟩ ∧ Fr g L h' m' ∧ News g L h' core ∧ m' "letter" = some (.int l u) ∧ m' "found" = some (.bool b) ∧ classF c (lowF l) = some b) ?_ ?_
  · intro Mq hMq
    k_steps
    all_goals first
      | exact CutQ.next (hMq.go _ ⟨_, _, _, _, rfl, by k_asm, by k_asm, by exact el, by exact rfl, by simp [classF, *]; done⟩)
      | exact .ret (hret _ _ _ _ _ ⟨rfl, congrArg Value.bool (by simp [inClass, classF, *]; done)⟩ (by k_asm) (by k_asm))
  rintro _ ⟨h2, m2, tk2, b, rfl, F2, N2, el2, ef, eb⟩
  clear F1 N1
  k_steps
  all_goals exact hret _ _ _ _ _ ⟨rfl, congrArg Value.bool (by simp [inClass, eb, *])⟩ (by k_asm) (by k_asm)
end
-- M0
theorem freshM0 : True := by w_top off; trivial
section
open PySem.Calls
/-- a LuaError as it stands: its args, its dict -/
noncomputable abbrev exO (t : Addr) (dx : Option Addr) : Obj := { cls := .ref 31, dict := dx, data := .fields #[.ref t, .none, .none, .none, .bool false, .none] }
section
variable {prog : Program} {w : World} {A : Around} {E : Value → Shared → Prop} {s : Shared} {R : Result → Shared → Prop} {h₀ : Heap} {L e t : Addr} {m : Str → Option Value} {news : List (Addr × Obj)} {name : Str} {v : Value}
theorem passes31 (self : Value) : refuseLoop self "__setattr__" [.ref 31, .type "Exception", .type "BaseException", .type "object"] = pure () := by
  rw [refuseLoop_ref]; exact PySem.F.store_Exception.passes self
theorem mro31 : (clsIn (hd.heap_1 w.params) 31).map (fun cd => (cd.mro, cd.hasDict)) = some ([.ref 31, .type "Exception", .type "BaseException", .type "object"], true) := by
  have q : ∀ {o : Obj}, (hd.heap_1 w.params).lookup 31 = some o → (match o.data with | .cls cd => some (cd.mro, cd.hasDict) | _ => none) = some ([.ref 31, .type "Exception", .type "BaseException", .type "object"], true) →
      (clsIn (hd.heap_1 w.params) 31).map (fun cd => (cd.mro, cd.hasDict)) = some ([.ref 31, .type "Exception", .type "BaseException", .type "object"], true) := by
    intro o ho hm
    unfold clsIn
    rw [ho]
    obtain ⟨a, b, dt, c⟩ := o
    cases dt <;> first | exact hm | cases hm
  refine' q ?a ?b
  (case a => k_is)
  (case b => rfl)
theorem osa31 {ox : Obj} {od : Option Obj} {tk : Tok} (X : (hd.heap_1 w.params).In s.heap) (I : InstAt s.heap e ox 31 od) (ht : takerIn (hd.heap_1 w.params) 31 name = some none)
    (h : ∀ b, wpAny (model prog w) A.in1 (Builtin.ObjectAttr.storeInOwnDict (.ref e) (.ref 31) (.str name tk) name v b)
      (fun fin s' => match fin with | .done f => R (.ok f) s' | .again c' => c'.quiet = true ∧ codeAny (model prog w) A c' R s') (fun e s' => R (.error e) s') s) :
    codeAny (model prog w) A (.call (.builtin "object.__setattr__") ⟨[.ref e, .str name tk, v], []⟩) R s := by
  have SF := PySem.F.store_object
  obtain ⟨cd, hc, hq⟩ := Option.map_eq_some_iff.mp (mro31 (w := w))
  obtain ⟨hmro, hdc⟩ := Prod.mk.inj hq
  have sub : Looks (model prog w) s.heap (isInstance (.ref e) (.type "object")) true := I.type.andThen (looks_mroIn X (by unfold mroIn; rw [hc, Option.bind_some, hmro]; rfl))
  refine codeAny_call_builtin SF.slot.plain SF.entry (@check_slot (model prog w) _ _ s "object.__setattr__" "object" "__setattr__" (.ref e) [.str name tk, v] [] _ SF.kind SF.split sub (SF.args (.ref e) (.str name tk) v) ?_)
  obtain ⟨attr, ha, hr⟩ := Option.bind_eq_some_iff.mp ht
  have hm : Looks (model prog w) s.heap (mroOf (.ref 31)) cd.mro := (looks_clsIn X hc).andThen .now
  have L3 : Looks (model prog w) s.heap (Builtin.ObjectAttr.storeTaker? attr) none := by
    cases attr with
    | none => exact .now
    | some a =>
      obtain ⟨b, hb, hb'⟩ := Option.map_eq_some_iff.mp hr
      refine (looks_takesIn X hb).andThen ?_
      cases b
      · exact .now
      · cases hb'
  rw [osa_eq, refuse_eq]
  refine wpAny_bind (wpAny_bind (I.type.here (wpAny_bind (hm.here ?_))))
  rw [hmro, passes31]
  refine wpAny_pure (wpAny_bind (I.type.here (wpAny_bind ((looks_findIn X ha).here (wpAny_bind (L3.here ?_))))))
  exact h _
theorem exc_at {od : Option Obj} {dx : Option Addr} (he : s.heap.get? e = some (exO t dx)) (hd' : match dx, od with | some d, some o => s.heap.get? d = some o | none, none => True | _, _ => False) : InstAt s.heap e (exO t dx) 31 od := by
  refine ⟨he, rfl, rfl, ?_⟩
  cases dx <;> cases od <;> exact hd'
theorem ns_set_dict {dx : Addr} {es : List DictEntry} {n : Nat} {Q : Unit → Shared → Prop} {M : Model} (hd' : s.heap.get? dx = some (dictOf es n)) (hl : (getL name es).isSome = true)
    (h : ∀ hsh : Int, Q () { s with heap := s.heap.update dx (Obj.putName name hsh (.str name s.toks) v), toks := s.toks + 1 }) : wpAny M A (nsSet dx name v) Q E s := by
  unfold nsSet
  refine wpAny_bind (wpAny_bind (wpAny_askSetting (wpAny_pure (wpAny_bind (wpAny_mkText (wpAny_bind (wpAny_loadPart hd' ?_)))))))
  try dsimp only
  have c : (!es.toArray.any (·.key.isStr name) && es.toArray.any (·.refKey)) = false := by
    rw [← Array.any_toList, ← Array.any_toList]
    show (!es.any (·.key.isStr name) && es.any (·.refKey)) = false
    cases q : es.any (·.key.isStr name) with
    | true => rfl
    | false =>
      unfold getL at hl
      split at hl
      · rename_i en he
        rw [List.any_eq_true.mpr ⟨en, List.mem_of_find?_eq_some he, List.find?_some he⟩] at q; cases q
      · split at hl
        · cases hl
        · rename_i z; rw [Bool.not_eq_true] at z; rw [z]; rfl
  rw [aRefKeyMayBeTheName_at, c]
  exact wpAny_updatePart hd' (h _)
noncomputable def NoRef (es : List DictEntry) : Prop := ∀ q ∈ es, q.refKey = false
theorem NoRef.get {es : List DictEntry} (h : NoRef es) (nm : Str) : (getL nm es).isSome = true := by
  unfold getL
  split
  · rfl
  · rw [if_neg (by rw [Bool.not_eq_true, List.any_eq_false]; intro q hq; rw [h q hq]; decide)]; rfl
theorem NoRef.put {nm : Str} {hsh : Int} {tk : Tok} {v : Value} : ∀ {es : List DictEntry}, NoRef es → NoRef (putL nm hsh (.str nm tk) v es)
  | [], _ => fun q hq => by rw [List.mem_singleton.mp hq]; rfl
  | a :: r, h => by
    unfold putL
    split
    · intro q hq
      rcases List.mem_cons.mp hq with rfl | hq
      · exact h a (.head _)
      · exact h q (.tail _ hq)
    · intro q hq
      rcases List.mem_cons.mp hq with rfl | hq
      · exact h _ (.head _)
      · exact NoRef.put (fun x hx => h x (.tail _ hx)) q hq
theorem putL_len {nm : Str} {hsh : Int} {k v : Value} : ∀ {l : List DictEntry}, (putL nm hsh k v l).length ≤ l.length + 1
  | [] => Nat.le_refl _
  | a :: r => by have := putL_len (nm := nm) (hsh := hsh) (k := k) (v := v) (l := r); unfold putL; split <;> simp only [List.length_cons] <;> omega
/-- the first store into a LuaError makes its dict -/
theorem set31_first {Q : Unit → Shared → Prop} (F : Fr h₀ L s.heap m) (X : (hd.heap_1 w.params).In h₀) (N : News h₀ L s.heap [(e, exO t none)]) (ht : takerIn (hd.heap_1 w.params) 31 name = some none)
    (h : ∀ h' dx es n, Fr h₀ L h' m → News h₀ L h' [(e, exO t (some dx)), (dx, dictOf es n)] → dx ≠ e → es.length ≤ 1 → NoRef es → L < dx → Q () { s with heap := h', toks := s.toks + 2 }) :
    wpAny (model prog w) A (setAttr (.ref e) name v) Q E s := by
  have XS := X.keeps F.keep
  have he := (N _ (.head _)).1
  have I : InstAt s.heap e (exO t none) 31 none := exc_at he trivial
  refine set_plain XS I (by k_is) (osa31 (s := { s with toks := s.toks + 1 }) XS I ht fun b => ?_)
  obtain ⟨cd, hc, hq⟩ := Option.map_eq_some_iff.mp (mro31 (w := w))
  obtain ⟨hmro, hdc⟩ := Prod.mk.inj hq
  refine wpAny_bind (wpAny_pure (wpAny_bind (wpAny_bind (wpAny_loadPart he (wpAny_bind ((looks_clsIn (M := model prog w) (h := s.heap) XS hc).here (s := { s with toks := s.toks + 1 }) ?_))))))
  rw [hdc]
  show wpAny (model prog w) A.in1 (alloc { cls := .type "dict", data := .dict #[] } >>= fun d => update e (fun o => { o with dict := some d }) >>= fun _ => dictMade (.ref 31) e d) _ _ _
  have hne : e ≠ s.heap.objs.size := Nat.ne_of_lt (Heap.lt_size he)
  have he1 : (s.heap.push (dictOf [] 0)).get? e = some (exO t none) := Heap.get?_push_of_some _ he
  refine wpAny_bind (wpAny_alloc' (wpAny_bind (wpAny_update' he1 (wpAny_pure ?_))))
  have hd2 : ((s.heap.push (dictOf [] 0)).update e fun o => { o with dict := some s.heap.objs.size }).get? s.heap.objs.size = some (dictOf [] 0) :=
    (Heap.get?_update_ne _ _ _ _ hne.symm).trans (Heap.get?_push_at rfl rfl)
  have he2 : ((s.heap.push (dictOf [] 0)).update e fun o => { o with dict := some s.heap.objs.size }).get? e = some (exO t (some s.heap.objs.size)) := Heap.get?_update_self _ he1 rfl
  show wpAny _ _ (Builtin.ObjectAttr.storeInDict s.heap.objs.size (.str name s.toks) name v) _ _ _
  unfold Builtin.ObjectAttr.storeInDict Builtin.ObjectAttr.newKeyGuard
  refine wpAny_bind (wpAny_pure (wpAny_bind (ns_set_dict (es := []) (n := 0) hd2 rfl fun hsh => ?_)))
  have F1 := F.push (dictOf [] 0)
  have N1 := N.push F (dictOf [] 0)
  obtain ⟨F2, N2⟩ := news_upd (pre := [(s.heap.objs.size, dictOf [] 0)]) (post := []) (d := e) (o := exO t none) (o' := exO t (some s.heap.objs.size)) (f := fun o => { o with dict := some s.heap.objs.size }) F1 N1
    (fun p hp => by rw [List.mem_singleton.mp hp]; exact hne.symm) (fun p hp => nomatch hp) rfl rfl
  obtain ⟨F3, N3⟩ := news_upd (pre := []) (post := [(e, exO t (some s.heap.objs.size))]) (d := s.heap.objs.size) (o := dictOf [] 0) (o' := dictOf [⟨hsh, .str name (s.toks + 1), v⟩] 1) (f := Obj.putName name hsh (.str name (s.toks + 1)) v) F2 N2
    (fun p hp => nomatch hp) (fun p hp => by rw [List.mem_singleton.mp hp]; exact hne) (by rw [putName_dict]; rfl) rfl
  refine wpAny_bind (wpAny_lookBehind (N3 _ (.head _)).1 (pastItsLine_dict (by rw [List.size_toArray, sizeLine_eq, List.length_singleton]; decide)) ?_)
  refine wpAny_pure (h _ s.heap.objs.size [⟨hsh, .str name (s.toks + 1), v⟩] 1 F3 (fun p hp => N3 p ?_) hne.symm (Nat.le_refl _) (fun q hq => by rw [List.mem_singleton.mp hq]; rfl) (by obtain ⟨oL, _, _, hL, _⟩ := F.ns; exact Heap.lt_size hL))
  rcases List.mem_cons.mp hp with rfl | hp
  · exact .tail _ (.head _)
  · rw [List.mem_singleton.mp hp]; exact .head _
/-- a later one -/
theorem set31_next {Q : Unit → Shared → Prop} {dx : Addr} {es : List DictEntry} {n : Nat} (F : Fr h₀ L s.heap m) (X : (hd.heap_1 w.params).In h₀) (N : News h₀ L s.heap news) (m1 : (e, exO t (some dx)) ∈ news) (m2 : (dx, dictOf es n) ∈ news) (hne : dx ≠ e)
    (ht : takerIn (hd.heap_1 w.params) 31 name = some none) (hl : NoRef es) (hz : es.length ≤ 10)
    (h : ∀ h' es' n', Fr h₀ L h' m → News h₀ L h' [(e, exO t (some dx)), (dx, dictOf es' n')] → es'.length ≤ es.length + 1 → NoRef es' → Q () { s with heap := h', toks := s.toks + 2 }) :
    wpAny (model prog w) A (setAttr (.ref e) name v) Q E s := by
  have XS := X.keeps F.keep
  have he := (N _ m1).1
  have hd' := (N _ m2).1
  have I : InstAt s.heap e (exO t (some dx)) 31 (some (dictOf es n)) := exc_at he hd'
  refine set_plain XS I (by k_is) (osa31 (s := { s with toks := s.toks + 1 }) XS I ht fun b => ?_)
  obtain ⟨cd, hc, hq⟩ := Option.map_eq_some_iff.mp (mro31 (w := w))
  obtain ⟨hmro, hdc⟩ := Prod.mk.inj hq
  refine wpAny_bind (wpAny_pure (wpAny_bind (wpAny_bind (wpAny_loadPart he (wpAny_bind ((looks_clsIn (M := model prog w) (h := s.heap) XS hc).here (s := { s with toks := s.toks + 1 }) ?_))))))
  rw [hdc]
  refine wpAny_pure (a := some dx) ?_
  show wpAny _ _ (Builtin.ObjectAttr.storeInDict dx (.str name s.toks) name v) _ _ _
  unfold Builtin.ObjectAttr.storeInDict Builtin.ObjectAttr.newKeyGuard
  refine wpAny_bind (wpAny_pure (wpAny_bind (ns_set_dict (s := { s with toks := s.toks + 1 }) hd' (hl.get _) fun hsh => ?_)))
  have N2 : News h₀ L s.heap ([(e, exO t (some dx))] ++ (dx, dictOf es n) :: []) := fun p hp => by
    rcases List.mem_cons.mp hp with rfl | hp
    · exact N _ m1
    · rw [List.mem_singleton.mp hp]; exact N _ m2
  obtain ⟨F3, N3⟩ := news_upd (d := dx) (o' := dictOf (putL name hsh (.str name (s.toks + 1)) v es) (putN name es n)) (f := Obj.putName name hsh (.str name (s.toks + 1)) v) F N2
    (fun p hp => by rw [List.mem_singleton.mp hp]; exact hne.symm) (fun p hp => nomatch hp) (by rw [putName_dict]) rfl
  refine wpAny_bind (wpAny_lookBehind (N3 _ (.tail _ (.head _))).1 (pastItsLine_dict (by rw [List.size_toArray, sizeLine_eq]; have := putL_len (nm := name) (hsh := hsh) (l := es) (k := .str name (s.toks + 1)) (v := v); omega)) ?_)
  exact wpAny_pure (h _ _ _ F3 N3 putL_len hl.put)
end
end
-- M0b
theorem freshM0b : True := by w_top off; trivial
local macro_rules | `(tactic| walk_at "loadName") => `(tactic| (k_here; k_dflt (refine' ldn ?k1 ?k2 ?_; (case k1 => k_asm); (case k2 => first | exact rfl | assumption); k_whole)))
section
variable {w : World} {mean : ExcName → Option Value} {mg mb : Str → Option Value} {e t : Addr} {b : Array UInt8} {u : Tok}
end
local macro_rules | `(tactic| walk_at "setAttr ref") => `(tactic| (k_here; k_dflt (first
  | (refine' set31_first ?k1 ?k2 ?k3 ?k4 ?_; (case k1 => k_asm); (case k2 => k_asm); (case k3 => k_asm); (case k4 => k_is); k_whole; intro h' dx' es' n' F' N' ne' le' nr' lL'; (try k_sweep))
  | (refine' set31_next ?k1 ?k2 ?k3 ?k4 ?k5 ?k6 ?k7 ?k8 ?k9 ?_; (case k1 => k_asm); (case k2 => k_asm); (case k3 => k_asm); (case k4 => k_mem); (case k5 => k_mem); (case k6 => assumption); (case k7 => k_is); (case k8 => assumption); (case k9 => omega); k_whole; intro h' es' n' F' N' le' nr'; (try k_sweep)))))
section
variable {w : World} {mean : ExcName → Option Value} {mg mb : Str → Option Value} {e t : Addr} {b : Array UInt8} {u : Tok}
set_option maxHeartbeats 16000000
theorem init31_ok : Ctr w mean mg mb 28 [.ref e, .bytes b u] 0 [(e, exO t none)] (fun v core' => v = .none ∧ ∃ dx od, core' = [(e, exO t (some dx)), (dx, od)]) (fun _ => False) := by
  refine' ctr_of_body (binds := [("self", .ref e), ("value", .bytes b u)]) ?ho ?hcd ?hbind ?hloc ?hcell ?hco ?hgen ?hk ?hb
  case ho => k_is
  case hcd => k_is
  case hbind => exact fun _ _ => BindsTo.of_eq rfl
  case hloc => exact locs rfl
  case hcell => decide
  case hco => exact rfl
  case hgen => exact rfl
  case hk => exact rfl
  unfold Body
  intro dp un gd outer A₀ base g L h gn dr tk os Q E B F X N T hdp hun hlt hE hret hnext hpass hnew
  try dsimp only
  k_steps
  all_goals (refine hnext _ _ _ _ ⟨rfl, _, _, rfl⟩ (by k_asm) (by k_asm))
theorem ns_some_of {K : Frag} {h : Heap} {N : Addr} {mg : Str → Option Value} {n : Str} {v : Value} (X : K.In h) (G : h.Ns N mg) (q : nsIn K N n = some (some v)) : mg n = some v := by
  obtain ⟨o, es, ep, ho, hd', _, hf⟩ := G
  unfold nsIn at q
  split at q
  · rename_i c d es' n' sl z
    have y := X _ _ z
    rw [ho] at y
    cases y
    cases hd'
    split at q
    · rename_i en he
      cases q
      rw [← hf]
      unfold nsFind findBy
      rw [← Array.find?_toList, he]
      rfl
    · split at q <;> cases q
  · cases q
/-- LuaError(b"..") makes one -/
theorem lua_made {dp un : Nat} {gd : Option (List Code)} {cn : Str} {cs : Scope} {a : Addr} {ccd : Value} {cl : List (Str × Addr)} {outer : List Env} {A₀ : Around} {base h₀ : Heap} {L : Addr} {m : Str → Option Value} {h : Heap} {gn : Array GenState} {dr : Drawn} {tk : Nat} {os : OsState} {Q E : Value → Shared → Prop}
    (B : Below A₀ base outer h₀) (F : Fr h₀ L h m) (X : (hd.heap_1 w.params).In h₀) (T : Top view39 (looseW view39 []) mean mg mb h₀) (hk : cs.kind = .function) (hdp : dp + 2 < recursionLimit) (hun : un + 16 < cLine)
    (hq : ∀ h' tk' e t dx, NewLua h h' e → h'.get? e = some (exO t (some dx)) → Q (.ref e) ⟨h', gn, dr, tk', os⟩) :
    wpAny (model PySem.Challenge.rw_sm0059_01.row.prog w) (ktrTop dp un gd cn cs L a ccd cl outer) (call (.ref 31) [.bytes b u]) Q E ⟨h, gn, dr, tk, os⟩ := by
  have XS := X.keeps F.keep
  refine' wpAny_call_exc_init (C := 31) (fI := 28) (mN := h.nsMap 30) PySem.F.excBase_Exception ?hC ?hn ?hi ?hfI ?hfc ?hq
  (case hC => exact XS _ _ (by k_is))
  (case hn => exact .of_isNs (isNs_of_in XS (by kernel_rfl)))
  (case hi => exact ns_some_of XS (.of_isNs (isNs_of_in XS (by kernel_rfl))) (by k_is))
  (case hfI => exact XS _ _ (by k_is))
  (case hfc => rfl)
  intro h' e hm
  obtain ⟨t, he, htn, ht⟩ := hm.there
  obtain ⟨oL, es, ep, hL, hLr⟩ := F.ns
  have F' : Fr h₀ L h' m := ⟨⟨oL, es, ep, hm.keeps _ _ hL, hLr⟩, fun b o q => hm.keeps _ _ (F.keep b o q), F.above⟩
  have N' : News h₀ L h' [(e, exO t none)] := fun p hp => by
    rw [List.mem_singleton.mp hp]
    refine ⟨he, fun (q : e = L) => ?_, ?_⟩
    · have := hm.new; rw [q, hL] at this; cases this
    · cases q : h₀.get? e with
      | none => rfl
      | some o => have := F.keep _ _ q; rw [hm.new] at this; cases this
  show wpAny _ (ktrTop (dp + 1) (un + 1) gd cn cs L a ccd cl outer) _ _ _ _
  refine Ctr.use init31_ok B F' X N' T hk (by omega) (by omega) ?_ fun _ _ _ _ _ hf => hf.elim
  rintro v core' h2 tk2 ⟨rfl, dx, od, rfl⟩ F2 N2 k2 -
  have e2 := (N2 _ (.head _)).1
  refine ⟨rfl, hq h2 tk2 e t dx ⟨fun b o q => k2 b o (hm.keeps _ _ q) fun hb => ?_, hm.new, _, _, _, e2, rfl, rfl, rfl, rfl⟩ e2⟩
  rw [List.mem_singleton.mp hb] at q
  have q' : h.get? e = some o := q
  rw [hm.new] at q'; cases q'
/-- what a raise waits for: a LuaError that stands, and the frame's own way to raise it -/
inductive LuaBack (w : World) (E : Value → Shared → Prop) : Value → Shared → Prop
  | mk {e t dx s} : (hd.heap_1 w.params).In s.heap → s.heap.get? e = some (exO t (some dx)) → E (.ref e) s → LuaBack w E (.ref e) s
theorem Raise_lua {prog : Program} {A : Around} {E : Value → Shared → Prop} {s : Shared} {env : Env} {ex : PySem.Expr} {pos : Pos} {Q : Flow → Shared → Prop} (hh : A.handled = none)
    (h : wpAny (model prog w) A (eval ex env) (LuaBack w E) E s) : wpAny (model prog w) A (exec (.Raise (some ex) none pos) env) Q E s := by
  rw [arm_exec_Raise]
  refine wpAny_bind (wpAny_standAt ?_)
  show wpAny _ _ (raiseStmt env (some (do let v ← eval ex env; standAt pos; pure v)) none) _ _ _
  unfold raiseStmt
  refine wpAny_bind (wpAny_mono (Q := LuaBack w E) (wpAny_bind (wpAny_mono h (fun v s₁ h₁ => wpAny_bind (wpAny_standAt (wpAny_pure h₁))) fun _ _ x => x)) (fun v s₁ h₁ => ?_) fun _ _ x => x)
  cases h₁ with
  | @mk e t dx _ X he hE =>
    obtain ⟨hp, g, d, tk, os⟩ := s₁
    obtain ⟨nm, q, N, bs, bm, hdct, sn, sub, ab, col, dd, k0, k1, k2, k3, k5, newId, hC, hb, _⟩ := kts_cls (C := 31) (T := "BaseException") X (by kernel_rfl)
    dsimp only at hC
    have hcB : (Value.ref 31 :: bm).contains (.type "BaseException") = true := by rw [List.contains_cons, hb, Bool.or_true]
    dsimp only at he
    repeat (first | with_reducible refine wpAny_loadPart_at he ?_ | with_reducible refine wpAny_loadPart_at hC ?_ | (with_reducible refine wpAny_isSubtype_exc hC ?_; rw [hcB]) | wp_step)
    exact wpAny_raiseNew_none hh hE
theorem lua_back {E : Value → Shared → Prop} {e t dx : Addr} {h h' g : Heap} {L : Addr} {m : Str → Option Value} {gn : Array GenState} {dr : Drawn} {tk : Nat} {os : OsState} (x : NewLua h h' e) (y : h'.get? e = some (exO t (some dx))) (X : (hd.heap_1 w.params).In g) (F : Fr g L h m) (hE : E (.ref e) ⟨h', gn, dr, tk, os⟩) : LuaBack w E (.ref e) ⟨h', gn, dr, tk, os⟩ :=
  .mk (X.keeps fun b o q => x.keeps b o (F.keep b o q)) y hE
end
-- M2
theorem freshM2 : True := by w_top off; trivial
local macro_rules | `(tactic| top_argsB) => `(tactic| exact in_class_ok _)
section
/-- what a matcher keeps from its making on -/
structure Cf where
  (k1 k2 k3 k4 k5 k6 k7 k8 tt tp tm : Tok)
  (tx pt : Array UInt8)
noncomputable abbrev MD (w : World) (c : Cf) (dep : Int) (td : Tok) (lev : Int) (tl : Tok) (l1 l2 : Addr) : Obj :=
  dictOf [⟨PyData.keyHash w.params "text", .str "text" c.k1, .bytes c.tx c.tt⟩, ⟨PyData.keyHash w.params "pattern", .str "pattern" c.k2, .bytes c.pt c.tp⟩,
    ⟨PyData.keyHash w.params "most_depth", .str "most_depth" c.k3, .int 60 c.tm⟩, ⟨PyData.keyHash w.params "tick", .str "tick" c.k4, .none⟩,
    ⟨PyData.keyHash w.params "depth", .str "depth" c.k5, .int dep td⟩, ⟨PyData.keyHash w.params "level", .str "level" c.k6, .int lev tl⟩,
    ⟨PyData.keyHash w.params "starts", .str "starts" c.k7, .ref l1⟩, ⟨PyData.keyHash w.params "lengths", .str "lengths" c.k8, .ref l2⟩] 8
noncomputable def atF (pat : List Int) (p : Int) : Int := if p < (pat.length : Int) then pat.getD p.toNat 0 else 0
/-- the text and the pattern of a matcher, as ints -/
structure CfOk (c : Cf) (txt pat : List Int) : Prop where
  hx : KBw.bInts c.tx = txt
  hp : KBw.bInts c.pt = pat
  lx : txt.length ≤ 1000
  lp : pat.length ≤ 1000
variable {w : World} {mean : ExcName → Option Value} {mg mb : Str → Option Value} {x dx l1 l2 : Addr} {c : Cf} {dep lev : Int} {td tl : Tok} {core : Core} {txt pat : List Int}
set_option maxHeartbeats 16000000
theorem count_ok (m1 : (x, instObj 253 dx) ∈ core) (m2 : (dx, MD w c dep td lev tl l1 l2) ∈ core) :
    Ctr w mean mg mb 119 [.ref x] 0 core (fun v core' => core' = core ∧ v = .none) (fun _ => False) := by
  refine' ctr_of_body (binds := [("self", .ref x)]) ?ho ?hcd ?hbind ?hloc ?hcell ?hco ?hgen ?hk ?hb
  case ho => k_is
  case hcd => k_is
  case hbind => exact fun _ _ => BindsTo.of_eq rfl
  case hloc => exact locs rfl
  case hcell => decide
  case hco => exact rfl
  case hgen => exact rfl
  case hk => exact rfl
  unfold Body
  intro dp un gd outer A₀ base g L h gn dr tk os Q E B F X N T hdp hun hlt hE hret hnext hpass hnew
  try dsimp only
  k_steps
  all_goals exact hnext _ _ _ _ ⟨rfl, rfl⟩ (by k_asm) (by k_asm)
end
local macro_rules | `(tactic| top_argsB) => `(tactic| exact count_ok (by k_mem) (by k_mem))
section
variable {w : World} {mean : ExcName → Option Value} {mg mb : Str → Option Value} {x dx l1 l2 : Addr} {c : Cf} {dep lev : Int} {td tl : Tok} {core : Core} {txt pat : List Int}
set_option maxHeartbeats 16000000
theorem at_ok {p : Int} {tp : Tok} (O : CfOk c txt pat) (m1 : (x, instObj 253 dx) ∈ core) (m2 : (dx, MD w c dep td lev tl l1 l2) ∈ core) (h0 : 0 ≤ p) :
    Ctr w mean mg mb 133 [.ref x, .int p tp] 0 core (fun v core' => core' = core ∧ ∃ t, v = .int (atF pat p) t) (fun _ => False) := by
  have hx := O.hx; have hp := O.hp; have lx := O.lx; have lp := O.lp
  refine' ctr_of_body (binds := [("self", .ref x), ("p", .int p tp)]) ?ho ?hcd ?hbind ?hloc ?hcell ?hco ?hgen ?hk ?hb
  case ho => k_is
  case hcd => k_is
  case hbind => exact fun _ _ => BindsTo.of_eq rfl
  case hloc => exact locs rfl
  case hcell => decide
  case hco => exact rfl
  case hgen => exact rfl
  case hk => exact rfl
  unfold Body
  intro dp un gd outer A₀ base g L h gn dr tk os Q E B F X N T hdp hun hlt hE hret hnext hpass hnew
  try dsimp only
  k_steps
  all_goals exact hret _ _ _ _ _ ⟨rfl, _, congrArg (Value.int · _) (by simp [atF, *])⟩ (by k_asm) (by k_asm)
end
local macro_rules | `(tactic| top_args) => `(tactic| exact at_ok (by assumption) (by k_mem) (by k_mem) (by omega))
local macro_rules | `(tactic| walk_at "call ref") => `(tactic| (k_here; (with_reducible show wpAny _ _ (call (Value.ref 133) _) _ _ _); top_raise0))
-- M3
theorem freshM3 : True := by w_top off; trivial
local macro_rules | `(tactic| walk_at "exec Raise some none") => `(tactic| (k_here; refine Raise_lua rfl ?_))
local macro_rules | `(tactic| walk_at "call ref") => `(tactic| (k_here; (with_reducible show wpAny _ _ (call (Value.ref 31) _) _ _ _); k_dflt (refine' lua_made ?k1 ?k2 ?k3 ?k5 ?kK ?kd ?ku ?_; (case k1 => k_asm); (case k2 => k_asm); (case k3 => k_asm); (case k5 => k_asm); (case kK => exact rfl); (case kd => omega); (case ku => omega); intro h' tk' e' t' dx' x' y'; (try dsimp only); (try k_fold))))
local macro_rules | `(tactic| walk_at "WhlIf") => `(tactic| (refine' whlIf_split ?_ ?_ <;> (intro hB; (try simp only [decide_eq_true_eq, decide_eq_false_iff_not, beq_iff_eq, bne_iff_ne, Bool.or_eq_true, Bool.and_eq_true, Bool.not_eq_true', Bool.or_eq_false_iff, Bool.not_eq_false', ne_eq, beq_eq_false_iff_ne, bne_eq_false_iff_eq] at hB); (try exact Bool.noConfusion hB))))
local macro_rules | `(tactic| walk_at "exec While Compare cons nil") => `(tactic| refine Hold.lay ?_)
local macro_rules | `(tactic| walk_at "exec While BoolOp cons nil") => `(tactic| refine Hold.lay ?_)
local macro_rules | `(tactic| walk_at "exec While Constant cons nil") => `(tactic| refine Hold.lay ?_)
local macro_rules | `(tactic| walk_at "exec While Call cons nil") => `(tactic| refine Hold.lay ?_)
local macro_rules | `(tactic| walk_at "WhlRest") => `(tactic| refine Hold.lay ?_)
section
variable {w : World} {mean : ExcName → Option Value} {mg mb : Str → Option Value} {x dx l1 l2 : Addr} {c : Cf} {dep lev : Int} {td tl : Tok} {core : Core} {txt pat : List Int}
set_option maxHeartbeats 16000000
/-- the end of a set, from behind its caret on -/
noncomputable def setEndF (pat : List Int) : Nat → Bool → Int → Option Int
  | 0, _, _ => none
  | n + 1, b, p => if b = true ∨ atF pat p ≠ 93 then
      if (pat.length : Int) ≤ p then none
      else setEndF pat n false (if pat.getD p.toNat 0 = 37 ∧ p + 1 < (pat.length : Int) then p + 1 + 1 else p + 1)
    else some (p + 1)
noncomputable def setStart (pat : List Int) (p : Int) : Int := if atF pat (p + 1) = 94 then p + 1 + 1 else p + 1
noncomputable def classEndF (pat : List Int) (p : Int) : Option Int :=
  if atF pat p = 37 then if (pat.length : Int) ≤ p + 1 then none else some (p + 2)
  else if atF pat p ≠ 91 then some (p + 1)
  else setEndF pat (pat.length + 2) true (setStart pat p)
theorem atF_out {p : Int} (h : (pat.length : Int) ≤ p) : atF pat p = 0 := by unfold atF; rw [if_neg (by omega)]
theorem setStart_hi {p : Int} (h : atF pat p = 91) : setStart pat p ≤ (pat.length : Int) ∧ (0 ≤ p → 0 ≤ setStart pat p) := by
  have h1 : p < (pat.length : Int) := by
    by_cases q : (pat.length : Int) ≤ p
    · rw [atF_out q] at h; cases h
    · omega
  unfold setStart
  split
  · rename_i h2
    have : p + 1 < (pat.length : Int) := by
      by_cases q : (pat.length : Int) ≤ p + 1
      · rw [atF_out q] at h2; cases h2
      · omega
    omega
  · omega
theorem class_end_ok {p : Int} {tp : Tok} (O : CfOk c txt pat) (m1 : (x, instObj 253 dx) ∈ core) (m2 : (dx, MD w c dep td lev tl l1 l2) ∈ core) (h0 : 0 ≤ p) :
    Ctr w mean mg mb 140 [.ref x, .int p tp] 2 core (fun v core' => core' = core ∧ ∃ t r, v = .int r t ∧ classEndF pat p = some r) (fun core' => core' = core ∧ classEndF pat p = none) := by
  have hx := O.hx; have hp := O.hp; have lx := O.lx; have lp := O.lp
  refine' ctr_of_body (binds := [("self", .ref x), ("p", .int p tp)]) ?ho ?hcd ?hbind ?hloc ?hcell ?hco ?hgen ?hk ?hb
  case ho => k_is
  case hcd => k_is
  case hbind => exact fun _ _ => BindsTo.of_eq rfl
  case hloc => exact locs rfl
  case hcell => decide
  case hco => exact rfl
  case hgen => exact rfl
  case hk => exact rfl
  unfold Body
  intro dp un gd outer A₀ base g L h gn dr tk os Q E B F X N T hdp hun hlt hE hret hnext hpass hnew
  try dsimp only

  refine execs_splitM 6 (fun s' => ∃ h' m' tk' p2 tp2, s' = ⟨h', gn, dr, tk', os⟩ ∧ Fr g L h' m' ∧ News g L h' core ∧ m' "self" = some (.ref x) ∧ m' "p" = some (.int p2 tp2) ∧ m' "is_first" = some (.bool true) ∧ p2 = setStart pat p ∧ atF pat p = 91) ?_ ?_
  · intro Mq hMq
    dsimp only [List.take]
    k_steps
    all_goals first
      | (refine lua_back (by assumption) (by assumption) X (by k_asm) (hnew _ _ _ _ _ _ ?_ (by k_asm) (by k_asm) (by assumption)); exact ⟨rfl, by simp [classEndF, *]⟩)
      | (refine CutQ.ret (hret _ _ _ _ _ ?_ (by k_asm) (by k_asm)); exact ⟨rfl, _, _, rfl, by simp [classEndF, *]⟩)
      | exact CutQ.next (hMq.go _ ⟨_, _, _, _, _, rfl, by k_asm, by k_asm, by exact rfl, by exact rfl, by exact rfl, by simp [setStart, *], by assumption⟩)
  rintro _ ⟨h1, m1, tk1, p2, tp2, rfl, F1, N1, es, ep, ei, e2, e91⟩
  clear F N
  dsimp only [List.drop]
  refine execs_cutM (fun s' => ∃ h' m' tk' p2 tp2, s' = ⟨h', gn, dr, tk', os⟩ ∧ Fr g L h' m' ∧ News g L h' core ∧ m' "p" = some (.int p2 tp2) ∧ classEndF pat p = some (p2 + 1)) ?_ ?_
  · intro Mq hMq
    refine whl_start 0 ?_
    obtain ⟨hhi, hlo⟩ := setStart_hi e91
    have hlo := hlo h0
    obtain ⟨n, hn⟩ : ∃ n, n = pat.length + 2 := ⟨_, rfl⟩
    have hR : setEndF pat n true p2 = classEndF pat p := by rw [hn, e2]; simp [classEndF, e91]
    rw [← e2] at hhi hlo
    have hm : (pat.length : Int) + 2 ≤ p2 + n := by omega
    generalize true = b at ei hR
    clear e2 hn
    induction n generalizing p2 tp2 b h1 m1 tk1 with
    | zero => omega
    | succ n ih =>
      refine whl_turn (k := 0) hE ?_
      k_steps
      all_goals first
        | (refine lua_back (by assumption) (by assumption) X (by k_asm) (hnew _ _ _ _ _ _ ?_ (by k_asm) (by k_asm) (by assumption)); exact ⟨rfl, by rw [← hR, setEndF]; simp [-List.getD_eq_getElem?_getD, *]⟩)
        | (refine Hold.mk ?_; apply ih <;> first | k_asm | exact rfl | assumption | omega | (rw [← hR, setEndF]; simp [-List.getD_eq_getElem?_getD, *]; done))
        | exact CutQ.next (hMq.go _ ⟨_, _, _, _, _, rfl, by k_asm, by k_asm, by assumption, by rw [← hR, setEndF]; simp [-List.getD_eq_getElem?_getD, *]⟩)
  rintro _ ⟨h2, m2, tk2, p3, tp3, rfl, F2, N2, ep3, e3⟩
  k_steps
  all_goals (refine hret _ _ _ _ _ ?_ (by k_asm) (by k_asm); exact ⟨rfl, _, _, rfl, e3⟩)
end
-- M4
theorem freshM4 : True := by w_top off; trivial
section
variable {w : World} {mean : ExcName → Option Value} {mg mb : Str → Option Value} {x dx l1 l2 : Addr} {c : Cf} {dep lev : Int} {td tl : Tok} {core : Core} {txt pat : List Int}
set_option maxHeartbeats 16000000
noncomputable def setLoop (pat : List Int) (ch last : Int) : Nat → Int → Bool
  | 0, _ => false
  | n + 1, p => if p < last then
      if pat.getD p.toNat 0 = 37 then if inClass ch (atF pat (p + 1)) = true then true else setLoop pat ch last n (p + 1 + 1)
      else if atF pat (p + 1) = 45 ∧ p + 2 < last then if pat.getD p.toNat 0 ≤ ch ∧ ch ≤ pat.getD (p + 2).toNat 0 then true else setLoop pat ch last n (p + 2 + 1)
      else if pat.getD p.toNat 0 = ch then true else setLoop pat ch last n (p + 1)
    else false
noncomputable def inSetF (pat : List Int) (ch p last : Int) : Bool :=
  let b := setLoop pat ch last (pat.length + 2) (setStart pat p)
  if atF pat (p + 1) = 94 then !b else b
theorem in_set_ok {ch p last : Int} {t1 tp t3 : Tok} (O : CfOk c txt pat) (m1 : (x, instObj 253 dx) ∈ core) (m2 : (dx, MD w c dep td lev tl l1 l2) ∈ core) (h0 : 0 ≤ p) (h91 : atF pat p = 91) (hl : last ≤ (pat.length : Int)) :
    Ctr w mean mg mb 147 [.ref x, .int ch t1, .int p tp, .int last t3] 4 core (fun v core' => core' = core ∧ v = .bool (inSetF pat ch p last)) (fun _ => False) := by
  have hx := O.hx; have hp := O.hp; have lx := O.lx; have lp := O.lp
  refine' ctr_of_body (binds := [("self", .ref x), ("c", .int ch t1), ("p", .int p tp), ("last", .int last t3)]) ?ho ?hcd ?hbind ?hloc ?hcell ?hco ?hgen ?hk ?hb
  case ho => k_is
  case hcd => k_is
  case hbind => exact fun _ _ => BindsTo.of_eq rfl
  case hloc => exact locs rfl
  case hcell => decide
  case hco => exact rfl
  case hgen => exact rfl
  case hk => exact rfl
  unfold Body
  intro dp un gd outer A₀ base g L h gn dr tk os Q E B F X N T hdp hun hlt hE hret hnext hpass hnew
  try dsimp only

  refine execs_splitM 3 (fun s' => ∃ h' m' tk' p2 tp2 b, s' = ⟨h', gn, dr, tk', os⟩ ∧ Fr g L h' m' ∧ News g L h' core ∧ m' "self" = some (.ref x) ∧ m' "c" = some (.int ch t1) ∧ m' "last" = some (.int last t3) ∧ m' "p" = some (.int p2 tp2) ∧ m' "is_wanted" = some (.bool b) ∧ p2 = setStart pat p ∧ b = !decide (atF pat (p + 1) = 94)) ?_ ?_
  · intro Mq hMq
    dsimp only [List.take]
    k_steps
    all_goals exact CutQ.next (hMq.go _ ⟨_, _, _, _, _, _, rfl, by k_asm, by k_asm, by exact rfl, by exact rfl, by exact rfl, by exact rfl, by exact rfl, by simp [setStart, *], by simp [*]⟩)
  rintro _ ⟨h1, m1, tk1, p2, tp2, b, rfl, F1, N1, es, ec, el, ep, ew, e2, eb⟩
  clear F N
  dsimp only [List.drop]
  obtain ⟨hhi, hlo⟩ := setStart_hi h91
  have hlo := hlo h0
  rw [← e2] at hhi hlo
  replace hhi : p2 ≤ (pat.length : Int) + 1 := by omega
  obtain ⟨n, hn⟩ : ∃ n, n = pat.length + 2 := ⟨_, rfl⟩
  have hR : (if setLoop pat ch last n p2 = true then b else !b) = inSetF pat ch p last := by
    rw [hn, e2, eb]; unfold inSetF; by_cases q : atF pat (p + 1) = 94 <;> simp [q] <;> cases setLoop pat ch last (pat.length + 2) (setStart pat p) <;> rfl
  have hm : (pat.length : Int) + 2 ≤ p2 + n := by omega
  clear e2 hn eb
  refine execs_cutM (fun s' => ∃ h' m' tk', s' = ⟨h', gn, dr, tk', os⟩ ∧ Fr g L h' m' ∧ News g L h' core ∧ m' "is_wanted" = some (.bool b) ∧ inSetF pat ch p last = !b) ?_ ?_
  · intro Mq hMq
    refine whl_start 0 ?_
    induction n generalizing p2 tp2 h1 m1 tk1 with
    | zero => omega
    | succ n ih =>
      refine whl_turn (k := 0) hE ?_
      k_steps
      all_goals first
        | (refine CutQ.ret (hret _ _ _ _ _ ⟨rfl, congrArg Value.bool ?_⟩ (by k_asm) (by k_asm)); (rw [← hR, setLoop]; (repeat' split) <;> first | rfl | (exfalso; omega) | (simp_all [-List.getD_eq_getElem?_getD]; done)))
        | (refine Hold.mk ?_; apply ih <;> first | k_asm | exact rfl | assumption | omega | (rw [← hR, setLoop]; (repeat' split) <;> first | rfl | (exfalso; omega) | (simp_all [-List.getD_eq_getElem?_getD]; done)))
        | exact CutQ.next (hMq.go _ ⟨_, _, _, rfl, by k_asm, by k_asm, by assumption, by rw [← hR, setLoop]; (repeat' split) <;> first | rfl | (exfalso; omega) | (simp_all [-List.getD_eq_getElem?_getD]; done)⟩)
  rintro _ ⟨h2, m2, tk2, rfl, F2, N2, ew2, e3⟩
  k_steps
  all_goals (refine hret _ _ _ _ _ ?_ (by k_asm) (by k_asm); exact ⟨rfl, congrArg Value.bool (by simp [*])⟩)
end
local macro_rules | `(tactic| top_argsB) => `(tactic| exact in_set_ok (by assumption) (by k_mem) (by k_mem) (by omega) (by first | assumption | (unfold atF; rw [if_pos (by omega)]; assumption)) (by omega))
section
variable {w : World} {mean : ExcName → Option Value} {mg mb : Str → Option Value} {x dx l1 l2 : Addr} {c : Cf} {dep lev : Int} {td tl : Tok} {core : Core} {txt pat : List Int}
set_option maxHeartbeats 16000000
noncomputable def isSingleF (txt pat : List Int) (s p e : Int) : Bool :=
  if (txt.length : Int) ≤ s then false
  else if pat.getD p.toNat 0 = 46 then true
  else if pat.getD p.toNat 0 = 37 then inClass (txt.getD s.toNat 0) (pat.getD (p + 1).toNat 0)
  else if pat.getD p.toNat 0 = 91 then inSetF pat (txt.getD s.toNat 0) p (e - 1)
  else pat.getD p.toNat 0 == txt.getD s.toNat 0
theorem setEnd_hi {r : Int} : ∀ (n : Nat) (b : Bool) (p : Int), setEndF pat n b p = some r → p < r ∧ (p ≤ (pat.length : Int) → r ≤ (pat.length : Int))
  | 0, _, _, h => by cases h
  | n + 1, b, p, h => by
    unfold setEndF at h
    split at h
    · split at h
      · cases h
      · have ih := setEnd_hi n _ _ h
        exact ⟨by split at ih <;> omega, fun h1 => ih.2 (by split <;> omega)⟩
    · rename_i q
      cases h
      refine ⟨by omega, fun h1 => ?_⟩
      have q2 : atF pat p = 93 := Decidable.byContradiction fun z => q (.inr z)
      by_cases z : p < (pat.length : Int)
      · omega
      · rw [atF_out (by omega)] at q2; cases q2
theorem classEnd_hi {p e : Int} (h : classEndF pat p = some e) (hp : p < (pat.length : Int)) : p < e ∧ e ≤ (pat.length : Int) ∧ (atF pat p = 37 → p + 1 < (pat.length : Int)) := by
  unfold classEndF at h
  split at h
  · split at h
    · cases h
    · cases h; omega
  · split at h
    · cases h; rename_i a _; exact ⟨by omega, by omega, fun q => absurd q a⟩
    · rename_i a b
      have h91 : atF pat p = 91 := Decidable.byContradiction b
      have q := setEnd_hi _ _ _ h
      have s1 := (setStart_hi h91).1
      have s2 : p < setStart pat p := by unfold setStart; split <;> omega
      exact ⟨by omega, q.2 s1, fun z => absurd z a⟩
theorem is_single_ok {s p e : Int} {ts tp te : Tok} (O : CfOk c txt pat) (m1 : (x, instObj 253 dx) ∈ core) (m2 : (dx, MD w c dep td lev tl l1 l2) ∈ core) (hs : 0 ≤ s) (h0 : 0 ≤ p) (h1 : p < (pat.length : Int)) (he : classEndF pat p = some e) :
    Ctr w mean mg mb 154 [.ref x, .int s ts, .int p tp, .int e te] 5 core (fun v core' => core' = core ∧ v = .bool (isSingleF txt pat s p e)) (fun _ => False) := by
  have hx := O.hx; have hp := O.hp; have lx := O.lx; have lp := O.lp
  obtain ⟨g1, g2, g3⟩ := classEnd_hi he h1
  have g4 : atF pat p = pat.getD p.toNat 0 := by unfold atF; rw [if_pos h1]
  rw [g4] at g3
  refine' ctr_of_body (binds := [("self", .ref x), ("s", .int s ts), ("p", .int p tp), ("end", .int e te)]) ?ho ?hcd ?hbind ?hloc ?hcell ?hco ?hgen ?hk ?hb
  case ho => k_is
  case hcd => k_is
  case hbind => exact fun _ _ => BindsTo.of_eq rfl
  case hloc => exact locs rfl
  case hcell => decide
  case hco => exact rfl
  case hgen => exact rfl
  case hk => exact rfl
  unfold Body
  intro dp un gd outer A₀ base g L h gn dr tk os Q E B F X N T hdp hun hlt hE hret hnext hpass hnew
  try dsimp only

  refine execs_splitM 2 (fun s' => ∃ h' m' tk' t1 t2, s' = ⟨h', gn, dr, tk', os⟩ ∧ Fr g L h' m' ∧ News g L h' core ∧ m' "self" = some (.ref x) ∧ m' "p" = some (.int p tp) ∧ m' "end" = some (.int e te) ∧ m' "c" = some (.int (txt.getD s.toNat 0) t1) ∧ m' "first" = some (.int (pat.getD p.toNat 0) t2) ∧ s < (txt.length : Int)) ?_ ?_
  · intro Mq hMq
    dsimp only [List.take]
    k_steps
    all_goals first
      | exact CutQ.next (hMq.go _ ⟨_, _, _, _, _, rfl, by k_asm, cb_drop (by k_asm) (fun _ hp => .tail _ hp), by exact rfl, by exact rfl, by exact rfl, by exact rfl, by exact rfl, by omega⟩)
      | (refine CutQ.ret (hret _ _ _ _ _ ?_ (by k_asm) (by k_asm)); exact ⟨rfl, congrArg Value.bool (by simp [isSingleF, *])⟩)
  rintro _ ⟨h2, m2, tk2, t1, t2, rfl, F2, N2, es, ep, ee, ec, ef, hs2⟩
  clear F N
  dsimp only [List.drop]
  k_steps
  all_goals (refine hret _ _ _ _ _ ?_ (by k_asm) (by k_asm); refine ⟨rfl, congrArg Value.bool ?_⟩; unfold isSingleF; (repeat' split) <;> first | rfl | (exfalso; omega) | (simp_all [-List.getD_eq_getElem?_getD]; done))
end
-- M5
theorem freshM5 : True := by w_top off; trivial
section
variable {w : World} {mean : ExcName → Option Value} {mg mb : Str → Option Value} {x dx l1 l2 : Addr} {c : Cf} {dep lev : Int} {td tl : Tok} {core : Core} {txt pat : List Int}
set_option maxHeartbeats 16000000
noncomputable def balLoop (txt : List Int) (b e : Int) : Nat → Int → Int → Option Int
  | 0, _, _ => none
  | n + 1, o, s => if s < (txt.length : Int) then
      if txt.getD s.toNat 0 = e then if o - 1 = 0 then some (s + 1) else balLoop txt b e n (o - 1) (s + 1)
      else if txt.getD s.toNat 0 = b then balLoop txt b e n (o + 1) (s + 1)
      else balLoop txt b e n o (s + 1)
    else none
noncomputable def balF (txt pat : List Int) (s p : Int) : Option (Option Int) :=
  if (pat.length : Int) ≤ p + 1 then none
  else if (txt.length : Int) ≤ s then some none
  else if txt.getD s.toNat 0 ≠ pat.getD p.toNat 0 then some none
  else some (balLoop txt (pat.getD p.toNat 0) (pat.getD (p + 1).toNat 0) (txt.length + 1) 1 (s + 1))
/-- None, or an int -/
inductive IsOpt : Value → Option Int → Prop
  | none : IsOpt .none none
  | some {r t} : IsOpt (.int r t) (some r)
theorem balance_ok {s p : Int} {ts tp : Tok} (O : CfOk c txt pat) (m1 : (x, instObj 253 dx) ∈ core) (m2 : (dx, MD w c dep td lev tl l1 l2) ∈ core) (hs : 0 ≤ s) (h0 : 0 ≤ p) :
    Ctr w mean mg mb 182 [.ref x, .int s ts, .int p tp] 2 core (fun v core' => core' = core ∧ ∃ r, balF txt pat s p = some r ∧ IsOpt v r) (fun core' => core' = core ∧ balF txt pat s p = none) := by
  have hx := O.hx; have hp := O.hp; have lx := O.lx; have lp := O.lp
  refine' ctr_of_body (binds := [("self", .ref x), ("s", .int s ts), ("p", .int p tp)]) ?ho ?hcd ?hbind ?hloc ?hcell ?hco ?hgen ?hk ?hb
  case ho => k_is
  case hcd => k_is
  case hbind => exact fun _ _ => BindsTo.of_eq rfl
  case hloc => exact locs rfl
  case hcell => decide
  case hco => exact rfl
  case hgen => exact rfl
  case hk => exact rfl
  unfold Body
  intro dp un gd outer A₀ base g L h gn dr tk os Q E B F X N T hdp hun hlt hE hret hnext hpass hnew
  try dsimp only

  refine execs_splitM 2 (fun s' => ∃ h' m' tk' t1 t2, s' = ⟨h', gn, dr, tk', os⟩ ∧ Fr g L h' m' ∧ News g L h' core ∧ m' "self" = some (.ref x) ∧ m' "s" = some (.int s ts) ∧ m' "begin" = some (.int (pat.getD p.toNat 0) t1) ∧ m' "end" = some (.int (pat.getD (p + 1).toNat 0) t2) ∧ p + 1 < (pat.length : Int)) ?_ ?_
  · intro Mq hMq
    dsimp only [List.take]
    k_steps
    all_goals first
      | (refine lua_back (by assumption) (by assumption) X (by k_asm) (hnew _ _ _ _ _ _ ?_ (by k_asm) (by k_asm) (by assumption)); exact ⟨rfl, by simp [balF, *]⟩)
      | exact CutQ.next (hMq.go _ ⟨_, _, _, _, _, rfl, by k_asm, cb_drop (by k_asm) (fun _ hp => .tail _ hp), by exact rfl, by exact rfl, by exact rfl, by exact rfl, by omega⟩)
  rintro _ ⟨h1, m1, tk1, t1, t2, rfl, F1, N1, es, ess, eb, ee, hp1⟩
  clear F N
  dsimp only [List.drop]
  refine execs_splitM 3 (fun s' => ∃ h' m' tk' o to s1 t3, s' = ⟨h', gn, dr, tk', os⟩ ∧ Fr g L h' m' ∧ News g L h' core ∧ m' "self" = some (.ref x) ∧ m' "s" = some (.int s1 t3) ∧ m' "begin" = some (.int (pat.getD p.toNat 0) t1) ∧ m' "end" = some (.int (pat.getD (p + 1).toNat 0) t2) ∧ m' "open_ones" = some (.int o to) ∧
      o = 1 ∧ s1 = s + 1 ∧ s < (txt.length : Int) ∧ txt.getD s.toNat 0 = pat.getD p.toNat 0) ?_ ?_
  · intro Mq hMq
    dsimp only [List.take]
    k_steps
    all_goals first
      | (refine CutQ.ret (hret _ _ _ _ _ ?_ (by k_asm) (by k_asm)); exact ⟨rfl, _, by simp [-List.getD_eq_getElem?_getD, balF, *]; done, .none⟩)
      | exact CutQ.next (hMq.go _ ⟨_, _, _, _, _, _, _, rfl, by k_asm, by k_asm, by assumption, by exact rfl, by assumption, by assumption, by exact rfl, by exact rfl, by exact rfl, by omega, by assumption⟩)
  rintro _ ⟨h2, m2, tk2, o, to, s1, t3, rfl, F2, N2, es2, ess2, eb2, ee2, eo2, e1, e2, hlt1, heq⟩
  clear F1 N1
  dsimp only [List.drop]
  obtain ⟨n, hn⟩ : ∃ n, n = txt.length + 1 := ⟨_, rfl⟩
  have hR : some (balLoop txt (pat.getD p.toNat 0) (pat.getD (p + 1).toNat 0) n o s1) = balF txt pat s p := by
    rw [hn, e1, e2]; unfold balF; rw [if_neg (by omega), if_neg (by omega), if_neg (by rw [heq]; simp)]
  have hm : (txt.length : Int) + 1 ≤ s1 + n := by omega
  have hlo : 0 ≤ s1 := by omega
  have hhi : s1 ≤ (txt.length : Int) := by omega
  clear e1 e2 hn
  refine execs_cutM (fun s' => ∃ h' m' tk', s' = ⟨h', gn, dr, tk', os⟩ ∧ Fr g L h' m' ∧ News g L h' core ∧ balF txt pat s p = some none) ?_ ?_
  · intro Mq hMq
    refine whl_start 0 ?_
    induction n generalizing s1 t3 o to h2 m2 tk2 with
    | zero => omega
    | succ n ih =>
      refine whl_turn (k := 0) hE ?_
      k_steps
      all_goals first
        | (refine CutQ.ret (hret _ _ _ _ _ ?_ (by k_asm) (by k_asm)); refine ⟨rfl, some _, ?_, .some⟩; (rw [← hR, balLoop]; simp [-List.getD_eq_getElem?_getD, *]; done))
        | (refine Hold.mk ?_; apply ih <;> first | k_asm | exact rfl | assumption | omega | (rw [← hR, balLoop]; (repeat' split) <;> first | rfl | (exfalso; omega) | (simp_all [-List.getD_eq_getElem?_getD]; done)))
        | exact CutQ.next (hMq.go _ ⟨_, _, _, rfl, by k_asm, by k_asm, by (rw [← hR, balLoop]; (repeat' split) <;> first | rfl | (exfalso; omega) | (simp_all [-List.getD_eq_getElem?_getD]; done))⟩)
  rintro _ ⟨h2, m2, tk2, rfl, F2, N2, e3⟩
  k_steps
  all_goals (refine hret _ _ _ _ _ ?_ (by k_asm) (by k_asm); exact ⟨rfl, _, e3, .none⟩)
end
-- M5b
theorem freshM5b : True := by w_top off; trivial
section
variable {w : World} {mean : ExcName → Option Value} {mg mb : Str → Option Value} {x dx l1 l2 : Addr} {c : Cf} {dep lev : Int} {td tl : Tok} {core : Core} {txt pat : List Int}
set_option maxHeartbeats 16000000
theorem at_lt {p : Int} (h : atF pat p ≠ 0) : p < (pat.length : Int) := by
  by_cases q : (pat.length : Int) ≤ p
  · exact absurd (atF_out q) h
  · omega
theorem at_lt' {p k : Int} (h : atF pat p = k) (hk : k ≠ 0 := by decide) : p < (pat.length : Int) := at_lt (by rw [h]; exact hk)
end
local macro_rules | `(tactic| walk_at "call ref") => `(tactic| (k_here; (with_reducible show wpAny _ _ (call (Value.ref 140) _) _ _ _); k_dflt (top_name; (case kC => exact class_end_ok (by assumption) (by k_mem) (by k_mem) (by omega)); top_caught; rintro v' h' tk' ⟨t', e', r2, r3⟩ F' N'; subst r2; (try have hce := classEnd_hi r3 (at_lt (by omega))); top_strB)))
section
variable {w : World} {mean : ExcName → Option Value} {mg mb : Str → Option Value} {x dx l1 l2 : Addr} {c : Cf} {dep lev : Int} {td tl : Tok} {core : Core} {txt pat : List Int}
set_option maxHeartbeats 16000000
noncomputable def frontF (txt pat : List Int) (s p : Int) : Option (Option Int × Int) :=
  if atF pat p ≠ 91 then none
  else match classEndF pat p with
    | none => none
    | some e =>
      let ahead := if s = 0 then 0 else txt.getD (s - 1).toNat 0
      let here := if s < (txt.length : Int) then txt.getD s.toNat 0 else 0
      if inSetF pat ahead p (e - 1) = true ∨ inSetF pat here p (e - 1) = false then some (none, e) else some (some s, e)
noncomputable abbrev tupO (v1 v2 : Value) : Obj := { cls := .type "tuple", data := .seq #[v1, v2] }
/-- a pair: None or a place, and a place -/
inductive IsPair (v : Value) (core core' : Core) (r : Option Int × Int) : Prop
  | mk : ∀ a v1 t2, (v = .ref a) → (IsOpt v1 r.1) → (core' = (a, tupO v1 (.int r.2 t2)) :: core) → IsPair v core core' r
theorem frontier_ok {s p : Int} {ts tp : Tok} (O : CfOk c txt pat) (m1 : (x, instObj 253 dx) ∈ core) (m2 : (dx, MD w c dep td lev tl l1 l2) ∈ core) (hs : 0 ≤ s) (hs2 : s ≤ (txt.length : Int)) (h0 : 0 ≤ p) :
    Ctr w mean mg mb 189 [.ref x, .int s ts, .int p tp] 5 core (fun v core' => ∃ r, frontF txt pat s p = some r ∧ IsPair v core core' r) (fun core' => core' = core ∧ frontF txt pat s p = none) := by
  have hx := O.hx; have hp := O.hp; have lx := O.lx; have lp := O.lp
  refine' ctr_of_body (binds := [("self", .ref x), ("s", .int s ts), ("p", .int p tp)]) ?ho ?hcd ?hbind ?hloc ?hcell ?hco ?hgen ?hk ?hb
  case ho => k_is
  case hcd => k_is
  case hbind => exact fun _ _ => BindsTo.of_eq rfl
  case hloc => exact locs rfl
  case hcell => decide
  case hco => exact rfl
  case hgen => exact rfl
  case hk => exact rfl
  unfold Body
  intro dp un gd outer A₀ base g L h gn dr tk os Q E B F X N T hdp hun hlt hE hret hnext hpass hnew
  try dsimp only

  refine execs_splitM 4 (fun s' => ∃ h' m' tk' e2 te2 a2 ta2 b2 tb2, s' = ⟨h', gn, dr, tk', os⟩ ∧ Fr g L h' m' ∧ News g L h' core ∧ m' "self" = some (.ref x) ∧ m' "s" = some (.int s ts) ∧ m' "p" = some (.int p tp) ∧ m' "end" = some (.int e2 te2) ∧ m' "ahead" = some (.int a2 ta2) ∧ m' "here" = some (.int b2 tb2) ∧
      classEndF pat p = some e2 ∧ atF pat p = 91 ∧ p < e2 ∧ e2 ≤ (pat.length : Int) ∧ a2 = (if s = 0 then 0 else txt.getD (s - 1).toNat 0) ∧ b2 = (if s < (txt.length : Int) then txt.getD s.toNat 0 else 0)) ?_ ?_
  · intro Mq hMq
    dsimp only [List.take]
    k_steps
    all_goals first
      | (refine lua_back (by assumption) (by assumption) X (by k_asm) (hnew _ _ _ _ _ _ ?_ (by k_asm) (by k_asm) (by assumption)); exact ⟨rfl, by simp [frontF, *]⟩)
      | (rename_i r'; obtain ⟨⟨r1, r2⟩⟩ := r'; exact Hold.mk ⟨r1, by simp [frontF, *]⟩)
      | exact CutQ.next (hMq.go _ ⟨_, _, _, _, _, _, _, _, _, rfl, by k_asm, by k_asm, by exact rfl, by exact rfl, by exact rfl, by exact rfl, by exact rfl, by exact rfl, by assumption, by omega, by omega, by omega, by first | rw [if_pos (by omega)] | rw [if_neg (by omega)], by first | rw [if_pos (by omega)] | rw [if_neg (by omega)]⟩)
  rintro _ ⟨h2, m2', tk2, e2, te2, a2, ta2, b2, tb2, rfl, F2, N2, es2, ess2, ep2, ee2, ea2, eb2, hce, h91, hpe, hel, qa, qb⟩
  clear F N
  dsimp only [List.drop]
  k_steps
  all_goals (refine hret _ _ _ _ _ ?_ (by k_asm) (by assumption); first
        | (refine ⟨(none, _), ?_, _, _, _, rfl, .none, rfl⟩; rw [frontF, if_neg (by omega), hce]; dsimp only; rw [← qa, ← qb]; (repeat' split) <;> first | rfl | (exfalso; omega) | (simp_all [-List.getD_eq_getElem?_getD]; done))
        | (refine ⟨(some _, _), ?_, _, _, _, rfl, .some, rfl⟩; rw [frontF, if_neg (by omega), hce]; dsimp only; rw [← qa, ← qb]; (repeat' split) <;> first | rfl | (exfalso; omega) | (simp_all [-List.getD_eq_getElem?_getD]; done)))
end
-- M6
theorem freshM6 : True := by w_top off; trivial
section
variable {w : World} {mean : ExcName → Option Value} {mg mb : Str → Option Value} {x dx l1 l2 : Addr} {c : Cf} {dep lev : Int} {td tl : Tok} {core : Core} {txt pat : List Int} {vs1 vs2 : List Value} {n1 n2 : Nat} {ss ls : List Int}
set_option maxHeartbeats 16000000
/-- the two lists of a matcher -/
structure Lst (core : Core) (l1 l2 : Addr) (vs1 vs2 : List Value) (n1 n2 : Nat) (ss ls : List Int) (lev : Int) : Prop where
  m1 : (l1, listOf vs1.toArray n1) ∈ core
  m2 : (l2, listOf vs2.toArray n2) ∈ core
  i1 : IntsAre vs1 ss
  i2 : IntsAre vs2 ls
  h0 : 0 ≤ lev
  h1 : lev ≤ (ss.length : Int)
  h2 : lev ≤ (ls.length : Int)
  h3 : ss.length ≤ 1000
  h4 : ls.length ≤ 1000
noncomputable def closeLoop (ls : List Int) : Nat → Option Int
  | 0 => none
  | n + 1 => if ls.getD n 0 = -1 then some (n : Int) else closeLoop ls n
noncomputable def closeF (ls : List Int) (lev : Int) : Option Int := closeLoop ls lev.toNat
theorem to_close_ok (m1 : (x, instObj 253 dx) ∈ core) (m2 : (dx, MD w c dep td lev tl l1 l2) ∈ core) (S : Lst core l1 l2 vs1 vs2 n1 n2 ss ls lev) :
    Ctr w mean mg mb 224 [.ref x] 2 core (fun v core' => core' = core ∧ ∃ t r, v = .int r t ∧ closeF ls lev = some r) (fun core' => core' = core ∧ closeF ls lev = none) := by
  have m3 := S.m1; have m4 := S.m2; have i1 := S.i1; have i2 := S.i2; have v0 := S.h0; have v1 := S.h1; have v2 := S.h2; have v3 := S.h3; have v4 := S.h4
  refine' ctr_of_body (binds := [("self", .ref x)]) ?ho ?hcd ?hbind ?hloc ?hcell ?hco ?hgen ?hk ?hb
  case ho => k_is
  case hcd => k_is
  case hbind => exact fun _ _ => BindsTo.of_eq rfl
  case hloc => exact locs rfl
  case hcell => decide
  case hco => exact rfl
  case hgen => exact rfl
  case hk => exact rfl
  unfold Body
  intro dp un gd outer A₀ base g L h gn dr tk os Q E B F X N T hdp hun hlt hE hret hnext hpass hnew
  try dsimp only

  refine execs_splitM 1 (fun s' => ∃ h' m' tk' k tk, s' = ⟨h', gn, dr, tk', os⟩ ∧ Fr g L h' m' ∧ News g L h' core ∧ m' "self" = some (.ref x) ∧ m' "number" = some (.int k tk) ∧ k = lev - 1) ?_ ?_
  · intro Mq hMq
    dsimp only [List.take]
    k_steps
    all_goals exact CutQ.next (hMq.go _ ⟨_, _, _, _, _, rfl, by k_asm, by k_asm, by exact rfl, by exact rfl, rfl⟩)
  rintro _ ⟨h1, m1', tk1, k, tk, rfl, F1, N1, es, ek, e2⟩
  clear F N
  dsimp only [List.drop]
  obtain ⟨n, hn⟩ : ∃ n, n = lev.toNat := ⟨_, rfl⟩
  have hR : closeLoop ls n = closeF ls lev := by rw [hn]; rfl
  have hk : k = (n : Int) - 1 := by omega
  have hk2 : (n : Int) ≤ lev := by omega
  clear e2 hn
  refine execs_cutM (fun s' => ∃ h' m' tk', s' = ⟨h', gn, dr, tk', os⟩ ∧ Fr g L h' m' ∧ News g L h' core ∧ closeF ls lev = none) ?_ ?_
  · intro Mq hMq
    refine whl_start 0 ?_
    induction n generalizing k tk h1 m1' tk1 with
    | zero =>
      refine whl_turn (k := 0) hE ?_
      k_steps
      all_goals first | (exfalso; omega) | exact CutQ.next (hMq.go _ ⟨_, _, _, rfl, by k_asm, by k_asm, by rw [← hR]; rfl⟩)
    | succ n ih =>
      have hkn : k.toNat = n := by omega
      refine whl_turn (k := 0) hE ?_
      k_steps
      all_goals first
        | (exfalso; omega)
        | (refine CutQ.ret (hret _ _ _ _ _ ?_ (by k_asm) (by k_asm)); exact ⟨rfl, _, _, rfl, by rw [← hR, closeLoop, if_pos (by rw [← hkn]; assumption)]; congr 1; omega⟩)
        | (refine Hold.mk ?_; apply ih <;> first | k_asm | exact rfl | assumption | omega | (rw [← hR, closeLoop, if_neg (by rw [← hkn]; assumption)]))
  rintro _ ⟨h2, m2, tk2, rfl, F2, N2, e3⟩
  k_steps
  all_goals (refine lua_back (by assumption) (by assumption) X (by k_asm) (hnew _ _ _ _ _ _ ?_ (by k_asm) (by k_asm) (by assumption)); exact ⟨rfl, e3⟩)
/-- a cut of a text -/
noncomputable def cutI (txt : List Int) (a b : Int) : List Int := (txt.drop (clipAt txt.length a)).take (clipAt txt.length b - clipAt txt.length a)
theorem bInts_inj {a b : Array UInt8} (h : KBw.bInts a = KBw.bInts b) : a.toList = b.toList := by
  have g : ∀ l l' : List UInt8, l.map (fun k => (k.toNat : Int)) = l'.map (fun k => (k.toNat : Int)) → l = l' := by
    intro l
    induction l with
    | nil => intro l' e; cases l' with
      | nil => rfl
      | cons _ _ => cases e
    | cons k r ih => intro l' e; cases l' with
      | nil => cases e
      | cons k' r' =>
        simp only [List.map_cons, List.cons.injEq] at e
        rw [ih _ e.2, UInt8.toNat_inj.mp (Int.ofNat.inj e.1)]
  exact g _ _ h
theorem cut_eq {b : Array UInt8} (hk : KBw.bInts b = txt) {i j k l : Int} {v : Bool} (h : ((KBy.picked b (some i) (some j)).toList == (KBy.picked b (some k) (some l)).toList) = v) : (cutI txt i j = cutI txt k l) ↔ v = true := by
  have e1 : KBw.bInts (KBy.picked b (some i) (some j)) = cutI txt i j := KBc.ints_picked hk _ _
  have e2 : KBw.bInts (KBy.picked b (some k) (some l)) = cutI txt k l := KBc.ints_picked hk _ _
  rw [← e1, ← e2, ← h, beq_iff_eq]
  exact ⟨bInts_inj, fun q => by unfold KBw.bInts; rw [q]⟩
noncomputable def captF (txt : List Int) (lev : Int) (ss ls : List Int) (s digit : Int) : Option (Option Int) :=
  if digit - 49 < 0 then none
  else if lev ≤ digit - 49 then none
  else if ls.getD (digit - 49).toNat 0 = -1 then none
  else
    let size := ls.getD (digit - 49).toNat 0
    if size = -2 then some none
    else if (txt.length : Int) - s < size then some none
    else if cutI txt (ss.getD (digit - 49).toNat 0) (ss.getD (digit - 49).toNat 0 + size) = cutI txt s (s + size) then some (some (s + size)) else some none
theorem match_capture_ok {s digit : Int} {ts tg : Tok} (O : CfOk c txt pat) (m1 : (x, instObj 253 dx) ∈ core) (m2 : (dx, MD w c dep td lev tl l1 l2) ∈ core) (S : Lst core l1 l2 vs1 vs2 n1 n2 ss ls lev) :
    Ctr w mean mg mb 231 [.ref x, .int s ts, .int digit tg] 2 core (fun v core' => core' = core ∧ ∃ r, captF txt lev ss ls s digit = some r ∧ IsOpt v r) (fun core' => core' = core ∧ captF txt lev ss ls s digit = none) := by
  have hx := O.hx; have hp := O.hp; have lx := O.lx; have lp := O.lp
  have m3 := S.m1; have m4 := S.m2; have i1 := S.i1; have i2 := S.i2; have v0 := S.h0; have v1 := S.h1; have v2 := S.h2; have v3 := S.h3; have v4 := S.h4
  refine' ctr_of_body (binds := [("self", .ref x), ("s", .int s ts), ("digit", .int digit tg)]) ?ho ?hcd ?hbind ?hloc ?hcell ?hco ?hgen ?hk ?hb
  case ho => k_is
  case hcd => k_is
  case hbind => exact fun _ _ => BindsTo.of_eq rfl
  case hloc => exact locs rfl
  case hcell => decide
  case hco => exact rfl
  case hgen => exact rfl
  case hk => exact rfl
  unfold Body
  intro dp un gd outer A₀ base g L h gn dr tk os Q E B F X N T hdp hun hlt hE hret hnext hpass hnew
  try dsimp only

  k_steps
  all_goals first
    | (refine lua_back (by assumption) (by assumption) X (by k_asm) (hnew _ _ _ _ _ _ ?_ (by k_asm) (by k_asm) (by assumption)); exact ⟨rfl, by simp [-List.getD_eq_getElem?_getD, captF, *]⟩)
    | (try dsimp only
       refine hret _ _ _ _ _ ?_ (by k_asm) (by k_asm)
       first
        | (have e := cut_eq hx (by assumption : (_ == _) = true); exact ⟨rfl, some _, by simp [-List.getD_eq_getElem?_getD, captF, *], .some⟩)
        | (have e := cut_eq hx (by assumption : (_ == _) = false); exact ⟨rfl, none, by simp [-List.getD_eq_getElem?_getD, captF, *], .none⟩)
        | exact ⟨rfl, none, by simp [-List.getD_eq_getElem?_getD, captF, *], .none⟩)
end
-- M6b
theorem freshM6b : True := by w_top off; trivial
local macro_rules | `(tactic| walk_at "call ref") => `(tactic| (k_here; (with_reducible show wpAny _ _ (call (Value.ref 182) _) _ _ _); k_dflt (top_name; (case kC => exact balance_ok (by assumption) (by k_mem) (by k_mem) (by omega) (by omega)); top_caught; rintro v' h' tk' ⟨q', r2, r3⟩ F' N'; cases r3; top_strB)))
local macro_rules | `(tactic| walk_at "call ref") => `(tactic| (k_here; (with_reducible show wpAny _ _ (call (Value.ref 231) _) _ _ _); k_dflt (top_name; (case kC => exact match_capture_ok (by assumption) (by k_mem) (by k_mem) (by assumption)); top_caught; rintro v' h' tk' ⟨q', r2, r3⟩ F' N'; cases r3; top_strB)))
local macro_rules | `(tactic| walk_at "call ref") => `(tactic| (k_here; (with_reducible show wpAny _ _ (call (Value.ref 189) _) _ _ _); k_dflt (top_raise; (case kC => exact frontier_ok (by assumption) (by k_mem) (by k_mem) (by omega) (by omega) (by omega)); top_caught; intro v' core' h' tk' r' F' N' _ _; obtain ⟨q', r1, r2⟩ := r'; replace r2 := Hold.mk r2; top_strB)))
section
variable {w : World} {mean : ExcName → Option Value} {mg mb : Str → Option Value} {x dx l1 l2 : Addr} {c : Cf} {dep lev : Int} {td tl : Tok} {core : Core} {txt pat : List Int} {vs1 vs2 : List Value} {n1 n2 : Nat} {ss ls : List Int}
set_option maxHeartbeats 16000000
noncomputable def specF (txt pat : List Int) (lev : Int) (ss ls : List Int) (s p letter : Int) : Option (Option Int × Int) :=
  if letter = 98 then match balF txt pat s (p + 2) with | some r => some (r, p + 4) | none => none
  else if letter = 102 then frontF txt pat s (p + 2)
  else match captF txt lev ss ls s letter with | some r => some (r, p + 2) | none => none
theorem match_special_ok {s p letter : Int} {ts tp tg : Tok} (O : CfOk c txt pat) (m1 : (x, instObj 253 dx) ∈ core) (m2 : (dx, MD w c dep td lev tl l1 l2) ∈ core) (S : Lst core l1 l2 vs1 vs2 n1 n2 ss ls lev) (hs : 0 ≤ s) (hs2 : s ≤ (txt.length : Int)) (h0 : 0 ≤ p) :
    Ctr w mean mg mb 175 [.ref x, .int s ts, .int p tp, .int letter tg] 6 core (fun v core' => ∃ r, specF txt pat lev ss ls s p letter = some r ∧ IsPair v core core' r) (fun core' => core' = core ∧ specF txt pat lev ss ls s p letter = none) := by
  have hx := O.hx; have hp := O.hp; have lx := O.lx; have lp := O.lp
  refine' ctr_of_body (binds := [("self", .ref x), ("s", .int s ts), ("p", .int p tp), ("letter", .int letter tg)]) ?ho ?hcd ?hbind ?hloc ?hcell ?hco ?hgen ?hk ?hb
  case ho => k_is
  case hcd => k_is
  case hbind => exact fun _ _ => BindsTo.of_eq rfl
  case hloc => exact locs rfl
  case hcell => decide
  case hco => exact rfl
  case hgen => exact rfl
  case hk => exact rfl
  unfold Body
  intro dp un gd outer A₀ base g L h gn dr tk os Q E B F X N T hdp hun hlt hE hret hnext hpass hnew
  try dsimp only

  k_steps
  all_goals first
    | (rename_i r'; obtain ⟨⟨r1, r2⟩⟩ := r'; exact Hold.mk ⟨r1, by simp [specF, *]⟩)
    | (try dsimp only
       refine hret _ _ _ _ _ ?_ (by k_asm) (by assumption)
       first
        | (rename_i r2; exact ⟨_, by simp only [specF, *]; rfl, r2.out⟩)
        | (refine ⟨(none, _), ?_, _, _, _, rfl, .none, rfl⟩; simp [-List.getD_eq_getElem?_getD, specF, *]; done)
        | (refine ⟨(some _, _), ?_, _, _, _, rfl, .some, rfl⟩; simp [-List.getD_eq_getElem?_getD, specF, *]; done))
end
-- M7
theorem freshM7 : True := by w_top off; trivial
local macro_rules | `(tactic| walk_at "call ref") => `(tactic| (k_here; (with_reducible show wpAny _ _ (call (Value.ref 168) _) _ _ _); k_dflt (top_raise; (case kC => exact (by assumption : Ctr _ _ _ _ 168 _ _ _ _ _)); top_caught; intro v' core' h' tk' r' F' N' _ _; replace r' := Hold.mk r'; top_strB)))
section
variable {w : World} {mean : ExcName → Option Value} {mg mb : Str → Option Value} {x dx : Addr} {c : Cf} {dep : Int} {core : Core} {txt pat : List Int}
set_option maxHeartbeats 16000000
/-- what a matcher turns: level, starts, lengths -/
structure Sg where
  lev : Int
  ss : List Int
  ls : List Int
/-- a matcher at x, whole -/
inductive MC (w : World) (c : Cf) (x dx : Addr) (dep : Int) (σ : Sg) (core : Core) : Prop
  | mk : ∀ (td tl : Tok) (l1 l2 : Addr) (vs1 vs2 : List Value) (n1 n2 : Nat), (core = [(x, instObj 253 dx), (dx, MD w c dep td σ.lev tl l1 l2), (l1, listOf vs1.toArray n1), (l2, listOf vs2.toArray n2)]) → (IntsAre vs1 σ.ss) → (IntsAre vs2 σ.ls) → (@Ne Nat x dx) → (@Ne Nat x l1) → (@Ne Nat x l2) → (@Ne Nat dx l1) → (@Ne Nat dx l2) → (@Ne Nat l1 l2) → MC w c x dx dep σ core
/-- a matcher at x, whatever it holds -/
inductive ME (w : World) (c : Cf) (x dx : Addr) (core : Core) : Prop
  | mk : ∀ (dep : Int) (td : Tok) (lev : Int) (tl : Tok) (l1 l2 : Addr), ((x, instObj 253 dx) ∈ core) → ((dx, MD w c dep td lev tl l1 l2) ∈ core) → ME w c x dx core
theorem MC.me {w : World} {c : Cf} {x dx : Addr} {dep : Int} {σ : Sg} {core : Core} (h : MC w c x dx dep σ core) : ME w c x dx core := by
  obtain ⟨td, tl, l1, l2, vs1, vs2, n1, n2, rfl, _⟩ := h
  exact ⟨dep, td, σ.lev, tl, l1, l2, by k_mem, by k_mem⟩
theorem MC.at {w : World} {c : Cf} {x dx : Addr} {dep : Int} {σ : Sg} {core : Core} (h : MC w c x dx dep σ core) : ∃ (td tl : Tok) (l1 l2 : Addr), (x, instObj 253 dx) ∈ core ∧ (dx, MD w c dep td σ.lev tl l1 l2) ∈ core := by
  obtain ⟨td, tl, l1, l2, vs1, vs2, n1, n2, rfl, _⟩ := h
  exact ⟨td, tl, l1, l2, by k_mem, by k_mem⟩
structure Inv (txt : List Int) (σ : Sg) (s : Int) : Prop where
  l0 : 0 ≤ σ.lev
  l1 : σ.lev ≤ 32
  e1 : σ.lev ≤ (σ.ss.length : Int)
  e2 : σ.ss.length = σ.ls.length
  e3 : σ.ss.length ≤ 33
  s0 : 0 ≤ s
  s1 : s ≤ (txt.length : Int)
  b : ∀ i : Nat, (i : Int) < σ.lev → 0 ≤ σ.ss.getD i 0 ∧ σ.ss.getD i 0 ≤ s ∧ -2 ≤ σ.ls.getD i 0
theorem Inv.up {txt : List Int} {σ : Sg} {s s' : Int} (h : Inv txt σ s) (h1 : s ≤ s') (h2 : s' ≤ (txt.length : Int)) : Inv txt σ s' :=
  ⟨h.l0, h.l1, h.e1, h.e2, h.e3, Int.le_trans h.s0 h1, h2, fun i hi => ⟨(h.b i hi).1, Int.le_trans (h.b i hi).2.1 h1, (h.b i hi).2.2⟩⟩
structure Same (σ σ' : Sg) : Prop where
  l : σ'.lev = σ.lev
  e1 : σ'.lev ≤ (σ'.ss.length : Int)
  e2 : σ'.ss.length = σ'.ls.length
  e3 : σ'.ss.length ≤ 33
  b : ∀ i : Nat, (i : Int) < σ.lev → σ'.ss.getD i 0 = σ.ss.getD i 0 ∧ σ'.ls.getD i 0 = σ.ls.getD i 0
theorem Inv.same {txt : List Int} {σ σ' : Sg} {s : Int} (h : Inv txt σ s) (g : Same σ σ') : Inv txt σ' s :=
  ⟨by rw [g.l]; exact h.l0, by rw [g.l]; exact h.l1, g.e1, g.e2, g.e3, h.s0, h.s1, fun i hi => by rw [g.l] at hi; rw [(g.b i hi).1, (g.b i hi).2]; exact h.b i hi⟩
theorem MC.open {w : World} {c : Cf} {x dx : Addr} {dep : Int} {σ : Sg} {core : Core} {txt : List Int} {s : Int} (h : MC w c x dx dep σ core) (v : Inv txt σ s) :
    ∃ (td tl : Tok) (l1 l2 : Addr) (vs1 vs2 : List Value) (n1 n2 : Nat), (x, instObj 253 dx) ∈ core ∧ (dx, MD w c dep td σ.lev tl l1 l2) ∈ core ∧ Lst core l1 l2 vs1 vs2 n1 n2 σ.ss σ.ls σ.lev := by
  obtain ⟨td, tl, l1, l2, vs1, vs2, n1, n2, rfl, i1, i2, _⟩ := h
  have e3 := v.e3
  exact ⟨td, tl, l1, l2, vs1, vs2, n1, n2, by k_mem, by k_mem, by k_mem, by k_mem, i1, i2, v.l0, v.e1, by rw [← v.e2]; exact v.e1, by omega, by rw [← v.e2]; omega⟩
theorem Same.refl {txt : List Int} {σ : Sg} {s : Int} (h : Inv txt σ s) : Same σ σ := ⟨rfl, h.e1, h.e2, h.e3, fun _ _ => ⟨rfl, rfl⟩⟩
theorem Same.trans {σ σ' σ'' : Sg} (h : Same σ σ') (g : Same σ' σ'') : Same σ σ'' :=
  ⟨g.l.trans h.l, g.e1, g.e2, g.e3, fun i hi => ⟨((g.b i (by rw [h.l]; exact hi)).1).trans (h.b i hi).1, ((g.b i (by rw [h.l]; exact hi)).2).trans (h.b i hi).2⟩⟩
noncomputable abbrev Res := Option (Option Int × Sg)
inductive RetM (w : World) (c : Cf) (x dx : Addr) (dep : Int) (R : Res) (v : Value) (core' : Core) : Prop
  | mk : ∀ r σ', (R = some (r, σ')) → (IsOpt v r) → (MC w c x dx dep σ' core') → RetM w c x dx dep R v core'
noncomputable def ErrM (w : World) (c : Cf) (x dx : Addr) (R : Res) : Core → Prop := fun core' => R = none ∧ ME w c x dx core'
noncomputable def deepF (dep : Int) (H : Res) : Res := if 60 < dep + 1 then none else H
theorem match_ok {d : Nat} {s p : Int} {ts tp : Tok} {σ : Sg} {H : Res} (O : CfOk c txt pat) (M : MC w c x dx dep σ core)
    (C : ∀ {core' : Core}, MC w c x dx (dep + 1) σ core' → ∀ {ts tp : Tok}, Ctr w mean mg mb 168 [.ref x, .int s ts, .int p tp] d core' (RetM w c x dx (dep + 1) H) (ErrM w c x dx H)) :
    Ctr w mean mg mb 161 [.ref x, .int s ts, .int p tp] (d + 3) core (RetM w c x dx dep (deepF dep H)) (ErrM w c x dx (deepF dep H)) := by
  obtain ⟨td, tl, l1, l2, vs1, vs2, n1, n2, rfl, i1, i2, q1, q2, q3, q4, q5, q6⟩ := M
  refine' ctr_of_body (binds := [("self", .ref x), ("s", .int s ts), ("p", .int p tp)]) ?ho ?hcd ?hbind ?hloc ?hcell ?hco ?hgen ?hk ?hb
  case ho => k_is
  case hcd => k_is
  case hbind => exact fun _ _ => BindsTo.of_eq rfl
  case hloc => exact locs rfl
  case hcell => decide
  case hco => exact rfl
  case hgen => exact rfl
  case hk => exact rfl
  unfold Body
  intro dp un gd outer A₀ base g L h gn dr tk os Q E B F X N T hdp hun hlt hE hret hnext hpass hnew
  try dsimp only

  refine execs_splitM 3 (fun s' => ∃ h' m' tk' core', s' = ⟨h', gn, dr, tk', os⟩ ∧ Fr g L h' m' ∧ News g L h' core' ∧ m' "self" = some (.ref x) ∧ m' "s" = some (.int s ts) ∧ m' "p" = some (.int p tp) ∧ ¬ 60 < dep + 1 ∧ MC w c x dx (dep + 1) σ core') ?_ ?_
  · intro Mq hMq
    dsimp only [List.take]
    k_steps
    all_goals first
      | (refine lua_back (by assumption) (by assumption) X (by k_asm) (hnew _ _ _ _ _ _ ?_ (by k_asm) (by k_asm) (by assumption)); exact ⟨by rw [deepF, if_pos (by assumption)], _, _, _, _, _, _, by k_mem, by k_mem⟩)
      | exact CutQ.next (hMq.go _ ⟨_, _, _, _, rfl, by k_asm, by k_asm, by exact rfl, by exact rfl, by exact rfl, by assumption, _, _, _, _, _, _, _, _, rfl, i1, i2, q1, q2, q3, q4, q5, q6⟩)
  rintro _ ⟨h1, m1, tk1, core1, rfl, F1, N1, es, ess, ep, hd60, M1⟩
  clear F N i1 i2 q1 q2 q3 q4 q5 q6
  dsimp only [List.drop]
  refine execs_splitM 1 (fun s' => ∃ h' m' tk' v core', s' = ⟨h', gn, dr, tk', os⟩ ∧ Fr g L h' m' ∧ News g L h' core' ∧ m' "self" = some (.ref x) ∧ m' "found" = some v ∧ RetM w c x dx (dep + 1) H v core') ?_ ?_
  · intro Mq hMq
    dsimp only [List.take]
    obtain ⟨td1, tl1, l11, l12, mm1, mm2⟩ := M1.at
    have C1 := C M1 (ts := ts) (tp := tp)
    k_steps
    all_goals first
      | exact CutQ.next (hMq.go _ ⟨_, _, _, _, _, rfl, by k_asm, by k_asm, by assumption, by exact rfl, Hold.out (by assumption)⟩)
      | (rename_i r'; obtain ⟨⟨r1, r2⟩⟩ := r'; exact Hold.mk ⟨by rw [deepF, if_neg hd60]; exact r1, r2⟩)
  rintro _ ⟨h2, m2, tk2, v, core2, rfl, F2, N2, es, ef, r, σ2, e3, iv, M2⟩
  obtain ⟨td', tl', l1', l2', vs1', vs2', n1', n2', rfl, i1, i2, q1, q2, q3, q4, q5, q6⟩ := M2
  clear F1 N1 M1
  dsimp only [List.drop]
  have e4 : deepF dep H = some (r, σ2) := by rw [deepF, if_neg hd60]; exact e3
  k_steps
  all_goals (refine hret _ _ _ _ _ ?_ (by k_asm) (by k_asm); exact ⟨r, σ2, e4, iv, _, _, _, _, _, _, _, _, congrArg (fun z => [(x, instObj 253 dx), (dx, MD w c z _ σ2.lev _ _ _), (_, _), (_, _)]) (by omega), i1, i2, q1, q2, q3, q4, q5, q6⟩)
end
-- M7b
theorem freshM7b : True := by w_top off; trivial
local macro_rules | `(tactic| walk_at "call ref") => `(tactic| (k_here; (with_reducible show wpAny _ _ (call (Value.ref 161) _) _ _ _); k_dflt (top_raise; (case kC => exact (by assumption : Ctr _ _ _ _ 161 _ _ _ _ _)); top_caught; intro v' core' h' tk' r' F' N' _ _; replace r' := Hold.mk r'; top_strB)))
local macro_rules | `(tactic| walk_at "call ref") => `(tactic| (k_here; (with_reducible show wpAny _ _ (call (Value.ref 224) _) _ _ _); k_dflt (top_name; (case kC => exact to_close_ok (by k_mem) (by k_mem) (by assumption)); top_caught; rintro v' h' tk' ⟨t', q', r2, r3⟩ F' N'; subst r2; top_strB)))
section
variable {w : World} {mean : ExcName → Option Value} {mg mb : Str → Option Value} {x dx : Addr} {c : Cf} {dep : Int} {core : Core} {txt pat : List Int}
set_option maxHeartbeats 16000000
theorem news4 {g h : Heap} {L a b d e : Addr} {o1 o2 o3 o4 : Obj} {core : Core} (N : News g L h core) (m1 : (a, o1) ∈ core) (m2 : (b, o2) ∈ core) (m3 : (d, o3) ∈ core) (m4 : (e, o4) ∈ core) : News g L h [(a, o1), (b, o2), (d, o3), (e, o4)] := by
  refine cb_drop N fun q hq => ?_
  rcases List.mem_cons.mp hq with rfl | hq
  · exact m1
  rcases List.mem_cons.mp hq with rfl | hq
  · exact m2
  rcases List.mem_cons.mp hq with rfl | hq
  · exact m3
  rcases List.mem_cons.mp hq with rfl | hq
  · exact m4
  cases hq
noncomputable def startF (H : Sg → Res) (s kind : Int) (σ : Sg) : Res :=
  if 32 ≤ σ.lev then none else
  match H ⟨σ.lev + 1, σ.ss.take σ.lev.toNat ++ [s], σ.ls.take σ.lev.toNat ++ [kind]⟩ with
  | none => none
  | some (none, σ') => some (none, ⟨σ'.lev - 1, σ'.ss, σ'.ls⟩)
  | some (some r, σ') => some (some r, σ')
theorem start_ok {d : Nat} {s p kind : Int} {ts tp tk₀ : Tok} {σ : Sg} {H : Sg → Res} (O : CfOk c txt pat) (M : MC w c x dx dep σ core) (V : Inv txt σ s)
    (C : ∀ {core' : Core}, ¬ 32 ≤ σ.lev → MC w c x dx dep ⟨σ.lev + 1, σ.ss.take σ.lev.toNat ++ [s], σ.ls.take σ.lev.toNat ++ [kind]⟩ core' → ∀ {ts tp : Tok}, Ctr w mean mg mb 161 [.ref x, .int s ts, .int p tp] d core'
      (RetM w c x dx dep (H ⟨σ.lev + 1, σ.ss.take σ.lev.toNat ++ [s], σ.ls.take σ.lev.toNat ++ [kind]⟩)) (ErrM w c x dx (H ⟨σ.lev + 1, σ.ss.take σ.lev.toNat ++ [s], σ.ls.take σ.lev.toNat ++ [kind]⟩))) :
    Ctr w mean mg mb 210 [.ref x, .int s ts, .int p tp, .int kind tk₀] (d + 3) core (RetM w c x dx dep (startF H s kind σ)) (ErrM w c x dx (startF H s kind σ)) := by
  obtain ⟨td, tl, l1, l2, vs1, vs2, n1, n2, rfl, i1, i2, q1, q2, q3, q4, q5, q6⟩ := M
  have v0 := V.l0; have v1 := V.l1; have v2 := V.e1; have v3 := V.e2; have v4 := V.e3
  refine' ctr_of_body (binds := [("self", .ref x), ("s", .int s ts), ("p", .int p tp), ("kind", .int kind tk₀)]) ?ho ?hcd ?hbind ?hloc ?hcell ?hco ?hgen ?hk ?hb
  case ho => k_is
  case hcd => k_is
  case hbind => exact fun _ _ => BindsTo.of_eq rfl
  case hloc => exact locs rfl
  case hcell => decide
  case hco => exact rfl
  case hgen => exact rfl
  case hk => exact rfl
  unfold Body
  intro dp un gd outer A₀ base g L h gn dr tk os Q E B F X N T hdp hun hlt hE hret hnext hpass hnew
  try dsimp only

  refine execs_splitM 4 (fun s' => ∃ h' m' tk' core', s' = ⟨h', gn, dr, tk', os⟩ ∧ Fr g L h' m' ∧ News g L h' core' ∧ m' "self" = some (.ref x) ∧ m' "s" = some (.int s ts) ∧ m' "p" = some (.int p tp) ∧ ¬ 32 ≤ σ.lev ∧ MC w c x dx dep ⟨σ.lev + 1, σ.ss.take σ.lev.toNat ++ [s], σ.ls.take σ.lev.toNat ++ [kind]⟩ core') ?_ ?_
  · intro Mq hMq
    dsimp only [List.take]
    k_steps
    all_goals first
      | (refine lua_back (by assumption) (by assumption) X (by k_asm) (hnew _ _ _ _ _ _ ?_ (by k_asm) (by k_asm) (by assumption)); exact ⟨by rw [startF, if_pos (by assumption)], _, _, _, _, _, _, by k_mem, by k_mem⟩)
      | (refine' CutQ.next (hMq.go _ ⟨_, _, _, [(x, instObj 253 dx), (dx, MD w c dep ?td (σ.lev + 1) ?tl ?a ?b), (?a, listOf (List.toArray ?v1) ?n1), (?b, listOf (List.toArray ?v2) ?n2)], rfl, by k_asm, ?N, by exact rfl, by exact rfl, by exact rfl, by assumption, ?M⟩)
         case N => refine news4 (by k_asm) ?_ ?_ ?_ ?_ <;> k_mem
         case M => exact ⟨_, _, _, _, _, _, _, _, rfl, by assumption, by assumption, by k_ne, by k_ne, by k_ne, by k_ne, by k_ne, by k_ne⟩)
  rintro _ ⟨h1, m1, tk1, core1, rfl, F1, N1, es, ess, ep, hd32, M1⟩
  clear F N i1 i2 q1 q2 q3 q4 q5 q6
  dsimp only [List.drop]
  refine execs_splitM 1 (fun s' => ∃ h' m' tk' v core', s' = ⟨h', gn, dr, tk', os⟩ ∧ Fr g L h' m' ∧ News g L h' core' ∧ m' "self" = some (.ref x) ∧ m' "found" = some v ∧ RetM w c x dx dep (H ⟨σ.lev + 1, σ.ss.take σ.lev.toNat ++ [s], σ.ls.take σ.lev.toNat ++ [kind]⟩) v core') ?_ ?_
  · intro Mq hMq
    dsimp only [List.take]
    obtain ⟨td1, tl1, l11, l12, mm1, mm2⟩ := M1.at
    have C1 := C hd32 M1 (ts := ts) (tp := tp)
    k_steps
    all_goals first
      | exact CutQ.next (hMq.go _ ⟨_, _, _, _, _, rfl, by k_asm, by k_asm, by assumption, by exact rfl, Hold.out (by assumption)⟩)
      | (rename_i r'; obtain ⟨⟨r1, r2⟩⟩ := r'; exact Hold.mk ⟨by rw [startF, if_neg hd32, r1], r2⟩)
  rintro _ ⟨h2, m2, tk2, v, core2, rfl, F2, N2, es, ef, r, σ2, e3, iv, M2⟩
  clear F1 N1 M1
  dsimp only [List.drop]
  obtain ⟨td', tl', l1', l2', vs1', vs2', n1', n2', rfl, i1, i2, q1, q2, q3, q4, q5, q6⟩ := M2
  cases iv with
  | none =>
    have e4 : startF H s kind σ = some (none, ⟨σ2.lev - 1, σ2.ss, σ2.ls⟩) := by rw [startF, if_neg hd32, e3]
    k_steps
    all_goals (refine hret _ _ _ _ _ ?_ (by k_asm) (by k_asm); exact ⟨none, _, e4, .none, _, _, _, _, _, _, _, _, rfl, i1, i2, q1, q2, q3, q4, q5, q6⟩)
  | @some r1 t1 =>
    have e4 : startF H s kind σ = some (some r1, σ2) := by rw [startF, if_neg hd32, e3]
    k_steps
    all_goals (refine hret _ _ _ _ _ ?_ (by k_asm) (by k_asm); exact ⟨some _, _, e4, .some, _, _, _, _, _, _, _, _, rfl, i1, i2, q1, q2, q3, q4, q5, q6⟩)
end
-- M7c
theorem freshM7c : True := by w_top off; trivial
section
variable {w : World} {mean : ExcName → Option Value} {mg mb : Str → Option Value} {x dx : Addr} {c : Cf} {dep : Int} {core : Core} {txt pat : List Int}
set_option maxHeartbeats 16000000
theorem closeLoop_lt {ls : List Int} {r : Int} : ∀ {n : Nat}, closeLoop ls n = some r → 0 ≤ r ∧ r < (n : Int)
  | 0, h => by cases h
  | n + 1, h => by
    rw [closeLoop] at h
    split at h
    · cases h; omega
    · have := closeLoop_lt h; omega
theorem closeF_lt {ls : List Int} {lev r : Int} (h : closeF ls lev = some r) (h0 : 0 ≤ lev) : 0 ≤ r ∧ r < lev := by
  have := closeLoop_lt h
  omega
noncomputable def endF (H : Sg → Res) (s : Int) (σ : Sg) : Res :=
  match closeF σ.ls σ.lev with
  | none => none
  | some n =>
    match H ⟨σ.lev, σ.ss, σ.ls.set n.toNat (s - σ.ss.getD n.toNat 0)⟩ with
    | none => none
    | some (none, σ') => some (none, ⟨σ'.lev, σ'.ss, σ'.ls.set n.toNat (-1)⟩)
    | some (some r, σ') => some (some r, σ')
theorem end_ok {d : Nat} {s p : Int} {ts tp : Tok} {σ : Sg} {H : Sg → Res} (O : CfOk c txt pat) (M : MC w c x dx dep σ core) (V : Inv txt σ s)
    (C : ∀ {n : Int} {core' : Core}, closeF σ.ls σ.lev = some n → MC w c x dx dep ⟨σ.lev, σ.ss, σ.ls.set n.toNat (s - σ.ss.getD n.toNat 0)⟩ core' → ∀ {ts tp : Tok}, Ctr w mean mg mb 161 [.ref x, .int s ts, .int p tp] d core'
      (RetM w c x dx dep (H ⟨σ.lev, σ.ss, σ.ls.set n.toNat (s - σ.ss.getD n.toNat 0)⟩)) (ErrM w c x dx (H ⟨σ.lev, σ.ss, σ.ls.set n.toNat (s - σ.ss.getD n.toNat 0)⟩)))
    (HS : ∀ {n : Int} {σ' : Sg}, closeF σ.ls σ.lev = some n → H ⟨σ.lev, σ.ss, σ.ls.set n.toNat (s - σ.ss.getD n.toNat 0)⟩ = some (none, σ') → Same ⟨σ.lev, σ.ss, σ.ls.set n.toNat (s - σ.ss.getD n.toNat 0)⟩ σ') :
    Ctr w mean mg mb 217 [.ref x, .int s ts, .int p tp] (d + 3) core (RetM w c x dx dep (endF H s σ)) (ErrM w c x dx (endF H s σ)) := by
  obtain ⟨td, tl, l1, l2, vs1, vs2, n1, n2, mm1, mm2, S⟩ := M.open V
  refine' ctr_of_body (binds := [("self", .ref x), ("s", .int s ts), ("p", .int p tp)]) ?ho ?hcd ?hbind ?hloc ?hcell ?hco ?hgen ?hk ?hb
  case ho => k_is
  case hcd => k_is
  case hbind => exact fun _ _ => BindsTo.of_eq rfl
  case hloc => exact locs rfl
  case hcell => decide
  case hco => exact rfl
  case hgen => exact rfl
  case hk => exact rfl
  unfold Body
  intro dp un gd outer A₀ base g L h gn dr tk os Q E B F X N T hdp hun hlt hE hret hnext hpass hnew
  try dsimp only

  refine execs_splitM 1 (fun s' => ∃ h' m' tk' n tn, s' = ⟨h', gn, dr, tk', os⟩ ∧ Fr g L h' m' ∧ News g L h' core ∧ m' "self" = some (.ref x) ∧ m' "s" = some (.int s ts) ∧ m' "p" = some (.int p tp) ∧ m' "number" = some (.int n tn) ∧ closeF σ.ls σ.lev = some n) ?_ ?_
  · intro Mq hMq
    dsimp only [List.take]
    k_steps
    all_goals first
      | exact CutQ.next (hMq.go _ ⟨_, _, _, _, _, rfl, by k_asm, by k_asm, by exact rfl, by exact rfl, by exact rfl, by exact rfl, by assumption⟩)
      | (rename_i r'; obtain ⟨⟨r1, r2⟩⟩ := r'; exact Hold.mk ⟨by rw [endF, r2], by rw [r1]; exact M.me⟩)
  rintro _ ⟨h1, m1, tk1, n, tn, rfl, F1, N1, es, ess, ep, en, hn⟩
  clear F N mm1 mm2 S
  dsimp only [List.drop]
  have M' := M
  obtain ⟨td, tl, l1, l2, vs1, vs2, n1, n2, rfl, i1, i2, q1, q2, q3, q4, q5, q6⟩ := M'
  have v0 := V.l0; have v1 := V.l1; have v2 := V.e1; have v3 := V.e2; have v4 := V.e3
  obtain ⟨z1, z2⟩ := closeF_lt hn v0
  refine execs_splitM 1 (fun s' => ∃ h' m' tk' core', s' = ⟨h', gn, dr, tk', os⟩ ∧ Fr g L h' m' ∧ News g L h' core' ∧ m' "self" = some (.ref x) ∧ m' "s" = some (.int s ts) ∧ m' "p" = some (.int p tp) ∧ m' "number" = some (.int n tn) ∧ MC w c x dx dep ⟨σ.lev, σ.ss, σ.ls.set n.toNat (s - σ.ss.getD n.toNat 0)⟩ core') ?_ ?_
  · intro Mq hMq
    dsimp only [List.take]
    k_steps
    all_goals exact CutQ.next (hMq.go _ ⟨_, _, _, _, rfl, by k_asm, by k_asm, by assumption, by assumption, by assumption, by assumption, _, _, _, _, _, _, _, _, rfl, i1, by assumption, q1, q2, q3, q4, q5, q6⟩)
  rintro _ ⟨h3, m3, tk3, core1, rfl, F3, N3, es3, ess3, ep3, en3, M1⟩
  clear F1 N1 i1 i2 q1 q2 q3 q4 q5 q6 es ess ep en
  dsimp only [List.drop]
  refine execs_splitM 1 (fun s' => ∃ h' m' tk' v core', s' = ⟨h', gn, dr, tk', os⟩ ∧ Fr g L h' m' ∧ News g L h' core' ∧ m' "self" = some (.ref x) ∧ m' "number" = some (.int n tn) ∧ m' "found" = some v ∧ RetM w c x dx dep (H ⟨σ.lev, σ.ss, σ.ls.set n.toNat (s - σ.ss.getD n.toNat 0)⟩) v core') ?_ ?_
  · intro Mq hMq
    dsimp only [List.take]
    obtain ⟨td1, tl1, l11, l12, mm1, mm2⟩ := M1.at
    have C1 := C hn M1 (ts := ts) (tp := tp)
    k_steps
    all_goals first
      | exact CutQ.next (hMq.go _ ⟨_, _, _, _, _, rfl, by k_asm, by k_asm, by assumption, by assumption, by exact rfl, Hold.out (by assumption)⟩)
      | (rename_i r'; obtain ⟨⟨r1, r2⟩⟩ := r'; exact Hold.mk ⟨by rw [endF, hn]; dsimp only; rw [r1], r2⟩)
  rintro _ ⟨h2, m2, tk2, v, core2, rfl, F2, N2, es, en, ef, r, σ2, e3, iv, M2⟩
  clear F3 N3 M1
  dsimp only [List.drop]
  obtain ⟨td', tl', l1', l2', vs1', vs2', n1', n2', rfl, i1, i2, q1, q2, q3, q4, q5, q6⟩ := M2
  cases iv with
  | none =>
    have e4 : endF H s σ = some (none, ⟨σ2.lev, σ2.ss, σ2.ls.set n.toNat (-1)⟩) := by rw [endF, hn]; dsimp only; rw [e3]
    have hS := HS hn e3
    have g1 : σ2.lev = σ.lev := hS.l
    have g2 := hS.e1; have g3 := hS.e2; have g4 := hS.e3
    k_steps
    all_goals (refine hret _ _ _ _ _ ?_ (by k_asm) (by k_asm); exact ⟨none, _, e4, .none, _, _, _, _, _, _, _, _, rfl, i1, by assumption, q1, q2, q3, q4, q5, q6⟩)
  | @some r1 t1 =>
    have e4 : endF H s σ = some (some r1, σ2) := by rw [endF, hn]; dsimp only; rw [e3]
    k_steps
    all_goals (refine hret _ _ _ _ _ ?_ (by k_asm) (by k_asm); exact ⟨some _, _, e4, .some, _, _, _, _, _, _, _, _, rfl, i1, i2, q1, q2, q3, q4, q5, q6⟩)
end
-- M7d
theorem freshM7d : True := by w_top off; trivial
local macro_rules | `(tactic| top_argsB) => `(tactic| exact is_single_ok (by assumption) (by k_mem) (by k_mem) (by omega) (by omega) (by omega) (by assumption))
local macro_rules | `(tactic| walk_at "call ref") => `(tactic| (k_here; (with_reducible show wpAny _ _ (call (Value.ref 161) _) _ _ _); k_dflt (top_raise; (case kC => exact (by assumption : ∀ ts tp : Tok, Ctr _ _ _ _ 161 [_, .int _ ts, .int _ tp] _ _ _ _) _ _); top_caught; intro v' core' h' tk' r' F' N' _ _; obtain ⟨q1', q2', e3', iv', M'⟩ := r'; have M2' := M'; obtain ⟨td', tl', l1', l2', mm1', mm2'⟩ := M2'.at; clear M2'; cases iv'; top_strB)))
section
variable {w : World} {mean : ExcName → Option Value} {mg mb : Str → Option Value} {x dx : Addr} {c : Cf} {dep : Int} {core : Core} {txt pat : List Int}
set_option maxHeartbeats 16000000
noncomputable def runF (txt pat : List Int) (s p e : Int) : Nat → Int → Int
  | 0, m => m
  | n + 1, m => if isSingleF txt pat (s + m) p e = true then runF txt pat s p e n (m + 1) else m
noncomputable def downG (H : Int → Sg → Res) (s : Int) : Nat → Sg → Res
  | 0, σ => some (none, σ)
  | n + 1, σ => match H (s + n) σ with
    | none => none
    | some (none, σ') => downG H s n σ'
    | some (some r, σ') => some (some r, σ')
noncomputable def mostF (txt pat : List Int) (H : Int → Sg → Res) (s p e : Int) (σ : Sg) : Res := downG H s (runF txt pat s p e (txt.length + 1) 0 + 1).toNat σ
theorem single_lt {s p e : Int} (h : isSingleF txt pat s p e = true) : s < (txt.length : Int) := by
  unfold isSingleF at h
  split at h
  · cases h
  · omega
/-- match, asked at any place from s on -/
noncomputable def Asks (w : World) (mean : ExcName → Option Value) (mg mb : Str → Option Value) (c : Cf) (x dx : Addr) (dep : Int) (txt : List Int) (d : Nat) (H : Int → Sg → Res) (p : Int) : Prop :=
  ∀ {s : Int} {σ : Sg} {core : Core}, Inv txt σ s → MC w c x dx dep σ core → ∀ {ts tp : Tok}, Ctr w mean mg mb 161 [.ref x, .int s ts, .int p tp] d core (RetM w c x dx dep (H s σ)) (ErrM w c x dx (H s σ))
noncomputable def Keeps (txt : List Int) (H : Int → Sg → Res) : Prop := ∀ {s : Int} {σ σ' : Sg}, Inv txt σ s → H s σ = some (none, σ') → Same σ σ'
theorem most_ok {d : Nat} {s p e : Int} {ts tp te : Tok} {σ : Sg} {H : Int → Sg → Res} (O : CfOk c txt pat) (M : MC w c x dx dep σ core) (V : Inv txt σ s) (h0 : 0 ≤ p) (h1 : p < (pat.length : Int)) (he : classEndF pat p = some e)
    (C : Asks w mean mg mb c x dx dep txt d H (e + 1)) (HS : Keeps txt H) (hd6 : 6 ≤ d) :
    Ctr w mean mg mb 196 [.ref x, .int s ts, .int p tp, .int e te] (d + 3) core (RetM w c x dx dep (mostF txt pat H s p e σ)) (ErrM w c x dx (mostF txt pat H s p e σ)) := by
  obtain ⟨td, tl, l1, l2, mm1, mm2⟩ := M.at
  have s0 := V.s0; have s1 := V.s1
  have lx := O.lx; have lp := O.lp
  refine' ctr_of_body (binds := [("self", .ref x), ("s", .int s ts), ("p", .int p tp), ("end", .int e te)]) ?ho ?hcd ?hbind ?hloc ?hcell ?hco ?hgen ?hk ?hb
  case ho => k_is
  case hcd => k_is
  case hbind => exact fun _ _ => BindsTo.of_eq rfl
  case hloc => exact locs rfl
  case hcell => decide
  case hco => exact rfl
  case hgen => exact rfl
  case hk => exact rfl
  unfold Body
  intro dp un gd outer A₀ base g L h gn dr tk os Q E B F X N T hdp hun hlt hE hret hnext hpass hnew
  try dsimp only

  refine execs_splitM 1 (fun s' => ∃ h' m' tk' k tk, s' = ⟨h', gn, dr, tk', os⟩ ∧ Fr g L h' m' ∧ News g L h' core ∧ m' "self" = some (.ref x) ∧ m' "s" = some (.int s ts) ∧ m' "p" = some (.int p tp) ∧ m' "end" = some (.int e te) ∧ m' "many" = some (.int k tk) ∧ k = 0) ?_ ?_
  · intro Mq hMq
    dsimp only [List.take]
    k_steps
    all_goals exact CutQ.next (hMq.go _ ⟨_, _, _, _, _, rfl, by k_asm, by k_asm, by exact rfl, by exact rfl, by exact rfl, by exact rfl, by exact rfl, rfl⟩)
  rintro _ ⟨h1', m1, tk1, k, tk, rfl, F1, N1, es, ess, ep, ee, ek, e0⟩
  clear F N
  dsimp only [List.drop]
  refine execs_cutM (fun s' => ∃ h' m' tk' k tk, s' = ⟨h', gn, dr, tk', os⟩ ∧ Fr g L h' m' ∧ News g L h' core ∧ m' "self" = some (.ref x) ∧ m' "s" = some (.int s ts) ∧ m' "end" = some (.int e te) ∧ m' "many" = some (.int k tk) ∧ 0 ≤ k ∧ s + k ≤ (txt.length : Int) ∧ k = runF txt pat s p e (txt.length + 1) 0) ?_ ?_
  · intro Mq hMq
    refine whl_start 0 ?_
    obtain ⟨n, hn⟩ : ∃ n, n = txt.length + 1 := ⟨_, rfl⟩
    have hR : runF txt pat s p e n k = runF txt pat s p e (txt.length + 1) 0 := by rw [hn, e0]
    have hm : (txt.length : Int) + 1 ≤ s + k + n := by omega
    have hlo : 0 ≤ k := by omega
    have hhi : s + k ≤ (txt.length : Int) := by omega
    clear e0 hn
    induction n generalizing k tk h1' m1 tk1 with
    | zero => omega
    | succ n ih =>
      refine whl_turn (k := 0) hE ?_
      k_steps
      all_goals first
        | (refine Hold.mk ?_; have hl := single_lt (by assumption : isSingleF txt pat (s + k) p e = true); apply ih <;> first | k_asm | exact rfl | assumption | omega | (rw [← hR, runF, if_pos (by assumption)]))
        | (refine CutQ.next (hMq.go _ ⟨_, _, _, k, _, rfl, by k_asm, by k_asm, by assumption, by assumption, by assumption, by assumption, hlo, hhi, ?_⟩); rw [← hR, runF, if_neg (by simp [*])])
  rintro _ ⟨h2', m2, tk2, k, tk2', rfl, F2, N2, es, ess, ee, ek, hlo, hhi, e3⟩
  clear F1 N1 ep
  obtain ⟨n, hn⟩ : ∃ n, n = (k + 1).toNat := ⟨_, rfl⟩
  have hR : downG H s n σ = mostF txt pat H s p e σ := by rw [hn, e3]; rfl
  have hk : k = (n : Int) - 1 := by omega
  clear e3 hlo hn td tl l1 l2 mm1 mm2 hlt
  refine execs_cutM (fun s' => ∃ h' m' tk' core' σ', s' = ⟨h', gn, dr, tk', os⟩ ∧ Fr g L h' m' ∧ News g L h' core' ∧ mostF txt pat H s p e σ = some (none, σ') ∧ MC w c x dx dep σ' core') ?_ ?_
  · intro Mq hMq
    refine whl_start 0 ?_
    generalize mostF txt pat H s p e σ = R at hR hret hpass hnew hnext hMq
    induction n generalizing k tk2' h2' m2 tk2 σ core with
    | zero =>
      refine whl_turn (k := 0) hE ?_
      k_steps
      all_goals first | (exfalso; omega) | exact CutQ.next (hMq.go _ ⟨_, _, _, _, _, rfl, by k_asm, by k_asm, hR.symm, M⟩)
    | succ n ih =>
      obtain ⟨td, tl, l1, l2, mm1, mm2⟩ := M.at
      have hs' : s + k = s + (n : Int) := by omega
      have V' : Inv txt σ (s + k) := V.up (by omega) (by omega)
      have C1 := fun (ts tp : Tok) => C V' M (ts := ts) (tp := tp)
      have HS1 := fun {σ' : Sg} => HS (σ' := σ') V'
      refine whl_turn (k := 0) hE ?_
      k_steps
      all_goals first
        | (exfalso; omega)
        | (rename_i r'; obtain ⟨⟨r1, r2⟩⟩ := r'; exact Hold.mk ⟨by rw [← hR, downG, ← hs', r1], r2⟩)
        | (have e3' := (by assumption : H (s + k) σ = some (none, _)); have V2 := V.same (HS1 e3'); refine Hold.mk ?_
           apply ih (by assumption) V2 <;> first | k_asm | exact rfl | assumption | omega | (rw [← hR, downG, ← hs', e3']))
        | (have e3' := (by assumption : H (s + k) σ = some (some _, _))
           (refine CutQ.ret (hret _ _ _ _ _ ?_ (by k_asm) (by k_asm)); exact ⟨some _, _, by rw [← hR, downG, ← hs', e3'], .some, by assumption⟩))
  rintro _ ⟨h2, m2, tk2, core2, σ2, rfl, F2, N2, e3, M2⟩
  k_steps
  all_goals (refine hret _ _ _ _ _ ?_ (by k_asm) (by k_asm); exact ⟨none, _, e3, .none, M2⟩)
end
-- M7e
theorem freshM7e : True := by w_top off; trivial
section
variable {w : World} {mean : ExcName → Option Value} {mg mb : Str → Option Value} {x dx : Addr} {c : Cf} {dep : Int} {core : Core} {txt pat : List Int}
set_option maxHeartbeats 16000000
noncomputable def upF (txt pat : List Int) (H : Int → Sg → Res) (p e : Int) : Nat → Int → Sg → Res
  | 0, _, _ => none
  | n + 1, s, σ => match H s σ with
    | none => none
    | some (none, σ') => if isSingleF txt pat s p e = true then upF txt pat H p e n (s + 1) σ' else some (none, σ')
    | some (some r, σ') => some (some r, σ')
noncomputable def leastF (txt pat : List Int) (H : Int → Sg → Res) (s p e : Int) (σ : Sg) : Res := upF txt pat H p e (txt.length + 1) s σ
theorem least_ok {d : Nat} {s p e : Int} {ts tp te : Tok} {σ : Sg} {H : Int → Sg → Res} (O : CfOk c txt pat) (M : MC w c x dx dep σ core) (V : Inv txt σ s) (h0 : 0 ≤ p) (h1 : p < (pat.length : Int)) (he : classEndF pat p = some e)
    (C : Asks w mean mg mb c x dx dep txt d H (e + 1)) (HS : Keeps txt H) (hd6 : 6 ≤ d) :
    Ctr w mean mg mb 203 [.ref x, .int s ts, .int p tp, .int e te] (d + 3) core (RetM w c x dx dep (leastF txt pat H s p e σ)) (ErrM w c x dx (leastF txt pat H s p e σ)) := by
  have lx := O.lx; have lp := O.lp
  refine' ctr_of_body (binds := [("self", .ref x), ("s", .int s ts), ("p", .int p tp), ("end", .int e te)]) ?ho ?hcd ?hbind ?hloc ?hcell ?hco ?hgen ?hk ?hb
  case ho => k_is
  case hcd => k_is
  case hbind => exact fun _ _ => BindsTo.of_eq rfl
  case hloc => exact locs rfl
  case hcell => decide
  case hco => exact rfl
  case hgen => exact rfl
  case hk => exact rfl
  unfold Body
  intro dp un gd outer A₀ base g L h gn dr tk os Q E B F X N T hdp hun hlt hE hret hnext hpass hnew
  try dsimp only

  refine execs_splitM 0 (fun s' => ∃ h' m' tk' s1 ts1, s' = ⟨h', gn, dr, tk', os⟩ ∧ Fr g L h' m' ∧ News g L h' core ∧ m' "self" = some (.ref x) ∧ m' "s" = some (.int s1 ts1) ∧ m' "p" = some (.int p tp) ∧ m' "end" = some (.int e te) ∧ s1 = s) ?_ ?_
  · intro Mq hMq
    dsimp only [List.take]
    k_steps
    all_goals exact CutQ.next (hMq.go _ ⟨_, _, _, _, _, rfl, by k_asm, by k_asm, by exact rfl, by exact rfl, by exact rfl, by exact rfl, rfl⟩)
  rintro _ ⟨h1', m1, tk1, s1, ts1, rfl, F1, N1, es, ess, ep, ee, e0⟩
  clear F N
  dsimp only [List.drop]
  obtain ⟨n, hn⟩ : ∃ n, n = txt.length + 1 := ⟨_, rfl⟩
  have hR : upF txt pat H p e n s1 σ = leastF txt pat H s p e σ := by rw [hn, e0]; rfl
  rw [← e0] at V
  have s0 := V.s0; have s1' := V.s1
  have hm : (txt.length : Int) + 1 ≤ s1 + n := by omega
  clear e0 hn hlt
  refine execs_cut (fun s' => False) ?_ ?_
  · refine whl_start 0 ?_
    generalize leastF txt pat H s p e σ = R at hR hret hpass hnew hnext
    induction n generalizing s1 ts1 h1' m1 tk1 σ core with
    | zero => omega
    | succ n ih =>
      obtain ⟨td, tl, l1, l2, mm1, mm2⟩ := M.at
      have C1 := fun (ts tp : Tok) => C V M (ts := ts) (tp := tp)
      have HS1 := fun {σ' : Sg} => HS (σ' := σ') V
      refine whl_turn (k := 0) hE ?_
      k_steps
      all_goals first
        | (rename_i r'; obtain ⟨⟨r1, r2⟩⟩ := r'; exact Hold.mk ⟨by rw [← hR, upF, r1], r2⟩)
        | (have e3' := (by assumption : H s1 σ = some (some _, _))
           (refine CutQ.ret (hret _ _ _ _ _ ?_ (by k_asm) (by k_asm)); exact ⟨some _, _, by rw [← hR, upF, e3'], .some, by assumption⟩))
        | (have e3' := (by assumption : H s1 σ = some (none, _)); have q := (by assumption : isSingleF txt pat s1 p e = false)
           (refine CutQ.ret (hret _ _ _ _ _ ?_ (by k_asm) (by k_asm)); exact ⟨none, _, by rw [← hR, upF, e3']; dsimp only; rw [if_neg (by rw [q]; decide)], .none, by assumption⟩))
        | skip
      all_goals have e3' := (by assumption : H s1 σ = some (none, _))
      all_goals have q := (by assumption : isSingleF txt pat s1 p e = true)
      all_goals have hl := single_lt q
      all_goals have V2 := (V.same (HS1 e3')).up (s' := s1 + 1) (by omega) (by omega)
      all_goals refine Hold.mk ?_
      all_goals apply ih (V := V2)
      all_goals first | k_asm | exact rfl | assumption | omega | (rw [← hR, upF, e3']; dsimp only; rw [if_pos q])
      all_goals trace_state
  rintro _ ⟨⟩
end
-- M8p
theorem freshM8p : True := by w_top off; trivial
section
/-- match_here -/
noncomputable def hereF (txt pat : List Int) : Nat → Int → Int → Int → Sg → Res
  | 0, _, _, _, _ => none
  | n + 1, dep, s, p, σ =>
    if (pat.length : Int) ≤ p then some (some s, σ)
    else if pat.getD p.toNat 0 = 40 then
      if atF pat (p + 1) = 41 then startF (fun σ => deepF dep (hereF txt pat n (dep + 1) s (p + 2) σ)) s (-2) σ
      else startF (fun σ => deepF dep (hereF txt pat n (dep + 1) s (p + 1) σ)) s (-1) σ
    else if pat.getD p.toNat 0 = 41 then endF (fun σ => deepF dep (hereF txt pat n (dep + 1) s (p + 1) σ)) s σ
    else if pat.getD p.toNat 0 = 36 ∧ p + 1 = (pat.length : Int) then if s = (txt.length : Int) then some (some s, σ) else some (none, σ)
    else if pat.getD p.toNat 0 = 37 ∧ (atF pat (p + 1) = 98 ∨ atF pat (p + 1) = 102 ∨ isDigit (atF pat (p + 1)) = true) then
      match specF txt pat σ.lev σ.ss σ.ls s p (atF pat (p + 1)) with
      | none => none
      | some (none, _) => some (none, σ)
      | some (some s', p') => hereF txt pat n dep s' p' σ
    else match classEndF pat p with
      | none => none
      | some e =>
        if atF pat e = 42 then mostF txt pat (fun s σ => deepF dep (hereF txt pat n (dep + 1) s (e + 1) σ)) s p e σ
        else if atF pat e = 43 then
          if isSingleF txt pat s p e = true then mostF txt pat (fun s σ => deepF dep (hereF txt pat n (dep + 1) s (e + 1) σ)) (s + 1) p e σ else some (none, σ)
        else if atF pat e = 45 then leastF txt pat (fun s σ => deepF dep (hereF txt pat n (dep + 1) s (e + 1) σ)) s p e σ
        else if atF pat e = 63 then
          if isSingleF txt pat s p e = true then
            match deepF dep (hereF txt pat n (dep + 1) (s + 1) (e + 1) σ) with
            | none => none
            | some (none, σ') => hereF txt pat n dep s (e + 1) σ'
            | some (some r, σ') => some (some r, σ')
          else hereF txt pat n dep s (e + 1) σ
        else if isSingleF txt pat s p e = true then hereF txt pat n dep (s + 1) e σ
        else some (none, σ)
variable {txt pat : List Int}
theorem itec {α : Type} {c : Prop} [Decidable c] {a b r : α} (h : (if c then a else b) = r) : (c ∧ a = r) ∨ (¬ c ∧ b = r) := by
  by_cases q : c
  · exact .inl ⟨q, by rw [← h, if_pos q]⟩
  · exact .inr ⟨q, by rw [← h, if_neg q]⟩
theorem deepF_none {dep : Int} {H : Res} {σ : Sg} (h : deepF dep H = some (none, σ)) : H = some (none, σ) := by
  unfold deepF at h
  split at h
  · cases h
  · exact h
theorem getD_take {l : List Int} {n i : Nat} {z : Int} (h : i < n) (h2 : n ≤ l.length) : (l.take n ++ [z]).getD i 0 = l.getD i 0 := by
  simp only [List.getD_eq_getElem?_getD]
  rw [List.getElem?_append_left (by rw [List.length_take]; omega), List.getElem?_take, if_pos h]
theorem getD_end {l : List Int} {n : Nat} {z : Int} (h2 : n ≤ l.length) : (l.take n ++ [z]).getD n 0 = z := by
  simp only [List.getD_eq_getElem?_getD]
  rw [List.getElem?_append_right (by rw [List.length_take]; omega), List.length_take, Nat.min_eq_left h2, Nat.sub_self]
  rfl
theorem getD_set {l : List Int} {n i : Nat} {z : Int} : (l.set n z).getD i 0 = if i = n ∧ n < l.length then z else l.getD i 0 := by
  simp only [List.getD_eq_getElem?_getD, List.getElem?_set]
  by_cases h : n = i
  · subst h
    by_cases h2 : n < l.length
    · simp [h2]
    · simp [h2, List.getElem?_eq_none (Nat.le_of_not_lt h2)]
  · rw [if_neg h, if_neg (fun q => h q.1.symm)]
theorem start_inv {s kind : Int} {σ : Sg} (V : Inv txt σ s) (h : ¬ 32 ≤ σ.lev) (hk : -2 ≤ kind) : Inv txt ⟨σ.lev + 1, σ.ss.take σ.lev.toNat ++ [s], σ.ls.take σ.lev.toNat ++ [kind]⟩ s := by
  obtain ⟨l0, l1, e1, e2, e3, s0, s1, b⟩ := V
  refine ⟨by dsimp only; omega, by dsimp only; omega, ?_, ?_, ?_, s0, s1, ?_⟩
  · simp only [List.length_append, List.length_take, List.length_cons, List.length_nil]; omega
  · simp only [List.length_append, List.length_take, List.length_cons, List.length_nil]; omega
  · simp only [List.length_append, List.length_take, List.length_cons, List.length_nil]; omega
  · intro i hi
    dsimp only at hi ⊢
    by_cases q : i < σ.lev.toNat
    · rw [getD_take q (by omega), getD_take q (by omega)]
      exact b i (by omega)
    · have : i = σ.lev.toNat := by omega
      subst this
      rw [getD_end (by omega), getD_end (by omega)]
      omega
theorem start_same {s kind : Int} {σ σ' : Sg} {H : Sg → Res} (V : Inv txt σ s) (hk : -2 ≤ kind)
    (HS : ∀ {σ σ' : Sg}, Inv txt σ s → H σ = some (none, σ') → Same σ σ') (h : startF H s kind σ = some (none, σ')) : Same σ σ' := by
  unfold startF at h
  split at h
  · cases h
  rename_i hl
  have V' := start_inv V hl hk
  split at h
  · cases h
  · rename_i σ2 e
    cases h
    obtain ⟨l, e1, e2, e3, b⟩ := HS V' e
    obtain ⟨l0, l1, f1, f2, f3, s0, s1, b'⟩ := V
    dsimp only at l b
    refine ⟨by dsimp only; omega, by dsimp only; omega, e2, e3, fun i hi => ?_⟩
    have := b i (by omega)
    rw [getD_take (by omega) (by omega), getD_take (by omega) (by omega)] at this
    exact this
  · cases h
theorem closeLoop_at {ls : List Int} {r : Int} : ∀ {n : Nat}, closeLoop ls n = some r → ls.getD r.toNat 0 = -1
  | 0, h => by cases h
  | n + 1, h => by
    rw [closeLoop] at h
    split at h
    · cases h; assumption
    · exact closeLoop_at h
theorem end_inv {s n : Int} {σ : Sg} (V : Inv txt σ s) (h : closeF σ.ls σ.lev = some n) : Inv txt ⟨σ.lev, σ.ss, σ.ls.set n.toNat (s - σ.ss.getD n.toNat 0)⟩ s := by
  have hl := closeF_lt h V.l0
  obtain ⟨l0, l1, e1, e2, e3, s0, s1, b⟩ := V
  refine ⟨l0, l1, e1, by rw [List.length_set]; exact e2, e3, s0, s1, fun i hi => ?_⟩
  have hb := b i hi
  dsimp only at hi ⊢
  rw [getD_set]
  split
  · rename_i q
    rw [← q.1]
    omega
  · exact hb
theorem end_same {s : Int} {σ σ' : Sg} {H : Sg → Res} (V : Inv txt σ s) (HS : ∀ {σ σ' : Sg}, Inv txt σ s → H σ = some (none, σ') → Same σ σ') (h : endF H s σ = some (none, σ')) : Same σ σ' := by
  unfold endF at h
  split at h
  · cases h
  rename_i n hn
  have V' := end_inv V hn
  have ha := closeLoop_at hn
  have hl := closeF_lt hn V.l0
  split at h
  · cases h
  · rename_i σ2 e
    cases h
    obtain ⟨l, e1, e2, e3, b⟩ := HS V' e
    dsimp only at l b
    refine ⟨l, e1, by rw [List.length_set]; exact e2, e3, fun i hi => ⟨(b i hi).1, ?_⟩⟩
    have hb := (b i hi).2
    try dsimp only
    rw [getD_set] at hb ⊢
    split
    · rename_i q
      rw [q.1, ha]
    · rename_i q
      rw [hb, if_neg]
      rintro ⟨q1, q2⟩
      exact q ⟨q1, by omega⟩
  · cases h
theorem down_same {H : Int → Sg → Res} {s : Int} {σ' : Sg} (HS : Keeps txt H) : ∀ {n : Nat} {σ : Sg}, Inv txt σ s → s + n ≤ (txt.length : Int) + 1 → downG H s n σ = some (none, σ') → Same σ σ'
  | 0, σ, V, _, h => by cases h; exact Same.refl V
  | n + 1, σ, V, hn, h => by
    rw [downG] at h
    split at h
    · cases h
    · rename_i σ2 e
      have S := HS (V.up (s' := s + (n : Int)) (by omega) (by omega)) e
      exact S.trans (down_same HS (V.same S) (by omega) h)
    · cases h
theorem up_same {H : Int → Sg → Res} {p e : Int} {σ' : Sg} (HS : Keeps txt H) : ∀ {n : Nat} {s : Int} {σ : Sg}, Inv txt σ s → upF txt pat H p e n s σ = some (none, σ') → Same σ σ'
  | 0, s, σ, V, h => by cases h
  | n + 1, s, σ, V, h => by
    rw [upF] at h
    split at h
    · cases h
    · rename_i σ2 e
      have S := HS V e
      split at h
      · rename_i q
        have hl := single_lt q
        exact S.trans (up_same HS ((V.same S).up (s' := s + 1) (by omega) (by omega)) h)
      · cases h; exact S
    · cases h
theorem run_hi {s p e : Int} : ∀ {n : Nat} {m : Int}, s + m ≤ (txt.length : Int) → m ≤ runF txt pat s p e n m ∧ s + runF txt pat s p e n m ≤ (txt.length : Int)
  | 0, m, h => ⟨Int.le_refl _, h⟩
  | n + 1, m, h => by
    rw [runF]
    split
    · rename_i q
      have hl := single_lt q
      have := run_hi (n := n) (m := m + 1) (s := s) (p := p) (e := e) (by omega)
      omega
    · exact ⟨Int.le_refl _, h⟩
theorem most_same {H : Int → Sg → Res} {s p e : Int} {σ σ' : Sg} (HS : Keeps txt H) (V : Inv txt σ s) (h : mostF txt pat H s p e σ = some (none, σ')) : Same σ σ' := by
  have s1 := V.s1
  have := run_hi (n := txt.length + 1) (m := 0) (s := s) (p := p) (e := e) (pat := pat) (txt := txt) (by omega)
  exact down_same HS V (by omega) h
theorem balLoop_hi {b e r : Int} : ∀ {n : Nat} {o s : Int}, balLoop txt b e n o s = some r → s ≤ r ∧ r ≤ (txt.length : Int)
  | 0, _, _, h => by cases h
  | n + 1, o, s, h => by
    rw [balLoop] at h
    split at h
    · split at h
      · split at h
        · cases h; omega
        · have := balLoop_hi h; omega
      · split at h
        · have := balLoop_hi h; omega
        · have := balLoop_hi h; omega
    · cases h
theorem bal_hi {s p r : Int} (h : balF txt pat s p = some (some r)) : s ≤ r ∧ r ≤ (txt.length : Int) := by
  unfold balF at h
  split at h
  · cases h
  split at h
  · cases h
  split at h
  · cases h
  have := balLoop_hi (Option.some.inj h)
  omega
theorem bal_p {s p : Int} {r : Option Int} (h : balF txt pat s p = some r) : p + 2 ≤ (pat.length : Int) := by
  unfold balF at h
  split at h
  · cases h
  · omega
theorem front_hi {s p e : Int} {r : Option Int} (h : frontF txt pat s p = some (r, e)) : p < e ∧ e ≤ (pat.length : Int) ∧ ∀ s', r = some s' → s' = s := by
  unfold frontF at h
  split at h
  · cases h
  rename_i q
  have q91 : atF pat p = 91 := Decidable.byContradiction q
  split at h
  · cases h
  rename_i e' he
  have := classEnd_hi he (at_lt' q91)
  dsimp only at h
  rcases itec h with ⟨_, h⟩ | ⟨_, h⟩
  · cases h; exact ⟨this.1, this.2.1, fun _ z => by cases z⟩
  · cases h; exact ⟨this.1, this.2.1, fun _ z => by cases z; rfl⟩
theorem capt_hi {s digit r : Int} {σ : Sg} (V : Inv txt σ s) (h : captF txt σ.lev σ.ss σ.ls s digit = some (some r)) : s ≤ r ∧ r ≤ (txt.length : Int) := by
  unfold captF at h
  split at h
  · cases h
  split at h
  · cases h
  split at h
  · cases h
  dsimp only at h
  split at h
  · cases h
  split at h
  · cases h
  split at h
  · cases h
    have := (V.b (digit - 49).toNat (by omega)).2.2
    omega
  · cases h
theorem spec_hi {s p letter p' : Int} {r : Option Int} {σ : Sg} (V : Inv txt σ s) (hp : p + 2 ≤ (pat.length : Int)) (h : specF txt pat σ.lev σ.ss σ.ls s p letter = some (r, p')) :
    p < p' ∧ p' ≤ (pat.length : Int) ∧ ∀ s', r = some s' → s ≤ s' ∧ s' ≤ (txt.length : Int) := by
  have s1 := V.s1
  unfold specF at h
  split at h
  · split at h
    · rename_i e
      cases h
      have := bal_p e
      exact ⟨by omega, by omega, fun s' z => bal_hi (by rw [e, z])⟩
    · cases h
  split at h
  · have := front_hi h
    exact ⟨by omega, this.2.1, fun s' z => by rw [this.2.2 s' z]; omega⟩
  · split at h
    · rename_i e
      cases h
      exact ⟨by omega, hp, fun s' z => capt_hi V (by rw [e, z])⟩
    · cases h
theorem digit_ne {k : Int} (h : isDigit k = true) : k ≠ 0 := by
  rintro rfl
  exact absurd h (by decide)
theorem here_same : ∀ (n : Nat) (dep p : Int), Keeps txt (fun s σ => hereF txt pat n dep s p σ)
  | 0, _, _, s, σ, σ', V, h => by cases h
  | n + 1, dep, p, s, σ, σ', V, h => by
    have IH : ∀ p, Keeps txt (fun s σ => deepF dep (hereF txt pat n (dep + 1) s p σ)) := fun p {s σ σ'} V h => here_same n (dep + 1) p V (deepF_none h)
    have IH2 : ∀ p, Keeps txt (fun s σ => hereF txt pat n dep s p σ) := fun p => here_same n dep p
    replace h : hereF txt pat (n + 1) dep s p σ = some (none, σ') := h
    rw [hereF] at h
    rcases itec h with ⟨_, h⟩ | ⟨_, h⟩
    · cases h
    rcases itec h with ⟨_, h⟩ | ⟨_, h⟩
    · rcases itec h with ⟨_, h⟩ | ⟨_, h⟩
      · exact start_same V (by decide) (fun V' h' => IH (p + 2) V' h') h
      · exact start_same V (by decide) (fun V' h' => IH (p + 1) V' h') h
    rcases itec h with ⟨_, h⟩ | ⟨_, h⟩
    · exact end_same V (fun V' h' => IH (p + 1) V' h') h
    rcases itec h with ⟨_, h⟩ | ⟨_, h⟩
    · rcases itec h with ⟨_, h⟩ | ⟨_, h⟩
      · cases h
      · cases h; exact Same.refl V
    rcases itec h with ⟨q, h⟩ | ⟨_, h⟩
    · have hp : p + 2 ≤ (pat.length : Int) := by
        have : p + 1 < (pat.length : Int) := at_lt (by rcases q.2 with z | z | z; omega; omega; exact digit_ne z)
        omega
      split at h
      · cases h
      · cases h; exact Same.refl V
      · rename_i s' p' e
        have := (spec_hi V hp e).2.2 s' rfl
        exact IH2 p' (V.up this.1 this.2) h
    cases he : classEndF pat p with
    | none => rw [he] at h; cases h
    | some e =>
    rw [he] at h
    dsimp only at h
    rcases itec h with ⟨_, h⟩ | ⟨_, h⟩
    · exact most_same (IH (e + 1)) V h
    rcases itec h with ⟨_, h⟩ | ⟨_, h⟩
    · rcases itec h with ⟨q, h⟩ | ⟨_, h⟩
      · have hl := single_lt q
        exact most_same (IH (e + 1)) (V.up (s' := s + 1) (by omega) (by omega)) h
      · cases h; exact Same.refl V
    rcases itec h with ⟨_, h⟩ | ⟨_, h⟩
    · exact up_same (IH (e + 1)) V h
    rcases itec h with ⟨_, h⟩ | ⟨_, h⟩
    · rcases itec h with ⟨q, h⟩ | ⟨_, h⟩
      · have hl := single_lt q
        split at h
        · cases h
        · rename_i σ2 e2
          have S := IH (e + 1) (V.up (s' := s + 1) (by omega) (by omega)) e2
          exact S.trans (IH2 (e + 1) (V.same S) h)
        · cases h
      · exact IH2 (e + 1) V h
    rcases itec h with ⟨q, h⟩ | ⟨_, h⟩
    · have hl := single_lt q
      exact IH2 e (V.up (s' := s + 1) (by omega) (by omega)) h
    · cases h; exact Same.refl V
end
-- M8i
theorem freshM8i : True := by w_top off; trivial
section
open Builtin
theorem gives_bytes_contains (b : Array UInt8) (i : Int) (t u : Tok) (h0 : 0 ≤ i) (h1 : i < 256) : Gives («bytes.__contains__» ⟨[.bytes b t, .int i u], []⟩) (.val (.bool (b.contains i.toNat.toUInt8))) := by
  refine .of_wp fun M A E s Q hq => ?_
  show wpAny M A (Bytes.containsIn "bytes.__contains__" (.bytes b t) (.int i u) >>= fun r => _) _ E s
  refine wpAny_bind ?_
  unfold Bytes.containsIn
  have e : (asIndex (.int i u)).attempt = pure (.ok i) := rfl
  rw [e]
  refine wpAny_bind (wpAny_pure ?_)
  refine wpAny_bind ?_
  rw [KBy.buffer_eq]
  refine wpAny_pure ?_
  have c : (decide (i < 0) || decide (i ≥ 256)) = false := by simp; omega
  try dsimp only
  rw [c]
  exact wpAny_pure (wpAny_pure ⟨_, rfl, hq⟩)
section
variable {prog : Program} {w : World} {A : Around} {E : Value → Shared → Prop} {s : Shared} {b : Array UInt8} {t u : Tok} {i : Int}
theorem in_bytes {Q : Value → Shared → Prop} (h0 : 0 ≤ i) (h1 : i < 256) (h : Q (.bool (b.contains i.toNat.toUInt8)) s) : wpAny (model prog w) A (compareOp .In (.int i u) (.bytes b t)) Q E s :=
  in_gives (typeIs_bytes s b t) FB.slot_bytes_contains FB.entry_bytes_contains (FB.args_bytes_contains_2 _ _) (gives_bytes_contains b i t u h0 h1) h
theorem in_bf {Q : Value → Shared → Prop} (h0 : 0 ≤ i) (h1 : i < 256) (h : Q (.bool (decide (i = 98 ∨ i = 102))) s) : wpAny (model prog w) A (compareOp .In (.int i u) (.bytes #[98, 102] t)) Q E s := by
  refine in_bytes h0 h1 ?_
  have e : (#[(98 : UInt8), 102].contains i.toNat.toUInt8) = decide (i = 98 ∨ i = 102) := by
    have g : ∀ n : Fin 256, (#[(98 : UInt8), 102].contains (n.val).toUInt8) = decide ((n.val : Int) = 98 ∨ (n.val : Int) = 102) := by decide +kernel
    have := g ⟨i.toNat, by omega⟩
    rw [this]
    have hi : ((i.toNat : Nat) : Int) = i := by omega
    try dsimp only
    rw [hi]
  rw [e]
  exact h
end
theorem at_byte {c : Cf} {txt pat : List Int} (O : CfOk c txt pat) (p : Int) : 0 ≤ atF pat p ∧ atF pat p < 256 := by
  unfold atF
  split
  · rw [← O.hp]
    exact KBw.getD_in fun k hk => KBw.ints_in hk
  · decide
section
variable {txt pat : List Int} {k : Nat} {dep s p e : Int} {σ : Sg}
/-- neither a bracket, nor the end, nor a special -/
noncomputable def Plain (pat : List Int) (p : Int) : Prop := pat.getD p.toNat 0 ≠ 40 ∧ pat.getD p.toNat 0 ≠ 41 ∧ ¬ (pat.getD p.toNat 0 = 36 ∧ p + 1 = (pat.length : Int)) ∧ ¬ (pat.getD p.toNat 0 = 37 ∧ (atF pat (p + 1) = 98 ∨ atF pat (p + 1) = 102 ∨ isDigit (atF pat (p + 1)) = true))
theorem h_out (h : (pat.length : Int) ≤ p) : hereF txt pat (k + 1) dep s p σ = some (some s, σ) := by rw [hereF, if_pos h]
theorem h_open (h : p < (pat.length : Int)) (h1 : pat.getD p.toNat 0 = 40) (h2 : atF pat (p + 1) = 41) : hereF txt pat (k + 1) dep s p σ = startF (fun σ => deepF dep (hereF txt pat k (dep + 1) s (p + 2) σ)) s (-2) σ := by
  rw [hereF, if_neg (by omega), if_pos h1, if_pos h2]
theorem h_open' (h : p < (pat.length : Int)) (h1 : pat.getD p.toNat 0 = 40) (h2 : atF pat (p + 1) ≠ 41) : hereF txt pat (k + 1) dep s p σ = startF (fun σ => deepF dep (hereF txt pat k (dep + 1) s (p + 1) σ)) s (-1) σ := by
  rw [hereF, if_neg (by omega), if_pos h1, if_neg h2]
theorem h_close (h : p < (pat.length : Int)) (h1 : pat.getD p.toNat 0 = 41) : hereF txt pat (k + 1) dep s p σ = endF (fun σ => deepF dep (hereF txt pat k (dep + 1) s (p + 1) σ)) s σ := by
  rw [hereF, if_neg (by omega), if_neg (by omega), if_pos h1]
theorem h_dollar (h : p < (pat.length : Int)) (h1 : pat.getD p.toNat 0 = 36) (h2 : p + 1 = (pat.length : Int)) (h3 : s = (txt.length : Int)) : hereF txt pat (k + 1) dep s p σ = some (some s, σ) := by
  rw [hereF, if_neg (by omega), if_neg (by omega), if_neg (by omega), if_pos ⟨h1, h2⟩, if_pos h3]
theorem h_dollar' (h : p < (pat.length : Int)) (h1 : pat.getD p.toNat 0 = 36) (h2 : p + 1 = (pat.length : Int)) (h3 : s ≠ (txt.length : Int)) : hereF txt pat (k + 1) dep s p σ = some (none, σ) := by
  rw [hereF, if_neg (by omega), if_neg (by omega), if_neg (by omega), if_pos ⟨h1, h2⟩, if_neg h3]
theorem h_spec0 (h : p < (pat.length : Int)) (h1 : pat.getD p.toNat 0 = 37) (h2 : atF pat (p + 1) = 98 ∨ atF pat (p + 1) = 102 ∨ isDigit (atF pat (p + 1)) = true) (hv : specF txt pat σ.lev σ.ss σ.ls s p (atF pat (p + 1)) = none) : hereF txt pat (k + 1) dep s p σ = none := by
  rw [hereF, if_neg (by omega), if_neg (by omega), if_neg (by omega), if_neg (by omega), if_pos ⟨h1, h2⟩, hv]
theorem h_spec1 {p' : Int} (h : p < (pat.length : Int)) (h1 : pat.getD p.toNat 0 = 37) (h2 : atF pat (p + 1) = 98 ∨ atF pat (p + 1) = 102 ∨ isDigit (atF pat (p + 1)) = true) (hv : specF txt pat σ.lev σ.ss σ.ls s p (atF pat (p + 1)) = some (none, p')) : hereF txt pat (k + 1) dep s p σ = some (none, σ) := by
  rw [hereF, if_neg (by omega), if_neg (by omega), if_neg (by omega), if_neg (by omega), if_pos ⟨h1, h2⟩, hv]
theorem h_spec2 {s' p' : Int} (h : p < (pat.length : Int)) (h1 : pat.getD p.toNat 0 = 37) (h2 : atF pat (p + 1) = 98 ∨ atF pat (p + 1) = 102 ∨ isDigit (atF pat (p + 1)) = true) (hv : specF txt pat σ.lev σ.ss σ.ls s p (atF pat (p + 1)) = some (some s', p')) : hereF txt pat (k + 1) dep s p σ = hereF txt pat k dep s' p' σ := by
  rw [hereF, if_neg (by omega), if_neg (by omega), if_neg (by omega), if_neg (by omega), if_pos ⟨h1, h2⟩, hv]
theorem h_none (h : p < (pat.length : Int)) (n : Plain pat p) (hc : classEndF pat p = none) : hereF txt pat (k + 1) dep s p σ = none := by
  rw [hereF, if_neg (by omega), if_neg n.1, if_neg n.2.1, if_neg n.2.2.1, if_neg n.2.2.2, hc]
theorem h_most (h : p < (pat.length : Int)) (n : Plain pat p) (hc : classEndF pat p = some e) (ha : atF pat e = 42) : hereF txt pat (k + 1) dep s p σ = mostF txt pat (fun s σ => deepF dep (hereF txt pat k (dep + 1) s (e + 1) σ)) s p e σ := by
  rw [hereF, if_neg (by omega), if_neg n.1, if_neg n.2.1, if_neg n.2.2.1, if_neg n.2.2.2, hc]; dsimp only; rw [if_pos ha]
theorem h_plus (h : p < (pat.length : Int)) (n : Plain pat p) (hc : classEndF pat p = some e) (ha : atF pat e = 43) (hs : isSingleF txt pat s p e = true) : hereF txt pat (k + 1) dep s p σ = mostF txt pat (fun s σ => deepF dep (hereF txt pat k (dep + 1) s (e + 1) σ)) (s + 1) p e σ := by
  rw [hereF, if_neg (by omega), if_neg n.1, if_neg n.2.1, if_neg n.2.2.1, if_neg n.2.2.2, hc]; dsimp only; rw [if_neg (by omega), if_pos ha, if_pos hs]
theorem h_plus' (h : p < (pat.length : Int)) (n : Plain pat p) (hc : classEndF pat p = some e) (ha : atF pat e = 43) (hs : isSingleF txt pat s p e = false) : hereF txt pat (k + 1) dep s p σ = some (none, σ) := by
  rw [hereF, if_neg (by omega), if_neg n.1, if_neg n.2.1, if_neg n.2.2.1, if_neg n.2.2.2, hc]; dsimp only; rw [if_neg (by omega), if_pos ha, if_neg (by rw [hs]; decide)]
theorem h_least (h : p < (pat.length : Int)) (n : Plain pat p) (hc : classEndF pat p = some e) (ha : atF pat e = 45) : hereF txt pat (k + 1) dep s p σ = leastF txt pat (fun s σ => deepF dep (hereF txt pat k (dep + 1) s (e + 1) σ)) s p e σ := by
  rw [hereF, if_neg (by omega), if_neg n.1, if_neg n.2.1, if_neg n.2.2.1, if_neg n.2.2.2, hc]; dsimp only; rw [if_neg (by omega), if_neg (by omega), if_pos ha]
theorem h_mark0 (h : p < (pat.length : Int)) (n : Plain pat p) (hc : classEndF pat p = some e) (ha : atF pat e = 63) (hs : isSingleF txt pat s p e = true) (hv : deepF dep (hereF txt pat k (dep + 1) (s + 1) (e + 1) σ) = none) : hereF txt pat (k + 1) dep s p σ = none := by
  rw [hereF, if_neg (by omega), if_neg n.1, if_neg n.2.1, if_neg n.2.2.1, if_neg n.2.2.2, hc]; dsimp only; rw [if_neg (by omega), if_neg (by omega), if_neg (by omega), if_pos ha, if_pos hs, hv]
theorem h_mark1 {σ' : Sg} (h : p < (pat.length : Int)) (n : Plain pat p) (hc : classEndF pat p = some e) (ha : atF pat e = 63) (hs : isSingleF txt pat s p e = true) (hv : deepF dep (hereF txt pat k (dep + 1) (s + 1) (e + 1) σ) = some (none, σ')) : hereF txt pat (k + 1) dep s p σ = hereF txt pat k dep s (e + 1) σ' := by
  rw [hereF, if_neg (by omega), if_neg n.1, if_neg n.2.1, if_neg n.2.2.1, if_neg n.2.2.2, hc]; dsimp only; rw [if_neg (by omega), if_neg (by omega), if_neg (by omega), if_pos ha, if_pos hs, hv]
theorem h_mark2 {r : Int} {σ' : Sg} (h : p < (pat.length : Int)) (n : Plain pat p) (hc : classEndF pat p = some e) (ha : atF pat e = 63) (hs : isSingleF txt pat s p e = true) (hv : deepF dep (hereF txt pat k (dep + 1) (s + 1) (e + 1) σ) = some (some r, σ')) : hereF txt pat (k + 1) dep s p σ = some (some r, σ') := by
  rw [hereF, if_neg (by omega), if_neg n.1, if_neg n.2.1, if_neg n.2.2.1, if_neg n.2.2.2, hc]; dsimp only; rw [if_neg (by omega), if_neg (by omega), if_neg (by omega), if_pos ha, if_pos hs, hv]
theorem h_mark' (h : p < (pat.length : Int)) (n : Plain pat p) (hc : classEndF pat p = some e) (ha : atF pat e = 63) (hs : isSingleF txt pat s p e = false) : hereF txt pat (k + 1) dep s p σ = hereF txt pat k dep s (e + 1) σ := by
  rw [hereF, if_neg (by omega), if_neg n.1, if_neg n.2.1, if_neg n.2.2.1, if_neg n.2.2.2, hc]; dsimp only; rw [if_neg (by omega), if_neg (by omega), if_neg (by omega), if_pos ha, if_neg (by rw [hs]; decide)]
theorem h_next (h : p < (pat.length : Int)) (n : Plain pat p) (hc : classEndF pat p = some e) (h1 : atF pat e ≠ 42) (h2 : atF pat e ≠ 43) (h3 : atF pat e ≠ 45) (h4 : atF pat e ≠ 63) (hs : isSingleF txt pat s p e = true) : hereF txt pat (k + 1) dep s p σ = hereF txt pat k dep (s + 1) e σ := by
  rw [hereF, if_neg (by omega), if_neg n.1, if_neg n.2.1, if_neg n.2.2.1, if_neg n.2.2.2, hc]; dsimp only; rw [if_neg h1, if_neg h2, if_neg h3, if_neg h4, if_pos hs]
theorem h_next' (h : p < (pat.length : Int)) (n : Plain pat p) (hc : classEndF pat p = some e) (h1 : atF pat e ≠ 42) (h2 : atF pat e ≠ 43) (h3 : atF pat e ≠ 45) (h4 : atF pat e ≠ 63) (hs : isSingleF txt pat s p e = false) : hereF txt pat (k + 1) dep s p σ = some (none, σ) := by
  rw [hereF, if_neg (by omega), if_neg n.1, if_neg n.2.1, if_neg n.2.2.1, if_neg n.2.2.2, hc]; dsimp only; rw [if_neg h1, if_neg h2, if_neg h3, if_neg h4, if_neg (by rw [hs]; decide)]
end
theorem spec_next {txt pat : List Int} {σ : Sg} {s p s' p' : Int} (V : Inv txt σ s) (h2 : atF pat (p + 1) = 98 ∨ atF pat (p + 1) = 102 ∨ isDigit (atF pat (p + 1)) = true) (hv : specF txt pat σ.lev σ.ss σ.ls s p (atF pat (p + 1)) = some (some s', p')) :
    p < p' ∧ p' ≤ (pat.length : Int) ∧ Inv txt σ s' := by
  have hp : p + 2 ≤ (pat.length : Int) := by
    have : p + 1 < (pat.length : Int) := at_lt (by rcases h2 with z | z | z; omega; omega; exact digit_ne z)
    omega
  obtain ⟨a, b, d⟩ := spec_hi V hp hv
  exact ⟨a, b, V.up (d _ rfl).1 (d _ rfl).2⟩
theorem mark_next {txt pat : List Int} {σ σ' : Sg} {k : Nat} {dep s p e : Int} (V : Inv txt σ s) (hs : isSingleF txt pat s p e = true) (hv : deepF dep (hereF txt pat k (dep + 1) (s + 1) (e + 1) σ) = some (none, σ')) : Inv txt σ' s := by
  have hl := single_lt hs
  have s0 := V.s0
  exact V.same (here_same k (dep + 1) (e + 1) (V.up (s' := s + 1) (by omega) (by omega)) (deepF_none hv))
end
-- M8
theorem freshM8 : True := by w_top off; trivial
section
variable {w : World} {mean : ExcName → Option Value} {mg mb : Str → Option Value} {x dx : Addr} {c : Cf} {dep : Int} {core : Core} {txt pat : List Int}
set_option maxHeartbeats 16000000
theorem Ctr.mono {f : Addr} {vs : List Value} {d d' : Nat} {Ret : Value → Core → Prop} {Err : Core → Prop} (h : d ≤ d') (C : Ctr w mean mg mb f vs d core Ret Err) : Ctr w mean mg mb f vs d' core Ret Err :=
  fun dp un gd cn cs a ccd cl outer A₀ base h₀ L m hh gn dr tk os Q E B F X N T hk hd hu => C dp un gd cn cs a ccd cl outer A₀ base h₀ L m hh gn dr tk os Q E B F X N T hk (by omega) (by omega)
noncomputable def HereC (w : World) (mean : ExcName → Option Value) (mg mb : Str → Option Value) (c : Cf) (x dx : Addr) (txt pat : List Int) (n : Nat) : Prop :=
  ∀ {dep s p : Int} {σ : Sg} {core : Core} {ts tp : Tok}, 0 ≤ p → p ≤ (pat.length : Int) → (pat.length : Int) - p < n → Inv txt σ s → MC w c x dx dep σ core →
    Ctr w mean mg mb 168 [.ref x, .int s ts, .int p tp] (7 * n + 8) core (RetM w c x dx dep (hereF txt pat n dep s p σ)) (ErrM w c x dx (hereF txt pat n dep s p σ))
theorem askC {k : Nat} {p' : Int} (O : CfOk c txt pat) (H : HereC w mean mg mb c x dx txt pat k) (h0 : 0 ≤ p') (h1 : p' ≤ (pat.length : Int)) (h2 : (pat.length : Int) - p' < k) :
    Asks w mean mg mb c x dx dep txt (7 * k + 11) (fun s σ => deepF dep (hereF txt pat k (dep + 1) s p' σ)) p' := by
  intro s σ core V M ts tp
  exact match_ok O M fun M' => H h0 h1 h2 V M'
/-- what match_here calls at a place -/
structure Calls (w : World) (mean : ExcName → Option Value) (mg mb : Str → Option Value) (c : Cf) (x dx : Addr) (dep : Int) (txt pat : List Int) (k : Nat) (p s : Int) (σ : Sg) (core : Core) : Prop where
  ask : ∀ {s' p' : Int} {ts tp : Tok}, p < p' → p' ≤ (pat.length : Int) → Inv txt σ s' → Ctr w mean mg mb 161 [.ref x, .int s' ts, .int p' tp] (7 * k + 11) core (RetM w c x dx dep (deepF dep (hereF txt pat k (dep + 1) s' p' σ))) (ErrM w c x dx (deepF dep (hereF txt pat k (dep + 1) s' p' σ)))
  most : ∀ {s' e : Int} {ts tp te : Tok}, classEndF pat p = some e → e < (pat.length : Int) → Inv txt σ s' → Ctr w mean mg mb 196 [.ref x, .int s' ts, .int p tp, .int e te] (7 * k + 14) core
    (RetM w c x dx dep (mostF txt pat (fun s σ => deepF dep (hereF txt pat k (dep + 1) s (e + 1) σ)) s' p e σ)) (ErrM w c x dx (mostF txt pat (fun s σ => deepF dep (hereF txt pat k (dep + 1) s (e + 1) σ)) s' p e σ))
  least : ∀ {e : Int} {ts tp te : Tok}, classEndF pat p = some e → e < (pat.length : Int) → Ctr w mean mg mb 203 [.ref x, .int s ts, .int p tp, .int e te] (7 * k + 14) core
    (RetM w c x dx dep (leastF txt pat (fun s σ => deepF dep (hereF txt pat k (dep + 1) s (e + 1) σ)) s p e σ)) (ErrM w c x dx (leastF txt pat (fun s σ => deepF dep (hereF txt pat k (dep + 1) s (e + 1) σ)) s p e σ))
  start : ∀ {p' kind : Int} {ts tp tk : Tok}, p < p' → p' ≤ (pat.length : Int) → -2 ≤ kind → Ctr w mean mg mb 210 [.ref x, .int s ts, .int p' tp, .int kind tk] (7 * k + 14) core
    (RetM w c x dx dep (startF (fun σ => deepF dep (hereF txt pat k (dep + 1) s p' σ)) s kind σ)) (ErrM w c x dx (startF (fun σ => deepF dep (hereF txt pat k (dep + 1) s p' σ)) s kind σ))
  end_ : ∀ {p' : Int} {ts tp : Tok}, p < p' → p' ≤ (pat.length : Int) → Ctr w mean mg mb 217 [.ref x, .int s ts, .int p' tp] (7 * k + 14) core
    (RetM w c x dx dep (endF (fun σ => deepF dep (hereF txt pat k (dep + 1) s p' σ)) s σ)) (ErrM w c x dx (endF (fun σ => deepF dep (hereF txt pat k (dep + 1) s p' σ)) s σ))
theorem keepsC {k : Nat} {p' : Int} : Keeps txt (fun s σ => deepF dep (hereF txt pat k (dep + 1) s p' σ)) := fun V h => here_same _ _ _ V (deepF_none h)
theorem start_ok' {d : Nat} {s p kind : Int} {ts tp tk₀ : Tok} {σ : Sg} {H : Int → Sg → Res} (O : CfOk c txt pat) (M : MC w c x dx dep σ core) (V : Inv txt σ s) (hk : -2 ≤ kind) (C : Asks w mean mg mb c x dx dep txt d H p) :
    Ctr w mean mg mb 210 [.ref x, .int s ts, .int p tp, .int kind tk₀] (d + 3) core (RetM w c x dx dep (startF (H s) s kind σ)) (ErrM w c x dx (startF (H s) s kind σ)) := by
  exact start_ok (H := H s) O M V fun q M' => C (start_inv V q hk) M'
theorem calls_ok {k : Nat} {p s : Int} {σ : Sg} (O : CfOk c txt pat) (H : HereC w mean mg mb c x dx txt pat k) (h0 : 0 ≤ p) (h1 : p < (pat.length : Int)) (h2 : (pat.length : Int) - p < k + 1) (V : Inv txt σ s) (M : MC w c x dx dep σ core) :
    Calls w mean mg mb c x dx dep txt pat k p s σ core where
  ask := fun a b V' => askC O H (by omega) b (by omega) V' M
  most := fun {s' e ts tp te} a b V' => by
    have z := classEnd_hi a h1
    exact most_ok O M V' h0 h1 a (askC O H (by omega) (by omega) (by omega)) keepsC (by omega)
  least := fun {e ts tp te} a b => by
    have z := classEnd_hi a h1
    exact least_ok O M V h0 h1 a (askC O H (by omega) (by omega) (by omega)) keepsC (by omega)
  start := fun a b hk => start_ok' O M V hk (askC O H (by omega) b (by omega))
  end_ := fun {p' ts tp} a b => end_ok (H := fun σ => deepF dep (hereF txt pat k (dep + 1) s p' σ)) O M V (fun {n core'} hn M' => askC O H (by omega) b (by omega) (end_inv V hn) M') (fun hn h => keepsC (end_inv V hn) h)
end
local macro_rules | `(tactic| top_raiseB0) => `(tactic| first | omega | (have zz := at_lt' (by assumption : atF _ _ = 41); omega) | (have zz := at_lt' (by assumption : atF _ _ = 42); omega) | (have zz := at_lt' (by assumption : atF _ _ = 43); omega) | (have zz := at_lt' (by assumption : atF _ _ = 45); omega) | (have zz := at_lt' (by assumption : atF _ _ = 63); omega))
local macro_rules | `(tactic| walk_at "WhlIf") => `(tactic| (refine' whlIf_split ?_ ?_ <;> (intro hB; (try simp only [decide_eq_true_eq, decide_eq_false_iff_not] at hB); refine Hold.lay ?_)))
local macro_rules | `(tactic| walk_at "compareOp In int bytes") => `(tactic| (refine in_bf (at_byte (by assumption) _).1 (at_byte (by assumption) _).2 ?_))
local macro_rules | `(tactic| walk_at "call ref") => `(tactic| (k_here; (with_reducible show wpAny _ _ (call (Value.ref 175) _) _ _ _); k_dflt (top_raise; (case kC => exact match_special_ok (by assumption) (by k_mem) (by k_mem) (by assumption) (by omega) (by omega) (by omega)); top_caught; intro v' core' h' tk' r' F' N' _ _; obtain ⟨⟨q1', q2'⟩, r1, a', w', t', r2, r3, r4⟩ := r'; subst r2; subst r4; replace r1 := Hold.mk r1; cases r3; top_strB)))
local macro_rules | `(tactic| walk_at "call ref") => `(tactic| (k_here; (with_reducible show wpAny _ _ (call (Value.ref 161) _) _ _ _); k_dflt (top_raise; (case kC => exact Calls.ask (by assumption) (by omega) (by top_raiseB0) (by first | assumption | (have zz := single_lt (by assumption : isSingleF _ _ _ _ _ = true); exact Inv.up (by assumption) (by omega) (by omega)))); top_caught; intro v' core' h' tk' r' F' N' _ _; obtain ⟨q1', q2', e3', iv', M'⟩ := r'; have M2' := M'; obtain ⟨td', tl', l1', l2', mm1', mm2'⟩ := M2'.at; clear M2'; cases iv'; top_strB)))
local macro_rules | `(tactic| walk_at "call ref") => `(tactic| (k_here; (with_reducible show wpAny _ _ (call (Value.ref 196) _) _ _ _); k_dflt (top_raise; (case kC => exact Calls.most (by assumption) (by assumption) (by top_raiseB0) (by first | assumption | (have zz := single_lt (by assumption : isSingleF _ _ _ _ _ = true); exact Inv.up (by assumption) (by omega) (by omega)))); top_caught; intro v' core' h' tk' r' F' N' _ _; replace r' := Hold.mk r'; top_strB)))
local macro_rules | `(tactic| walk_at "call ref") => `(tactic| (k_here; (with_reducible show wpAny _ _ (call (Value.ref 203) _) _ _ _); k_dflt (top_raise; (case kC => exact Calls.least (by assumption) (by assumption) (by top_raiseB0)); top_caught; intro v' core' h' tk' r' F' N' _ _; replace r' := Hold.mk r'; top_strB)))
local macro_rules | `(tactic| walk_at "call ref") => `(tactic| (k_here; (with_reducible show wpAny _ _ (call (Value.ref 210) _) _ _ _); k_dflt (top_raise; (case kC => exact Calls.start (by assumption) (by omega) (by top_raiseB0) (by decide)); top_caught; intro v' core' h' tk' r' F' N' _ _; replace r' := Hold.mk r'; top_strB)))
local macro_rules | `(tactic| walk_at "call ref") => `(tactic| (k_here; (with_reducible show wpAny _ _ (call (Value.ref 217) _) _ _ _); k_dflt (top_raise; (case kC => exact Calls.end_ (by assumption) (by omega) (by top_raiseB0)); top_caught; intro v' core' h' tk' r' F' N' _ _; replace r' := Hold.mk r'; top_strB)))
local macro_rules | `(tactic| walk_at "call ref") => `(tactic| (k_here; (with_reducible show wpAny _ _ (call (Value.ref 140) _) _ _ _); k_dflt (top_name; (case kC => exact class_end_ok (by assumption) (by k_mem) (by k_mem) (by omega)); top_caught; rintro v' h' tk' ⟨t', e', r2, r3⟩ F' N'; subst r2; have hce := classEnd_hi r3 (by omega); top_strB)))
section
variable {w : World} {mean : ExcName → Option Value} {mg mb : Str → Option Value} {x dx : Addr} {c : Cf} {dep : Int} {core : Core} {txt pat : List Int}
set_option maxHeartbeats 16000000
theorem here_ok (O : CfOk c txt pat) (n0 : Nat) (IH : ∀ k < n0, HereC w mean mg mb c x dx txt pat k) : HereC w mean mg mb c x dx txt pat n0 := by
  intro dep s p σ core ts tp h0 h1 h2 V M
  have hx := O.hx; have hp := O.hp; have lx := O.lx; have lp := O.lp
  refine' ctr_of_body (binds := [("self", .ref x), ("s", .int s ts), ("p", .int p tp)]) ?ho ?hcd ?hbind ?hloc ?hcell ?hco ?hgen ?hk ?hb
  case ho => k_is
  case hcd => k_is
  case hbind => exact fun _ _ => BindsTo.of_eq rfl
  case hloc => exact locs rfl
  case hcell => decide
  case hco => exact rfl
  case hgen => exact rfl
  case hk => exact rfl
  unfold Body
  intro dp un gd outer A₀ base g L h gn dr tk os Q E B F X N T hdp hun hlt hE hret hnext hpass hnew
  try dsimp only

  generalize hR : hereF txt pat n0 dep s p σ = R at hret hpass hnew hnext
  refine execs_splitM 0 (fun s' => ∃ h' m' tk' s1 ts1 p1 tp1, s' = ⟨h', gn, dr, tk', os⟩ ∧ Fr g L h' m' ∧ News g L h' core ∧ m' "self" = some (.ref x) ∧ m' "s" = some (.int s1 ts1) ∧ m' "p" = some (.int p1 tp1) ∧ s1 = s ∧ p1 = p) ?_ ?_
  · intro Mq hMq
    dsimp only [List.take]
    k_steps
    all_goals exact CutQ.next (hMq.go _ ⟨_, _, _, _, _, _, _, rfl, by k_asm, by k_asm, by exact rfl, by exact rfl, by exact rfl, rfl, rfl⟩)
  rintro _ ⟨h1', m1, tk1, s1, ts1, p1, tp1, rfl, F1, N1, es, ess, ep, q1, q2⟩
  clear F N hlt
  dsimp only [List.drop]
  rw [← q1] at V
  rw [← q2] at h0 h1 h2
  rw [← q1, ← q2] at hR
  clear q1 q2
  obtain ⟨k, hk⟩ : ∃ k, k = n0 := ⟨_, rfl⟩
  have hk2 : k ≤ n0 := by omega
  rw [← hk] at hR h2
  clear hk
  refine execs_cutM (fun s' => ∃ h' m' tk' core' σ' s2 ts2, s' = ⟨h', gn, dr, tk', os⟩ ∧ Fr g L h' m' ∧ News g L h' core' ∧ m' "s" = some (.int s2 ts2) ∧ R = some (some s2, σ') ∧ MC w c x dx dep σ' core') ?_ ?_
  · intro Mq hMq
    refine whl_start 0 ?_
    induction k generalizing s1 ts1 p1 tp1 h1' m1 tk1 σ core with
    | zero => omega
    | succ k ih =>
      obtain ⟨td, tl, l1, l2, vs1, vs2, n1, n2, mm1, mm2, S⟩ := M.open V
      have v0 := V.s0; have v1 := V.s1
      have K0 : p1 < (pat.length : Int) → Calls w mean mg mb c x dx dep txt pat k p1 s1 σ core := fun z => calls_ok O (IH k (by omega)) h0 z (by omega) V M
      refine whl_turn (k := 0) hE ?_
      k_steps
      · rename_i hpl
        replace K0 := K0 hpl
        refine Hold.mk ?_
        refine execs_splitM 2 (fun s' => ∃ h' m' tk' t1 t2, s' = ⟨h', gn, dr, tk', os⟩ ∧ Fr g L h' m' ∧ News g L h' core ∧ m' "self" = some (.ref x) ∧ m' "s" = some (.int s1 ts1) ∧ m' "p" = some (.int p1 tp1) ∧ m' "first" = some (.int (pat.getD p1.toNat 0) t1) ∧ m' "second" = some (.int (atF pat (p1 + 1)) t2)) ?_ ?_
        · intro Mq hMq
          dsimp only [List.take]
          k_steps
          all_goals exact CutQ.next (hMq.go _ ⟨_, _, _, _, _, rfl, by k_asm, cb_drop (by k_asm) (fun _ hp => .tail _ hp), by assumption, by assumption, by assumption, by exact rfl, by exact rfl⟩)
        rintro _ ⟨h3, m3, tk3, t1, t2, rfl, F3, N3, es', ess', ep', ef, esec⟩
        clear F1 N1 es ess ep
        dsimp only [List.drop]
        refine execs_splitM 4 (fun s' => ∃ h' m' tk', s' = ⟨h', gn, dr, tk', os⟩ ∧ Fr g L h' m' ∧ News g L h' core ∧ m' "self" = some (.ref x) ∧ m' "s" = some (.int s1 ts1) ∧ m' "p" = some (.int p1 tp1) ∧ Plain pat p1) ?_ ?_
        · intro Mq2 hMq2
          dsimp only [List.take]
          k_steps
          all_goals try exact CutQ.next (hMq2.go _ ⟨_, _, _, rfl, by k_asm, by k_asm, by assumption, by assumption, by assumption, (by first | assumption | (refine ⟨by omega, by omega, by omega, ?_⟩; rintro ⟨z, z2⟩; first | (exfalso; omega) | (rcases z2 with z2 | z2 | z2 <;> first | (exfalso; omega) | exact absurd (z2.symm.trans (by assumption : isDigit _ = false)) (by decide))))⟩)
          all_goals try (refine CutQ.ret ?_; k_steps)
          all_goals try (refine CutQ.cont ?_; k_steps)
          all_goals first
            | (rename_i r'; obtain ⟨⟨r1, r2⟩⟩ := r'; first
                | exact Hold.mk ⟨by rw [← hR, h_open hpl (by assumption) (by assumption)]; exact r1, r2⟩
                | exact Hold.mk ⟨by rw [← hR, h_open' hpl (by assumption) (by assumption)]; exact r1, r2⟩
                | exact Hold.mk ⟨by rw [← hR, h_close hpl (by assumption)]; exact r1, r2⟩
                | exact Hold.mk ⟨by rw [← hR, h_most hpl (by first | assumption | (refine ⟨by omega, by omega, by omega, ?_⟩; rintro ⟨z, z2⟩; first | (exfalso; omega) | (rcases z2 with z2 | z2 | z2 <;> first | (exfalso; omega) | exact absurd (z2.symm.trans (by assumption : isDigit _ = false)) (by decide)))) (by assumption) (by assumption)]; exact r1, r2⟩
                | exact Hold.mk ⟨by rw [← hR, h_plus hpl (by first | assumption | (refine ⟨by omega, by omega, by omega, ?_⟩; rintro ⟨z, z2⟩; first | (exfalso; omega) | (rcases z2 with z2 | z2 | z2 <;> first | (exfalso; omega) | exact absurd (z2.symm.trans (by assumption : isDigit _ = false)) (by decide)))) (by assumption) (by assumption) (by assumption)]; exact r1, r2⟩
                | exact Hold.mk ⟨by rw [← hR, h_least hpl (by first | assumption | (refine ⟨by omega, by omega, by omega, ?_⟩; rintro ⟨z, z2⟩; first | (exfalso; omega) | (rcases z2 with z2 | z2 | z2 <;> first | (exfalso; omega) | exact absurd (z2.symm.trans (by assumption : isDigit _ = false)) (by decide)))) (by assumption) (by assumption)]; exact r1, r2⟩
                | exact Hold.mk ⟨by rw [← hR, h_mark0 hpl (by first | assumption | (refine ⟨by omega, by omega, by omega, ?_⟩; rintro ⟨z, z2⟩; first | (exfalso; omega) | (rcases z2 with z2 | z2 | z2 <;> first | (exfalso; omega) | exact absurd (z2.symm.trans (by assumption : isDigit _ = false)) (by decide)))) (by assumption) (by assumption) (by assumption) r1], r2⟩
                | exact Hold.mk ⟨by rw [← hR, h_spec0 hpl (by assumption) (by first | exact .inr (.inr (by assumption)) | exact Or.elim (by assumption : _ = (98 : Int) ∨ _ = (102 : Int)) .inl (fun z => .inr (.inl z))) r2], by rw [r1]; exact M.me⟩
                | exact Hold.mk ⟨by rw [← hR, h_none hpl (by first | assumption | (refine ⟨by omega, by omega, by omega, ?_⟩; rintro ⟨z, z2⟩; first | (exfalso; omega) | (rcases z2 with z2 | z2 | z2 <;> first | (exfalso; omega) | exact absurd (z2.symm.trans (by assumption : isDigit _ = false)) (by decide)))) r2], by rw [r1]; exact M.me⟩)
            | (have q := Hold.out (by assumption : Hold (RetM _ _ _ _ _ _ _ _)); refine CutQ.ret (hret _ _ _ _ _ ?_ (by k_asm) (by k_asm)); first
                | (rw [← hR, h_open hpl (by assumption) (by assumption)]; exact q)
                | (rw [← hR, h_open' hpl (by assumption) (by assumption)]; exact q)
                | (rw [← hR, h_close hpl (by assumption)]; exact q)
                | (rw [← hR, h_most hpl (by first | assumption | (refine ⟨by omega, by omega, by omega, ?_⟩; rintro ⟨z, z2⟩; first | (exfalso; omega) | (rcases z2 with z2 | z2 | z2 <;> first | (exfalso; omega) | exact absurd (z2.symm.trans (by assumption : isDigit _ = false)) (by decide)))) (by assumption) (by assumption)]; exact q)
                | (rw [← hR, h_plus hpl (by first | assumption | (refine ⟨by omega, by omega, by omega, ?_⟩; rintro ⟨z, z2⟩; first | (exfalso; omega) | (rcases z2 with z2 | z2 | z2 <;> first | (exfalso; omega) | exact absurd (z2.symm.trans (by assumption : isDigit _ = false)) (by decide)))) (by assumption) (by assumption) (by assumption)]; exact q)
                | (rw [← hR, h_least hpl (by first | assumption | (refine ⟨by omega, by omega, by omega, ?_⟩; rintro ⟨z, z2⟩; first | (exfalso; omega) | (rcases z2 with z2 | z2 | z2 <;> first | (exfalso; omega) | exact absurd (z2.symm.trans (by assumption : isDigit _ = false)) (by decide)))) (by assumption) (by assumption)]; exact q))
            | (refine CutQ.ret (hret _ _ _ _ _ ?_ (by k_asm) (by k_asm)); exact ⟨some _, _, by rw [← hR, h_mark2 hpl (by first | assumption | (refine ⟨by omega, by omega, by omega, ?_⟩; rintro ⟨z, z2⟩; first | (exfalso; omega) | (rcases z2 with z2 | z2 | z2 <;> first | (exfalso; omega) | exact absurd (z2.symm.trans (by assumption : isDigit _ = false)) (by decide)))) (by assumption) (by assumption) (by assumption) (by assumption)], .some, by assumption⟩)
            | (refine CutQ.ret (hret _ _ _ _ _ ?_ (by k_asm) (cb_drop (by k_asm) (fun _ hp => .tail _ hp))); exact ⟨none, _, by rw [← hR, h_spec1 hpl (by assumption) (by first | exact .inr (.inr (by assumption)) | exact Or.elim (by assumption : _ = (98 : Int) ∨ _ = (102 : Int)) .inl (fun z => .inr (.inl z))) (Hold.out (by assumption))], .none, M⟩)
            | (refine CutQ.ret (hret _ _ _ _ _ ?_ (by k_asm) (by k_asm)); exact ⟨none, _, by rw [← hR, h_plus' hpl (by first | assumption | (refine ⟨by omega, by omega, by omega, ?_⟩; rintro ⟨z, z2⟩; first | (exfalso; omega) | (rcases z2 with z2 | z2 | z2 <;> first | (exfalso; omega) | exact absurd (z2.symm.trans (by assumption : isDigit _ = false)) (by decide)))) (by assumption) (by assumption) (by assumption)], .none, M⟩)
            | (refine CutQ.ret (hret _ _ _ _ _ ?_ (by k_asm) (by k_asm)); exact ⟨none, _, by rw [← hR, h_next' hpl (by first | assumption | (refine ⟨by omega, by omega, by omega, ?_⟩; rintro ⟨z, z2⟩; first | (exfalso; omega) | (rcases z2 with z2 | z2 | z2 <;> first | (exfalso; omega) | exact absurd (z2.symm.trans (by assumption : isDigit _ = false)) (by decide)))) (by assumption) (by assumption) (by assumption) (by assumption) (by assumption) (by assumption)], .none, M⟩)
            | (refine CutQ.ret (hret _ _ _ _ _ ?_ (by k_asm) (by k_asm)); exact ⟨none, _, by rw [← hR, h_dollar' hpl (by assumption) (by assumption) (by assumption)], .none, M⟩)
            | (refine CutQ.ret (hret _ _ _ _ _ ?_ (by k_asm) (by k_asm)); exact ⟨some _, _, by rw [← hR, h_dollar hpl (by assumption) (by assumption) (by assumption)], .some, M⟩)
            | (exfalso; omega)
            | (have q := Hold.out (by assumption : Hold (specF _ _ _ _ _ _ _ _ = some (some _, _)))
               obtain ⟨z1, z2, V2⟩ := spec_next V (by first | exact .inr (.inr (by assumption)) | exact Or.elim (by assumption : _ = (98 : Int) ∨ _ = (102 : Int)) .inl (fun z => .inr (.inl z))) q
               refine Hold.mk ?_
               apply ih (V := V2) (M := M) (F1 := by assumption) (ess := by exact rfl) (ep := by exact rfl)
               all_goals first | k_asm | exact cb_drop (by k_asm) (fun _ hp => .tail _ hp) | exact rfl | assumption | omega | exact (h_spec2 hpl (by assumption) (by first | exact .inr (.inr (by assumption)) | exact Or.elim (by assumption : _ = (98 : Int) ∨ _ = (102 : Int)) .inl (fun z => .inr (.inl z))) q).symm.trans hR)
            | (have q := (by assumption : deepF _ (hereF _ _ _ _ _ _ _) = some (none, _))
               have z := at_lt' (by assumption : atF _ _ = 63)
               have V2 := mark_next V (by assumption) q
               refine Hold.mk ?_
               apply ih (V := V2) (M := by assumption) (F1 := by assumption) (ess := by assumption) (ep := by exact rfl)
               all_goals first | k_asm | exact cb_drop (by k_asm) (fun _ hp => .tail _ hp) | exact rfl | assumption | omega | exact (h_mark1 hpl (by first | assumption | (refine ⟨by omega, by omega, by omega, ?_⟩; rintro ⟨z, z2⟩; first | (exfalso; omega) | (rcases z2 with z2 | z2 | z2 <;> first | (exfalso; omega) | exact absurd (z2.symm.trans (by assumption : isDigit _ = false)) (by decide)))) (by assumption) (by assumption) (by assumption) q).symm.trans hR)
            | (have q := (by assumption : isSingleF _ _ _ _ _ = false)
               have z := at_lt' (by assumption : atF _ _ = 63)
               refine Hold.mk ?_
               apply ih (V := V) (M := M) (F1 := by assumption) (ess := by assumption) (ep := by exact rfl)
               all_goals first | k_asm | exact cb_drop (by k_asm) (fun _ hp => .tail _ hp) | exact rfl | assumption | omega | exact (h_mark' hpl (by first | assumption | (refine ⟨by omega, by omega, by omega, ?_⟩; rintro ⟨z, z2⟩; first | (exfalso; omega) | (rcases z2 with z2 | z2 | z2 <;> first | (exfalso; omega) | exact absurd (z2.symm.trans (by assumption : isDigit _ = false)) (by decide)))) (by assumption) (by assumption) q).symm.trans hR)
            | (have q := (by assumption : isSingleF _ _ _ _ _ = true)
               have z := single_lt q
               have V2 := V.up (s' := s1 + 1) (by omega) (by omega)
               refine Hold.mk ?_
               apply ih (V := V2) (M := M) (F1 := by assumption) (ess := by exact rfl) (ep := by exact rfl)
               all_goals first | k_asm | exact cb_drop (by k_asm) (fun _ hp => .tail _ hp) | exact rfl | assumption | omega | exact (h_next hpl (by first | assumption | (refine ⟨by omega, by omega, by omega, ?_⟩; rintro ⟨z, z2⟩; first | (exfalso; omega) | (rcases z2 with z2 | z2 | z2 <;> first | (exfalso; omega) | exact absurd (z2.symm.trans (by assumption : isDigit _ = false)) (by decide)))) (by assumption) (by assumption) (by assumption) (by assumption) (by assumption) q).symm.trans hR)
        rintro _ ⟨h4, m4, tk4, rfl, F4, N4, es4, ess4, ep4, hpl4⟩
        clear F3 N3 es' ess' ep' ef esec
        dsimp only [List.drop]
        k_steps
        all_goals first
          | (rename_i r'; obtain ⟨⟨r1, r2⟩⟩ := r'; first
              | exact Hold.mk ⟨by rw [← hR, h_open hpl (by assumption) (by assumption)]; exact r1, r2⟩
              | exact Hold.mk ⟨by rw [← hR, h_open' hpl (by assumption) (by assumption)]; exact r1, r2⟩
              | exact Hold.mk ⟨by rw [← hR, h_close hpl (by assumption)]; exact r1, r2⟩
              | exact Hold.mk ⟨by rw [← hR, h_most hpl (by first | assumption | (refine ⟨by omega, by omega, by omega, ?_⟩; rintro ⟨z, z2⟩; first | (exfalso; omega) | (rcases z2 with z2 | z2 | z2 <;> first | (exfalso; omega) | exact absurd (z2.symm.trans (by assumption : isDigit _ = false)) (by decide)))) (by assumption) (by assumption)]; exact r1, r2⟩
              | exact Hold.mk ⟨by rw [← hR, h_plus hpl (by first | assumption | (refine ⟨by omega, by omega, by omega, ?_⟩; rintro ⟨z, z2⟩; first | (exfalso; omega) | (rcases z2 with z2 | z2 | z2 <;> first | (exfalso; omega) | exact absurd (z2.symm.trans (by assumption : isDigit _ = false)) (by decide)))) (by assumption) (by assumption) (by assumption)]; exact r1, r2⟩
              | exact Hold.mk ⟨by rw [← hR, h_least hpl (by first | assumption | (refine ⟨by omega, by omega, by omega, ?_⟩; rintro ⟨z, z2⟩; first | (exfalso; omega) | (rcases z2 with z2 | z2 | z2 <;> first | (exfalso; omega) | exact absurd (z2.symm.trans (by assumption : isDigit _ = false)) (by decide)))) (by assumption) (by assumption)]; exact r1, r2⟩
              | exact Hold.mk ⟨by rw [← hR, h_mark0 hpl (by first | assumption | (refine ⟨by omega, by omega, by omega, ?_⟩; rintro ⟨z, z2⟩; first | (exfalso; omega) | (rcases z2 with z2 | z2 | z2 <;> first | (exfalso; omega) | exact absurd (z2.symm.trans (by assumption : isDigit _ = false)) (by decide)))) (by assumption) (by assumption) (by assumption) r1], r2⟩
              | exact Hold.mk ⟨by rw [← hR, h_spec0 hpl (by assumption) (by first | exact .inr (.inr (by assumption)) | exact Or.elim (by assumption : _ = (98 : Int) ∨ _ = (102 : Int)) .inl (fun z => .inr (.inl z))) r2], by rw [r1]; exact M.me⟩
              | exact Hold.mk ⟨by rw [← hR, h_none hpl (by first | assumption | (refine ⟨by omega, by omega, by omega, ?_⟩; rintro ⟨z, z2⟩; first | (exfalso; omega) | (rcases z2 with z2 | z2 | z2 <;> first | (exfalso; omega) | exact absurd (z2.symm.trans (by assumption : isDigit _ = false)) (by decide)))) r2], by rw [r1]; exact M.me⟩)
          | (have q := Hold.out (by assumption : Hold (RetM _ _ _ _ _ _ _ _)); refine CutQ.ret (hret _ _ _ _ _ ?_ (by k_asm) (by k_asm)); first
              | (rw [← hR, h_open hpl (by assumption) (by assumption)]; exact q)
              | (rw [← hR, h_open' hpl (by assumption) (by assumption)]; exact q)
              | (rw [← hR, h_close hpl (by assumption)]; exact q)
              | (rw [← hR, h_most hpl (by first | assumption | (refine ⟨by omega, by omega, by omega, ?_⟩; rintro ⟨z, z2⟩; first | (exfalso; omega) | (rcases z2 with z2 | z2 | z2 <;> first | (exfalso; omega) | exact absurd (z2.symm.trans (by assumption : isDigit _ = false)) (by decide)))) (by assumption) (by assumption)]; exact q)
              | (rw [← hR, h_plus hpl (by first | assumption | (refine ⟨by omega, by omega, by omega, ?_⟩; rintro ⟨z, z2⟩; first | (exfalso; omega) | (rcases z2 with z2 | z2 | z2 <;> first | (exfalso; omega) | exact absurd (z2.symm.trans (by assumption : isDigit _ = false)) (by decide)))) (by assumption) (by assumption) (by assumption)]; exact q)
              | (rw [← hR, h_least hpl (by first | assumption | (refine ⟨by omega, by omega, by omega, ?_⟩; rintro ⟨z, z2⟩; first | (exfalso; omega) | (rcases z2 with z2 | z2 | z2 <;> first | (exfalso; omega) | exact absurd (z2.symm.trans (by assumption : isDigit _ = false)) (by decide)))) (by assumption) (by assumption)]; exact q))
          | (refine CutQ.ret (hret _ _ _ _ _ ?_ (by k_asm) (by k_asm)); exact ⟨some _, _, by rw [← hR, h_mark2 hpl (by first | assumption | (refine ⟨by omega, by omega, by omega, ?_⟩; rintro ⟨z, z2⟩; first | (exfalso; omega) | (rcases z2 with z2 | z2 | z2 <;> first | (exfalso; omega) | exact absurd (z2.symm.trans (by assumption : isDigit _ = false)) (by decide)))) (by assumption) (by assumption) (by assumption) (by assumption)], .some, by assumption⟩)
          | (refine CutQ.ret (hret _ _ _ _ _ ?_ (by k_asm) (cb_drop (by k_asm) (fun _ hp => .tail _ hp))); exact ⟨none, _, by rw [← hR, h_spec1 hpl (by assumption) (by first | exact .inr (.inr (by assumption)) | exact Or.elim (by assumption : _ = (98 : Int) ∨ _ = (102 : Int)) .inl (fun z => .inr (.inl z))) (Hold.out (by assumption))], .none, M⟩)
          | (refine CutQ.ret (hret _ _ _ _ _ ?_ (by k_asm) (by k_asm)); exact ⟨none, _, by rw [← hR, h_plus' hpl (by first | assumption | (refine ⟨by omega, by omega, by omega, ?_⟩; rintro ⟨z, z2⟩; first | (exfalso; omega) | (rcases z2 with z2 | z2 | z2 <;> first | (exfalso; omega) | exact absurd (z2.symm.trans (by assumption : isDigit _ = false)) (by decide)))) (by assumption) (by assumption) (by assumption)], .none, M⟩)
          | (refine CutQ.ret (hret _ _ _ _ _ ?_ (by k_asm) (by k_asm)); exact ⟨none, _, by rw [← hR, h_next' hpl (by first | assumption | (refine ⟨by omega, by omega, by omega, ?_⟩; rintro ⟨z, z2⟩; first | (exfalso; omega) | (rcases z2 with z2 | z2 | z2 <;> first | (exfalso; omega) | exact absurd (z2.symm.trans (by assumption : isDigit _ = false)) (by decide)))) (by assumption) (by assumption) (by assumption) (by assumption) (by assumption) (by assumption)], .none, M⟩)
          | (refine CutQ.ret (hret _ _ _ _ _ ?_ (by k_asm) (by k_asm)); exact ⟨none, _, by rw [← hR, h_dollar' hpl (by assumption) (by assumption) (by assumption)], .none, M⟩)
          | (refine CutQ.ret (hret _ _ _ _ _ ?_ (by k_asm) (by k_asm)); exact ⟨some _, _, by rw [← hR, h_dollar hpl (by assumption) (by assumption) (by assumption)], .some, M⟩)
          | (exfalso; omega)
          | (have q := Hold.out (by assumption : Hold (specF _ _ _ _ _ _ _ _ = some (some _, _)))
             obtain ⟨z1, z2, V2⟩ := spec_next V (by first | exact .inr (.inr (by assumption)) | exact Or.elim (by assumption : _ = (98 : Int) ∨ _ = (102 : Int)) .inl (fun z => .inr (.inl z))) q
             refine Hold.mk ?_
             apply ih (V := V2) (M := M) (F1 := by assumption) (ess := by exact rfl) (ep := by exact rfl)
             all_goals first | k_asm | exact cb_drop (by k_asm) (fun _ hp => .tail _ hp) | exact rfl | assumption | omega | exact (h_spec2 hpl (by assumption) (by first | exact .inr (.inr (by assumption)) | exact Or.elim (by assumption : _ = (98 : Int) ∨ _ = (102 : Int)) .inl (fun z => .inr (.inl z))) q).symm.trans hR)
          | (have q := (by assumption : deepF _ (hereF _ _ _ _ _ _ _) = some (none, _))
             have z := at_lt' (by assumption : atF _ _ = 63)
             have V2 := mark_next V (by assumption) q
             refine Hold.mk ?_
             apply ih (V := V2) (M := by assumption) (F1 := by assumption) (ess := by assumption) (ep := by exact rfl)
             all_goals first | k_asm | exact cb_drop (by k_asm) (fun _ hp => .tail _ hp) | exact rfl | assumption | omega | exact (h_mark1 hpl (by first | assumption | (refine ⟨by omega, by omega, by omega, ?_⟩; rintro ⟨z, z2⟩; first | (exfalso; omega) | (rcases z2 with z2 | z2 | z2 <;> first | (exfalso; omega) | exact absurd (z2.symm.trans (by assumption : isDigit _ = false)) (by decide)))) (by assumption) (by assumption) (by assumption) q).symm.trans hR)
          | (have q := (by assumption : isSingleF _ _ _ _ _ = false)
             have z := at_lt' (by assumption : atF _ _ = 63)
             refine Hold.mk ?_
             apply ih (V := V) (M := M) (F1 := by assumption) (ess := by assumption) (ep := by exact rfl)
             all_goals first | k_asm | exact cb_drop (by k_asm) (fun _ hp => .tail _ hp) | exact rfl | assumption | omega | exact (h_mark' hpl (by first | assumption | (refine ⟨by omega, by omega, by omega, ?_⟩; rintro ⟨z, z2⟩; first | (exfalso; omega) | (rcases z2 with z2 | z2 | z2 <;> first | (exfalso; omega) | exact absurd (z2.symm.trans (by assumption : isDigit _ = false)) (by decide)))) (by assumption) (by assumption) q).symm.trans hR)
          | (have q := (by assumption : isSingleF _ _ _ _ _ = true)
             have z := single_lt q
             have V2 := V.up (s' := s1 + 1) (by omega) (by omega)
             refine Hold.mk ?_
             apply ih (V := V2) (M := M) (F1 := by assumption) (ess := by exact rfl) (ep := by exact rfl)
             all_goals first | k_asm | exact cb_drop (by k_asm) (fun _ hp => .tail _ hp) | exact rfl | assumption | omega | exact (h_next hpl (by first | assumption | (refine ⟨by omega, by omega, by omega, ?_⟩; rintro ⟨z, z2⟩; first | (exfalso; omega) | (rcases z2 with z2 | z2 | z2 <;> first | (exfalso; omega) | exact absurd (z2.symm.trans (by assumption : isDigit _ = false)) (by decide)))) (by assumption) (by assumption) (by assumption) (by assumption) (by assumption) q).symm.trans hR)
      · refine Hold.mk ?_
        k_steps
        all_goals exact CutQ.next (hMq.go _ ⟨_, _, _, _, σ, _, _, rfl, by k_asm, by k_asm, by assumption, by rw [← hR, h_out (by omega)], M⟩)
  rintro _ ⟨h2', m2, tk2, core2, σ2, s2, ts2, rfl, F2, N2, es2, e3, M2⟩
  k_steps
  all_goals (refine hret _ _ _ _ _ ?_ (by k_asm) (by k_asm); exact ⟨some _, _, e3, .some, M2⟩)
theorem here_all (O : CfOk c txt pat) (n : Nat) : HereC w mean mg mb c x dx txt pat n := by
  induction n using Nat.strongRecOn with
  | _ n IH => exact here_ok O n IH
/-- a try at a place -/
noncomputable def tryF (txt pat : List Int) (dep p s : Int) (σ : Sg) : Res := deepF dep (hereF txt pat (pat.length + 1) (dep + 1) s p σ)
theorem try_ok {p : Int} (O : CfOk c txt pat) (h0 : 0 ≤ p) (h1 : p ≤ (pat.length : Int)) : Asks w mean mg mb c x dx dep txt (7 * (pat.length + 1) + 11) (tryF txt pat dep p) p :=
  askC O (here_all O _) h0 h1 (by omega)
end
-- M9
theorem freshM9 : True := by w_top off; trivial
local macro_rules | `(tactic| walk_at "WhlIf") => `(tactic| (refine' whlIf_split ?_ ?_ <;> (intro hB; (try simp only [decide_eq_true_eq, decide_eq_false_iff_not, beq_iff_eq, bne_iff_ne, Bool.or_eq_true, Bool.and_eq_true, Bool.not_eq_true', Bool.or_eq_false_iff, Bool.not_eq_false', ne_eq, beq_eq_false_iff_ne, bne_eq_false_iff_eq] at hB); (try exact Bool.noConfusion hB))))
section
variable {w : World} {mean : ExcName → Option Value} {mg mb : Str → Option Value} {x dx : Addr} {c : Cf} {dep : Int} {core : Core} {txt pat : List Int}
set_option maxHeartbeats 16000000
variable {td tl : Tok} {lev : Int} {l1 l2 : Addr}
theorem news2 {g h : Heap} {L a b : Addr} {o1 o2 : Obj} {core : Core} (N : News g L h core) (m1 : (a, o1) ∈ core) (m2 : (b, o2) ∈ core) : News g L h [(a, o1), (b, o2)] := by
  refine cb_drop N fun q hq => ?_
  rcases List.mem_cons.mp hq with rfl | hq
  · exact m1
  rcases List.mem_cons.mp hq with rfl | hq
  · exact m2
  cases hq
theorem reset_ok (hxd : @Ne Nat x dx) : Ctr w mean mg mb 126 [.ref x] 2 [(x, instObj 253 dx), (dx, MD w c dep td lev tl l1 l2)] (fun v core' => v = .none ∧ MC w c x dx 0 ⟨0, [], []⟩ core') (fun _ => False) := by
  refine' ctr_of_body (binds := [("self", .ref x)]) ?ho ?hcd ?hbind ?hloc ?hcell ?hco ?hgen ?hk ?hb
  case ho => k_is
  case hcd => k_is
  case hbind => exact fun _ _ => BindsTo.of_eq rfl
  case hloc => exact locs rfl
  case hcell => decide
  case hco => exact rfl
  case hgen => exact rfl
  case hk => exact rfl
  unfold Body
  intro dp un gd outer A₀ base g L h gn dr tk os Q E B F X N T hdp hun hlt hE hret hnext hpass hnew
  try dsimp only

  k_steps
  all_goals (refine' hnext _ [(x, instObj 253 dx), (dx, MD w c 0 ?td 0 ?tl ?a ?b), (?a, listOf (List.toArray ?v1) ?n1), (?b, listOf (List.toArray ?v2) ?n2)] _ _ ⟨rfl, ?M⟩ (by k_asm) ?N
             case N => refine news4 (by k_asm) ?_ ?_ ?_ ?_ <;> k_mem
             case M => exact ⟨_, _, _, _, _, _, _, _, rfl, .nil, .nil, by k_ne, by k_ne, by k_ne, by k_ne, by k_ne, by k_ne⟩)
end
-- M9b
theorem freshM9b : True := by w_top off; trivial
local macro_rules | `(tactic| walk_at "call ref") => `(tactic| (k_here; (with_reducible refine at_call 126 ?_); k_dflt (top_raise; (case kC => exact reset_ok (by assumption)); top_caught0; rotate_left; (intro _ _ _ _ _ hf; exact hf.elim); intro v' core' h' tk' r' F' N' _ _; obtain ⟨r1, r2⟩ := r'; subst r1; obtain ⟨td', tl', l1', l2', mm1', mm2'⟩ := r2.at; top_strB)))
section
variable {w : World} {mean : ExcName → Option Value} {mg mb : Str → Option Value} {x dx : Addr} {c : Cf} {dep : Int} {core : Core} {txt pat : List Int}
set_option maxHeartbeats 16000000
variable {td tl : Tok} {lev : Int} {l1 l2 : Addr}
/-- from a place on: where it was met, and to where -/
noncomputable def searchF (txt pat : List Int) (p : Int) (b : Bool) : Nat → Int → Option (Option (Int × Int) × Sg)
  | 0, _ => none
  | n + 1, s => match tryF txt pat 0 p s ⟨0, [], []⟩ with
    | none => none
    | some (some e, σ) => some (some (s, e), σ)
    | some (none, σ) => if b = true then some (none, σ) else if s + 1 ≤ (txt.length : Int) then searchF txt pat p b n (s + 1) else some (none, σ)
theorem s_err {p s : Int} {b : Bool} {n : Nat} (h : tryF txt pat 0 p s ⟨0, [], []⟩ = none) : searchF txt pat p b (n + 1) s = none := by rw [searchF, h]
theorem s_met {p s e : Int} {σ : Sg} {b : Bool} {n : Nat} (h : tryF txt pat 0 p s ⟨0, [], []⟩ = some (some e, σ)) : searchF txt pat p b (n + 1) s = some (some (s, e), σ) := by rw [searchF, h]
theorem s_bound {p s : Int} {σ : Sg} {b : Bool} {n : Nat} (h : tryF txt pat 0 p s ⟨0, [], []⟩ = some (none, σ)) (hb : b = true) : searchF txt pat p b (n + 1) s = some (none, σ) := by rw [searchF, h]; dsimp only; rw [if_pos hb]
theorem s_on {p s : Int} {σ : Sg} {b : Bool} {n : Nat} (h : tryF txt pat 0 p s ⟨0, [], []⟩ = some (none, σ)) (hb : b = false) (hs : s + 1 ≤ (txt.length : Int)) : searchF txt pat p b (n + 1) s = searchF txt pat p b n (s + 1) := by
  rw [searchF, h]; dsimp only; rw [if_neg (by rw [hb]; decide), if_pos hs]
theorem s_end {p s : Int} {σ : Sg} {b : Bool} {n : Nat} (h : tryF txt pat 0 p s ⟨0, [], []⟩ = some (none, σ)) (hb : b = false) (hs : ¬ s + 1 ≤ (txt.length : Int)) : searchF txt pat p b (n + 1) s = some (none, σ) := by
  rw [searchF, h]; dsimp only; rw [if_neg (by rw [hb]; decide), if_neg hs]
/-- what search hands back -/
inductive RetS (w : World) (c : Cf) (x dx : Addr) : Value → Core → Option (Int × Int) → Sg → Prop
  | none {core' : Core} {σ : Sg} : MC w c x dx 0 σ core' → RetS w c x dx .none core' none σ
  | some {core' : Core} {σ : Sg} {a : Addr} {s e : Int} {t1 t2 : Tok} : MC w c x dx 0 σ core' → (∀ q ∈ core', @LT.lt Nat _ q.1 a) → RetS w c x dx (.ref a) ((a, tupO (.int s t1) (.int e t2)) :: core') (some (s, e)) σ
theorem try_at {p s : Int} {σ : Sg} {ts tp : Tok} (O : CfOk c txt pat) (h0 : 0 ≤ p) (h1 : p ≤ (pat.length : Int)) (V : Inv txt σ s) (M : MC w c x dx dep σ core) :
    Ctr w mean mg mb 161 [.ref x, .int s ts, .int p tp] (7 * (pat.length + 1) + 11) core (RetM w c x dx dep (tryF txt pat dep p s σ)) (ErrM w c x dx (tryF txt pat dep p s σ)) := try_ok O h0 h1 V M
end
local macro_rules | `(tactic| walk_at "call ref") => `(tactic| (k_here; (with_reducible show wpAny _ _ (call (Value.ref 161) _) _ _ _); k_dflt (top_raise; (case kC => exact try_at (dep := 0) (by assumption) (by assumption) (by assumption) (by assumption) (by assumption)); top_caught; intro v' core' h' tk' r' F' N' _ _; obtain ⟨q1', q2', e3', iv', M'⟩ := r'; cases iv'; top_strB)))
section
variable {w : World} {mean : ExcName → Option Value} {mg mb : Str → Option Value} {x dx : Addr} {c : Cf} {dep : Int} {core : Core} {txt pat : List Int}
set_option maxHeartbeats 16000000
variable {td tl : Tok} {lev : Int} {l1 l2 : Addr}
theorem search_ok {s p : Int} {b : Bool} {ts tp : Tok} (O : CfOk c txt pat) (hxd : @Ne Nat x dx) (h0 : 0 ≤ p) (h1 : p ≤ (pat.length : Int)) (s0 : 0 ≤ s) (s1 : s ≤ (txt.length : Int)) :
    Ctr w mean mg mb 250 [.ref x, .int s ts, .int p tp, .bool b] (7 * (pat.length + 1) + 14) [(x, instObj 253 dx), (dx, MD w c dep td lev tl l1 l2)]
      (fun v core' => ∃ r σ, searchF txt pat p b (txt.length + 1) s = some (r, σ) ∧ RetS w c x dx v core' r σ) (fun core' => searchF txt pat p b (txt.length + 1) s = none ∧ ME w c x dx core') := by
  have hx := O.hx; have hp := O.hp; have lx := O.lx; have lp := O.lp
  refine' ctr_of_body (binds := [("self", .ref x), ("init", .int s ts), ("p", .int p tp), ("is_anchored", .bool b)]) ?ho ?hcd ?hbind ?hloc ?hcell ?hco ?hgen ?hk ?hb
  case ho => k_is
  case hcd => k_is
  case hbind => exact fun _ _ => BindsTo.of_eq rfl
  case hloc => exact locs rfl
  case hcell => decide
  case hco => exact rfl
  case hgen => exact rfl
  case hk => exact rfl
  unfold Body
  intro dp un gd outer A₀ base g L h gn dr tk os Q E B F X N T hdp hun hlt hE hret hnext hpass hnew
  try dsimp only

  generalize hR : searchF txt pat p b (txt.length + 1) s = R at hret hpass hnew hnext
  refine execs_splitM 1 (fun s' => ∃ h' m' tk' s2 ts2, s' = ⟨h', gn, dr, tk', os⟩ ∧ Fr g L h' m' ∧ News g L h' [(x, instObj 253 dx), (dx, MD w c dep td lev tl l1 l2)] ∧ m' "self" = some (.ref x) ∧ m' "s" = some (.int s2 ts2) ∧ m' "p" = some (.int p tp) ∧ m' "is_anchored" = some (.bool b) ∧ s2 = s) ?_ ?_
  · intro Mq hMq
    dsimp only [List.take]
    k_steps
    all_goals exact CutQ.next (hMq.go _ ⟨_, _, _, _, _, rfl, by k_asm, by k_asm, by exact rfl, by exact rfl, by exact rfl, by exact rfl, rfl⟩)
  rintro _ ⟨h1', m1, tk1, s2, ts2, rfl, F1, N1, es, ess, ep, eb, e0⟩
  clear F N hlt
  dsimp only [List.drop]
  obtain ⟨n, hn⟩ : ∃ n, n = txt.length + 1 := ⟨_, rfl⟩
  have hR : searchF txt pat p b n s2 = R := by rw [hn, e0]; exact hR
  rw [← e0] at s0 s1
  have hm : (txt.length : Int) + 1 ≤ s2 + n := by omega
  clear e0 hn
  refine execs_cutM (fun s' => ∃ h' m' tk' core' σ', s' = ⟨h', gn, dr, tk', os⟩ ∧ Fr g L h' m' ∧ News g L h' core' ∧ R = some (none, σ') ∧ MC w c x dx 0 σ' core') ?_ ?_
  · intro Mq hMq
    refine whl_start 0 ?_
    induction n generalizing s2 ts2 h1' m1 tk1 dep td lev tl l1 l2 with
    | zero => omega
    | succ n ih =>
      have V0 : Inv txt ⟨0, [], []⟩ s2 := ⟨by decide, by decide, by decide, rfl, by decide, s0, s1, fun i hi => by dsimp only at hi; omega⟩
      refine whl_turn (k := 0) hE ?_
      k_steps
      all_goals first
        | (exfalso; omega)
        | (rename_i r'; obtain ⟨⟨r1, r2⟩⟩ := r'; exact Hold.mk ⟨by rw [← hR, s_err r1], r2⟩)
        | (have q := (by assumption : tryF _ _ _ _ _ _ = some (some _, _))
           refine CutQ.ret (hret _ _ _ _ _ ?_ (by k_asm) (by assumption)); exact ⟨some (_, _), _, by rw [← hR, s_met q], .some (by assumption) (by assumption)⟩)
        | (have q := (by assumption : tryF _ _ _ _ _ _ = some (none, _)); have qb := (by assumption : b = true)
           refine CutQ.ret (hret _ _ _ _ _ ?_ (by k_asm) (by k_asm)); exact ⟨none, _, by rw [← hR, s_bound q qb], .none (by assumption)⟩)
        | (have q := (by assumption : tryF _ _ _ _ _ _ = some (none, _)); have qb := (by assumption : b = false)
           have M' := (by assumption : MC w c x dx 0 _ _)
           obtain ⟨td', tl', l1', l2', mm1', mm2'⟩ := M'.at
           refine Hold.mk ?_
           by_cases hs : s2 + 1 ≤ (txt.length : Int)
           · apply ih (F1 := by assumption) (N1 := news2 (by assumption) mm1' mm2') (ess := by exact rfl)
             all_goals first | k_asm | exact rfl | assumption | omega | exact (s_on q qb hs).symm.trans hR
           · refine whl_turn (k := 0) hE ?_
             k_steps
             all_goals first | (exfalso; omega) | exact CutQ.next (hMq.go _ ⟨_, _, _, _, _, rfl, by k_asm, by k_asm, by rw [← hR, s_end q qb hs], M'⟩))
  rintro _ ⟨h2', m2, tk2, core2, σ2, rfl, F2, N2, e3, M2⟩
  k_steps
  all_goals (refine hret _ _ _ _ _ ?_ (by k_asm) (by k_asm); exact ⟨none, _, e3, .none M2⟩)
end
-- M9c
theorem freshM9c : True := by w_top off; trivial
section
variable {w : World} {mean : ExcName → Option Value} {mg mb : Str → Option Value} {x dx : Addr} {c : Cf} {dep : Int} {core : Core} {txt pat : List Int}
set_option maxHeartbeats 16000000
variable {td tl : Tok} {lev : Int} {l1 l2 : Addr} {vs1 vs2 : List Value} {n1 n2 : Nat} {ss ls : List Int}
/-- one capture: a place or a part of the text -/
noncomputable def capD (tx : Array UInt8) (lev : Int) (ss ls : List Int) (n s e : Int) : Option Dat :=
  if lev ≤ n then if 0 < n then none else some (.bytes (KBy.picked tx (some s) (some e)))
  else if ls.getD n.toNat 0 = -1 then none
  else if ls.getD n.toNat 0 = -2 then some (.int (ss.getD n.toNat 0 + 1))
  else some (.bytes (KBy.picked tx (some (ss.getD n.toNat 0)) (some (ss.getD n.toNat 0 + ls.getD n.toNat 0))))
inductive IsCap : Value → Dat → Prop
  | int {i : Int} {t : Tok} : IsCap (.int i t) (.int i)
  | bytes {b : Array UInt8} {t : Tok} : IsCap (.bytes b t) (.bytes b)
theorem capture_ok {n s e : Int} {tn ts te : Tok} (O : CfOk c txt pat) (m1 : (x, instObj 253 dx) ∈ core) (m2 : (dx, MD w c dep td lev tl l1 l2) ∈ core) (S : Lst core l1 l2 vs1 vs2 n1 n2 ss ls lev) (hn : 0 ≤ n) :
    Ctr w mean mg mb 238 [.ref x, .int n tn, .int s ts, .int e te] 2 core (fun v core' => core' = core ∧ ∃ d, capD c.tx lev ss ls n s e = some d ∧ IsCap v d) (fun core' => core' = core ∧ capD c.tx lev ss ls n s e = none) := by
  have hx := O.hx; have hp := O.hp; have lx := O.lx; have lp := O.lp
  have m3 := S.m1; have m4 := S.m2; have i1 := S.i1; have i2 := S.i2; have v0 := S.h0; have v1 := S.h1; have v2 := S.h2; have v3 := S.h3; have v4 := S.h4
  refine' ctr_of_body (binds := [("self", .ref x), ("number", .int n tn), ("s", .int s ts), ("end", .int e te)]) ?ho ?hcd ?hbind ?hloc ?hcell ?hco ?hgen ?hk ?hb
  case ho => k_is
  case hcd => k_is
  case hbind => exact fun _ _ => BindsTo.of_eq rfl
  case hloc => exact locs rfl
  case hcell => decide
  case hco => exact rfl
  case hgen => exact rfl
  case hk => exact rfl
  unfold Body
  intro dp un gd outer A₀ base g L h gn dr tk os Q E B F X N T hdp hun hlt hE hret hnext hpass hnew
  try dsimp only

  refine execs_splitM 2 (fun s' => ∃ h' m' tk' t1 t2, s' = ⟨h', gn, dr, tk', os⟩ ∧ Fr g L h' m' ∧ News g L h' core ∧ m' "self" = some (.ref x) ∧ m' "size" = some (.int (ls.getD n.toNat 0) t1) ∧ m' "start" = some (.int (ss.getD n.toNat 0) t2) ∧ ¬ lev ≤ n) ?_ ?_
  · intro Mq hMq
    dsimp only [List.take]
    k_steps
    all_goals first
      | (refine lua_back (by assumption) (by assumption) X (by k_asm) (hnew _ _ _ _ _ _ ?_ (by k_asm) (by k_asm) (by assumption)); exact ⟨rfl, by simp [-List.getD_eq_getElem?_getD, capD, *]⟩)
      | (refine CutQ.ret (hret _ _ _ _ _ ?_ (by k_asm) (by k_asm)); exact ⟨rfl, _, by rw [capD, if_pos (by assumption), if_neg (by assumption)], .bytes⟩)
      | exact CutQ.next (hMq.go _ ⟨_, _, _, _, _, rfl, by k_asm, cb_drop (by k_asm) (fun _ hp => .tail _ hp), by exact rfl, by exact rfl, by exact rfl, by omega⟩)
  rintro _ ⟨h2, m2', tk2, t1, t2, rfl, F2, N2, es, ez, est, hl⟩
  clear F N
  dsimp only [List.drop]
  k_steps
  all_goals first
    | (refine lua_back (by assumption) (by assumption) X (by k_asm) (hnew _ _ _ _ _ _ ?_ (by k_asm) (by k_asm) (by assumption)); exact ⟨rfl, by rw [capD, if_neg hl, if_pos (by assumption)]⟩)
    | (refine hret _ _ _ _ _ ?_ (by k_asm) (by k_asm); exact ⟨rfl, _, by rw [capD, if_neg hl, if_neg (by assumption), if_pos (by assumption)], .int⟩)
    | (refine hret _ _ _ _ _ ?_ (by k_asm) (by k_asm); exact ⟨rfl, _, by rw [capD, if_neg hl, if_neg (by assumption), if_neg (by assumption)], .bytes⟩)
end
-- Cp
theorem freshCp : True := by w_top off; trivial
section
section
variable {M : Model} {A : Around} {E : Value → Shared → Prop} {s : Shared}
/-- an exception on its way, whatever frame its flight names -/
noncomputable def AnyW (base : Heap) (l : List Env) (e : Addr) (cls a0 : Value) (h : Heap) : Prop :=
  base.StaysIn h ∧ base.get? e = none ∧ h.FunFrames base l ∧ ∃ fl, h.TracedAtW base e cls a0 fl
theorem FlyingW.any {base : Heap} {l : List Env} {e : Addr} {cls a0 : Value} {h : Heap} (x : Heap.FlyingW base l e cls a0 h) : AnyW base l e cls a0 h := ⟨x.1, x.2.1, x.2.2.1, _, x.2.2.2.at⟩
theorem HeldW.any {base : Heap} {l : List Env} {e L : Addr} {cls a0 : Value} {h : Heap} (x : Heap.HeldW base l e cls a0 L h) : AnyW base l e cls a0 h := ⟨x.1, x.2.1, x.2.2.1, _, x.2.2.2⟩
theorem leaves_any {base : Heap} {env : Env} {outer : List Env} {L e : Addr} {cls a0 : Value} {Q : Unit → Shared → Prop} (hfr : A.frames = some (env :: outer)) (hf : env.frame = some L)
    (hh : AnyW base (env :: outer) e cls a0 s.heap) (hQ : ∀ h', Heap.FlyingW base outer e cls a0 h' → s.heap.UpToSlots h' → Q () { s with heap := h' }) : wpAny M A (leaving env (.ref e)) Q E s := by
  obtain ⟨hkb, hen, hl, fl, ht⟩ := hh
  by_cases q : fl = rawInt L
  · subst q
    have H : Heap.HeldW base (env :: outer) e cls a0 L s.heap := ⟨hkb, hen, hl, ht⟩
    unfold leaving
    refine wpAny_bind (wpAny_noteFrame_againW hf ht ?_)
    refine wpAny_landsW H fun h' hfl hu => ?_
    obtain ⟨k1, k2, ⟨_, _, k3⟩, k4⟩ := hfl
    exact hQ h' ⟨k1, k2, k3, k4⟩ hu
  · obtain ⟨oe, vs, T, oT, ts, he, ⟨hcls, h0⟩, hd, h1, hnT, hTe, hT, hdT, h3⟩ := ht
    subst hcls
    unfold leaving noteFrame
    simp only [hf]
    refine wpAny_bind (wpAny_bind (wpAny_field he hd h1 ?_))
    rw [if_pos (show (Value.ref T != Value.none) = true from by simp)]
    refine wpAny_bind (wpAny_field hT hdT h3 ?_)
    rw [if_neg (show ¬ ((fl == rawInt L) = true) from by simpa using q)]
    refine wpAny_bind (wpAny_setField hT hdT (Array.getElem?_eq_some_iff.mp h3).1 ?_)
    have other : ∀ b, b ≠ T → (s.heap.update T (Obj.mapFields (·.setIfInBounds 3 Value.none))).get? b = s.heap.get? b := fun b hb => Heap.get?_update_other _ _ (Ne.symm hb)
    have noRecord : ∀ b o, s.heap.get? b = some o → (∀ vs, o.data ≠ .fields vs) → b ≠ T := fun b o hb hnf q => by
      rw [q, hT] at hb; injection hb with hb; subst hb; exact hnf ts hdT
    refine wpAny_newEntryW hfr (hl.of_keeps fun b o hb hnf => ⟨o, (other b (noRecord b o hb hnf)).trans hb, rfl⟩) hf ((other e (Ne.symm hTe)).trans he)
      (fun b o hbo => (other b fun q => by rw [q, hnT] at hbo; cases hbo).trans (hkb b o hbo)) hen hd (Array.getElem?_eq_some_iff.mp h1).1 h0
      fun h' ⟨x1, ⟨_, _, x2⟩, x3, x4⟩ => hQ h' ⟨x1, hen, x2, x3⟩ fun b o hb hnf => x4 b o ((other b (noRecord b o hb hnf)).trans hb) hnf
end
theorem funFrames_to {h h' B B' : Heap} : ∀ {l : List Env}, h.FunFrames B l → (∀ b o, B'.get? b = some o → B.get? b = some o) → (∀ b o, h.get? b = some o → (∀ vs, o.data ≠ .fields vs) → B.get? b = none → ∃ o', h'.get? b = some o' ∧ o'.data = o.data) → h'.FunFrames B' l
  | [], _, _, _ => trivial
  | env :: l, ⟨hk, ⟨L, o, hf, hn, ho, hd⟩, hr⟩, k, kk => by
    refine ⟨hk, ⟨L, ?_⟩, funFrames_to hr k kk⟩
    obtain ⟨o', ho', hd'⟩ := kk L o ho hd hn
    refine ⟨o', hf, ?_, ho', fun vs q => hd vs (hd'.symm.trans q)⟩
    cases q : B'.get? L with
    | none => rfl
    | some z => rw [k _ _ q] at hn; cases hn
/-- an exception on its way, whatever frame its flight names, with the ledger that stands -/
inductive RaisedAny (base G : Heap) (l : List Env) (e : Addr) (cls : Value) (news : List (Addr × Obj)) (h : Heap) : Prop
  | mk : ∀ B a0, (base.StaysIn B) → ((∀ b o, G.get? b = some o → b ∉ l.filterMap (·.frame) → B.get? b = some o)) → ((∀ q ∈ news, B.get? q.1 = some q.2 ∧ G.get? q.1 = none ∧ base.get? q.1 = none)) → (AnyW B l e cls a0 h) → RaisedAny base G l e cls news h
theorem RaisedAny.of {base G : Heap} {l : List Env} {e : Addr} {cls : Value} {news : List (Addr × Obj)} {h : Heap} (R : RaisedSN base G l e cls news h) : RaisedAny base G l e cls news h := by
  obtain ⟨B, a0, k1, k2, k3, k4⟩ := R
  exact ⟨B, a0, k1, k2, k3, FlyingW.any k4⟩
theorem RaisedAny.but {base G : Heap} {l : List Env} {e C : Addr} {oC : Obj} {cls : Value} {news news' : List (Addr × Obj)} {h h' : Heap} (R : RaisedAny base G l e cls news h) (hC : (C, oC) ∈ news) (hd : ∀ vs, oC.data ≠ .fields vs)
    (sb : Heap.SameBut C h h') (sub : ∀ q ∈ news', q ∈ news ∧ q.1 ≠ C) : RaisedAny base G l e cls news' h' := by
  obtain ⟨B, a0, k1, k2, k3, hk, hen, hfr, fl, oe, vs, T, oT, ts, he, hc, hde, h1, hnT, hTe, hT, hdT, h3⟩ := R
  have zC := k3 _ hC
  have up : ∀ b o, B.get? b = some o → b ≠ C → (hideAll B [C]).get? b = some o := fun b o q n => hideAll_get _ q (by simpa using n)
  have dn : ∀ b o, (hideAll B [C]).get? b = some o → B.get? b = some o := fun b o q => of_hideAll _ q
  have nC : ∀ b o, (hideAll B [C]).get? b = some o → b ≠ C := fun b o q z => by
    rw [z, hideAll_none [C] (by simp)] at q; cases q
  have nn : ∀ b, B.get? b = none → (hideAll B [C]).get? b = none := fun b q => by
    cases z : (hideAll B [C]).get? b with
    | none => rfl
    | some o => rw [dn _ _ z] at q; cases q
  have eC : e ≠ C := fun z => by rw [z, hk _ _ zC.1] at he; cases he; exact hd _ hde
  have TC : T ≠ C := fun z => by rw [z, zC.1] at hnT; cases hnT
  refine ⟨hideAll B [C], a0, fun b o q => up b o (k1 b o q) (fun z => by rw [z, zC.2.2] at q; cases q), fun b o q n => up b o (k2 b o q n) (fun z => by rw [z, zC.2.1] at q; cases q),
    fun q hq => ⟨up _ _ (k3 q (sub q hq).1).1 (sub q hq).2, (k3 q (sub q hq).1).2⟩, fun b o q => (sb.2 b (nC b o q)).trans (hk b o (dn b o q)), nn _ hen,
    funFrames_to hfr dn fun b o q _ n => ⟨o, (sb.2 b fun z => by rw [z, zC.1] at n; cases n).trans q, rfl⟩, fl, oe, vs, T, oT, ts, (sb.2 e eC).trans he, hc, hde, h1, nn _ hnT, hTe, (sb.2 T TC).trans hT, hdT, h3⟩
section
variable {M : Model} {A : Around} {E : Value → Shared → Prop} {s : Shared}
theorem note_any {base G : Heap} {env env' : Env} {outer : List Env} {L e : Addr} {cls : Value} {news : List (Addr × Obj)} {Q : Unit → Shared → Prop} (hfr : A.frames = some (env :: outer)) (hf : env.frame = some L) (hf' : env'.frame = env.frame)
    (R : RaisedSN base G (env :: outer) e cls news s.heap) (hu : G.UpToSlots s.heap) (hQ : ∀ h', RaisedAny base G (env :: outer) e cls news h' → G.UpToSlots h' → Q () { s with heap := h' }) : wpAny M A (noteFrame (.ref e) env') Q E s := by
  obtain ⟨B, a0, k1, k2, k3, k4⟩ := R
  have z : noteFrame (.ref e) env' = noteFrame (.ref e) env := by
    unfold noteFrame PySem.frameOf
    rw [hf']
  rw [z]
  exact wpAny_looks_onW hfr hf k4 fun h' hh uu => hQ h' ⟨B, a0, k1, k2, k3, HeldW.any hh⟩ (hu.trans uu)
theorem flight_any {base G : Heap} {l : List Env} {e : Addr} {cls : Value} {news : List (Addr × Obj)} {f : Option Addr} {Q : Unit → Shared → Prop}
    (R : RaisedAny base G l e cls news s.heap) (hu : G.UpToSlots s.heap) (hQ : ∀ h', RaisedAny base G l e cls news h' → G.UpToSlots h' → Q () { s with heap := h' }) : wpAny M A (setFlight (.ref e) f) Q E s := by
  obtain ⟨B, a0, k1, k2, k3, hk, hen, hfr, fl, oe, vs, T, oT, ts, he, hc, hde, h1, hnT, hTe, hT, hdT, h3⟩ := R
  have hsz3 : 3 < ts.size := (Array.getElem?_eq_some_iff.mp h3).1
  have other : ∀ b, b ≠ T → (s.heap.update T (Obj.mapFields (·.setIfInBounds 3 (f.elim Value.none fun f => rawInt f)))).get? b = s.heap.get? b :=
    fun b hb => Heap.get?_update_other _ _ (Ne.symm hb)
  have noRecord : ∀ b o, s.heap.get? b = some o → (∀ vs, o.data ≠ .fields vs) → b ≠ T := fun b o hb hnf q => by
    rw [q, hT] at hb; injection hb with hb; subst hb; exact hnf ts hdT
  unfold setFlight
  refine wpAny_bind (wpAny_field he hde h1 ?_)
  rw [if_pos (show (Value.ref T != Value.none) = true from by simp)]
  refine wpAny_setField hT hdT hsz3 (hQ _ ⟨B, a0, k1, k2, k3, fun b o hbo => (other b fun q => by rw [q, hnT] at hbo; cases hbo).trans (hk b o hbo), hen,
    hfr.of_keeps fun b o hb hnf => ⟨o, (other b (noRecord b o hb hnf)).trans hb, rfl⟩, f.elim Value.none fun f => rawInt f, ?_⟩ (hu.trans fun b o hb hnf => ⟨o.slots, (other b (noRecord b o hb hnf)).trans hb⟩))
  exact ⟨oe, vs, T, _, _, (other e (Ne.symm hTe)).trans he, hc, hde, h1, hnT, hTe, Heap.get?_update_self _ hT (Obj.isFreed_of_fields (Obj.data_mapFields hdT _)), Obj.data_mapFields hdT _, by simp [hsz3]⟩
theorem pass_any {α : Type} {base G : Heap} {l : List Env} {e : Addr} {cls : Value} {news : List (Addr × Obj)} {env : Env} {what : String} {Q : α → Shared → Prop}
    (R : RaisedAny base G l e cls news s.heap) (hu : G.UpToSlots s.heap) (hQ : ∀ h', RaisedAny base G l e cls news h' → G.UpToSlots h' → E (.ref e) { s with heap := h' }) : wpAny M A (PySem.passOn what (.ref e) env : Sem α) Q E s := by
  have R' := R
  obtain ⟨B, a0, k1, k2, k3, hk, hen, hfr, fl, oe, vs, T, oT, ts, he, hc, hde, h1, hnT, hTe, hT, hdT, h3⟩ := R
  unfold PySem.passOn
  refine wpAny_bind (wpAny_field he hde h1 ?_)
  rw [if_neg (show ¬ ((Value.ref T == Value.none) = true) from by simp)]
  first
    | exact wpAny_bind (wpAny_pure (wpAny_bind (flight_any R' hu fun h' a b => wpAny_throw (hQ h' a b))))
    | exact wpAny_bind (flight_any R' hu fun h' a b => wpAny_throw (hQ h' a b))
end
section
variable {M : Model} {A : Around} {E : Value → Shared → Prop} {s' : Shared} {base g g₂ h : Heap} {outer : List Env} {L a e : Addr} {m : Str → Option Value} {name : Str} {scope : Scope} {cd : Value} {Q : Unit → Shared → Prop} {news : List (Addr × Obj)}
theorem leave_any {cls : Value} {env : Env} (hst : A.frames = some outer) (hf : env.frame = some L) (F : Fr g L g₂ m) (R : RaisedAny base g₂ (env :: outer) e cls news s'.heap) (hsm : g₂.UpToSlots s'.heap)
    (hQ : ∀ h', RaisedSN base g outer e cls news h' → g.UpToSlots h' → Q () { s' with heap := h' }) : wpAny M (A.deeper env) (leaving env (.ref e)) Q E s' := by
  obtain ⟨B, a0, hB, hBG, hl, hfl⟩ := R
  refine leaves_any (Around.frames_deeper hst) hf hfl fun h' x1 x2 => hQ h' ⟨B, a0, hB, fun b o q nm => hBG b o (F.keep b o q) (fun hm => ?_), fun q hq => ⟨(hl q hq).1, kts_none F.keep (hl q hq).2.1, (hl q hq).2.2⟩, x1⟩ ((Heap.UpToSlots.of_keeps F.keep).trans (hsm.trans x2))
  rw [List.filterMap_cons, hf] at hm
  rcases List.mem_cons.mp hm with z | z
  · rw [z, kts_self F] at q
    cases q
  · exact nm z
end
end
-- Cq
theorem freshCq : True := by w_top off; trivial
section
open PySem.Calls PySem.Spec
section
variable {prog : Program} {w : World} {A : Around} {E : Value → Shared → Prop} {s : Shared} {h₀ base : Heap} {L : Addr} {m : Str → Option Value} {env : Env} {outer : List Env}
/-- the ledger of a list that is being built in a block -/
noncomputable abbrev blk (I : Addr) (oI : Obj) (C : Addr) (oC : Obj) (D : Addr) (ys : List Value) (news : Core) : Core := (I, oI) :: (C, oC) :: (D, LCg.lst ys) :: news
/-- one element of a block over a range: it is made, or it raises -/
noncomputable def Turn (prog : Program) (w : World) (A : Around) (h₀ base : Heap) (L : Addr) (m : Str → Option Value) (env : Env) (outer : List Env) (elt : Expr) (x : Str) (scope : Scope) (cl : List (Str × Addr)) (s : Shared) (news : Core) (a : Int) (n : Nat) (G : List Value → Prop) (Bad : Prop) : Prop :=
  ∀ (t : Tok) (I : Addr) (oI : Obj) (C : Addr) (oC : Obj) (D : Addr) (ys : List Value) (h : Heap) (tk : Nat) (m₂ : Str → Option Value), ys.length < n → G ys → LCg.NsObj oC m₂ → m₂ x = some (.int (a + (ys.length : Int)) t) → Fr h₀ L h m → News h₀ L h (blk I oI C oC D ys news) → LCg.Off3 I C D news → ((@Ne Nat I C) ∧ (@Ne Nat I D) ∧ (@Ne Nat C D)) →
    wpAny (model prog w) A (eval elt (compEnvC scope cl C env)) (fun y s₂ => ∃ h' tk', s₂ = { s with heap := h', toks := tk' } ∧ Fr h₀ L h' m ∧ News h₀ L h' (blk I oI C oC D ys news) ∧ G (ys ++ [y]))
      (fun e s₂ => ∃ ea h' tk' g₂ m', e = .ref ea ∧ s₂ = { s with heap := h', toks := tk' } ∧ Fr h₀ L g₂ m' ∧ RaisedSN base g₂ (env :: outer) ea (.ref 31) (blk I oI C oC D ys news) h' ∧ g₂.UpToSlots h' ∧ Bad) { s with heap := h, toks := tk }
theorem block_R {elt iter : Expr} {x : Str} {px : Pos} {scope : Scope} {cl : List (Str × Addr)} {pos : Pos} {s₂ : Shared} {I : Addr} {n : Nat} {a : Int} {news : Core} {G : List Value → Prop} {Bad : Prop} {Q : Value → Shared → Prop}
    (hh : A.handled = none) (hsz : n ≤ sizeLine) (hcell : ∀ y ∈ scope.names, y.2 ≠ .cell) (hkind : scope.kind = .function) (hx : scope.names.lookup x = some .local) (hst : IsRangeIter s₂.heap I a n 1) (hI : I < s₂.heap.objs.size)
    (F : Fr h₀ L s₂.heap m) (N : News h₀ L s₂.heap news) (hIL : L ≠ I) (hI₀ : h₀.get? I = none) (off : ∀ p ∈ news, p.1 ≠ I) (hA : A.frames = some (env :: outer)) (hf : env.frame = some L)
    (T : Turn prog w A h₀ base L m env outer elt x scope cl s₂ news a n G Bad) (hG : G [])
    (fin : ∀ ys D h tk, ys.length = n → G ys → Fr h₀ L h m → News h₀ L h ((D, LCg.lst ys) :: news) → LCg.Off1 D news → Q (.ref D) { s₂ with heap := h, toks := tk })
    (bad : ∀ ea h' tk' g₂ m', Bad → Fr h₀ L g₂ m' → RaisedAny base g₂ (env :: outer) ea (.ref 31) news h' → g₂.UpToSlots h' → E (.ref ea) { s₂ with heap := h', toks := tk' }) :
    wpAny (model prog w) A (newList []) (fun acc s₃ => wpAny (model prog w) A (newFunctionEnv scope env.globals cl [] env.qual none .none (some env)) (fun cenv s₄ =>
      codeAny (model prog w) A (.compStart (.ListComp elt [⟨.Name x px, iter, [], 0⟩] scope pos) 0 (.ref I) acc { cenv with scope := relabel scope env }) (compPost (model prog w) A E none Q acc cenv.locals) s₄) E s₃) E s₂ := by
  have W := LCg.range_walks (prog := prog) (w := w) (I := I) hh a n
  refine wpAny_newObj_type (wpAny_newFunctionEnv hcell (by intro y hy; simp at hy) (fun h₁ hns₁ hsb₁ => ?_) hkind)
  dsimp only at hns₁ hsb₁ ⊢
  generalize hH2 : s₂.heap.push { cls := .type "list", dict := none, data := .seq ([] : List Value).toArray } = H2 at hns₁ hsb₁ ⊢
  have hC : H2.objs.size = s₂.heap.objs.size + 1 := by rw [← hH2, Heap.size_push]
  have hDC : s₂.heap.objs.size ≠ H2.objs.size := by rw [hC]; exact Nat.ne_of_lt (Nat.lt_succ_self _)
  have below : ∀ b, b < s₂.heap.objs.size → b ≠ H2.objs.size ∧ b ≠ s₂.heap.objs.size := fun b hb => ⟨by rw [hC]; exact Nat.ne_of_lt (Nat.lt_succ_of_lt hb), Nat.ne_of_lt hb⟩
  have old : ∀ b o, s₂.heap.get? b = some o → h₁.get? b = some o := fun b o e => hsb₁.extBut b o (below b (Heap.lt_size e)).1 (Heap.get?_push_of_some _ (hH2 ▸ Heap.get?_push_of_some _ e))
  have hacc : h₁.get? s₂.heap.objs.size = some (LCg.lst []) := hsb₁.extBut _ _ hDC (Heap.get?_push_of_some _ (hH2 ▸ Heap.get?_push_size _ rfl))
  have fresh : ∀ b, s₂.heap.objs.size ≤ b → h₀.get? b = none := fun b hb => by
    cases e : h₀.get? b with
    | none => rfl
    | some o => exact absurd (Heap.lt_size (F.keep b o e)) (Nat.not_lt.mpr hb)
  have hD₀ : h₀.get? s₂.heap.objs.size = none := fresh _ (Nat.le_refl _)
  have hC₀ : h₀.get? H2.objs.size = none := fresh _ (by rw [hC]; exact Nat.le_succ _)
  have hLlt : L < s₂.heap.objs.size := F.ns.lt
  have hDL : s₂.heap.objs.size ≠ L := Ne.symm (below L hLlt).2
  have hCL : H2.objs.size ≠ L := Ne.symm (below L hLlt).1
  have hCI : I ≠ H2.objs.size := (below I hI).1
  have hDI : I ≠ s₂.heap.objs.size := (below I hI).2
  have off₀ : LCg.Off3 I H2.objs.size s₂.heap.objs.size news := LCg.Off3.of fun p hp => ⟨off p hp, (below _ (Heap.lt_size (N p hp).1)).1, (below _ (Heap.lt_size (N p hp).1)).2⟩
  have off3 := off₀.mem
  have hst₁ : IsRangeIter h₁ I (a + ((0 : Nat) : Int) * 1) ((n : Int) - ((0 : Nat) : Int)) 1 := by
    have z : IsRangeIter h₁ I a n 1 := old _ _ hst
    simpa using z
  have N₁ : News h₀ L h₁ ((s₂.heap.objs.size, LCg.lst []) :: news) := fun p hp => by
    rcases List.mem_cons.mp hp with rfl | hp
    · exact ⟨hacc, hDL, hD₀⟩
    · exact ⟨old _ _ (N p hp).1, (N p hp).2⟩
  have loop : ∀ s₃ : Shared, s₃ = { s₂ with heap := h₁, toks := s₂.toks + ([] : List (Str × Value)).length } →
      codeAny (model prog w) A (.compLoop (.ListComp elt [⟨.Name x px, iter, [], 0⟩] scope pos) 0 (.ref I) (.ref s₂.heap.objs.size) (compEnvC scope cl H2.objs.size env))
        (compPost (model prog w) A E none Q (.ref s₂.heap.objs.size) H2.objs.size) s₃ := by
    rintro s₃ rfl
    refine codeAny_compLoop_tests
      (fun k s' => ∃ h' tk ys m', s' = { s₂ with heap := h', toks := tk } ∧ ys.length ≤ n ∧ k = n + 1 - ys.length ∧ IsRangeIter h' I (a + ((ys.length : Nat) : Int) * 1) ((n : Int) - ((ys.length : Nat) : Int)) 1 ∧ Fr h₀ L h' m ∧ h'.Ns H2.objs.size m' ∧
        News h₀ L h' ((s₂.heap.objs.size, LCg.lst ys) :: news) ∧ G ys) ?_ (n + 1)
      ⟨h₁, _, [], _, rfl, Nat.zero_le _, rfl, hst₁, F.keeps old, hns₁, N₁, hG⟩
    rintro k s' ⟨h', tk, ys, m', rfl, hi, rfl, hst', F', hn', N', G'⟩
    by_cases hlt : ys.length < n
    · refine W.item ys.length _ _ _ hlt hst' fun v h₂ tk₂ hPv hst₂ hk₂ => ?_
      obtain ⟨t, rfl⟩ := hPv
      refine wpAny_assign_Name (wpAny_storeName_local (lookup_relabel_local hx) (hn'.at' fun o e => hk₂ _ o (by simpa using Ne.symm hCI) e) (fun h₃ hn₃ hs₃ => ?_) (by simp [compEnvC, relabel, hkind]))
      refine wpAny_tests_nil ?_
      simp only [if_true]
      have hst₃ : IsRangeIter h₃ I (a + ((ys.length + 1 : Nat) : Int) * 1) ((n : Int) - ((ys.length + 1 : Nat) : Int)) 1 := W.frame _ _ _ hst₂ fun b hb o e => hs₃.extBut b o (fun q => hCI ((List.mem_singleton.mp hb).symm.trans q)) e
      obtain ⟨oC, heC, hoC⟩ := LCg.ns_obj hn₃
      have F₃ : Fr h₀ L h₃ m := (LCg.fr_but F' hk₂ hIL hI₀).change hs₃ hCL hC₀
      have N₂ : News h₀ L h₂ ((s₂.heap.objs.size, LCg.lst ys) :: news) := LCg.news_but N' hk₂ fun p hp => by
        rcases List.mem_cons.mp hp with rfl | hp
        · exact Ne.symm hDI
        · exact (off3 p hp).1
      have N₃ : News h₀ L h₃ (blk I _ H2.objs.size oC s₂.heap.objs.size ys news) := fun p hp => by
        rcases List.mem_cons.mp hp with rfl | hp
        · exact ⟨hst₃, Ne.symm hIL, hI₀⟩
        rcases List.mem_cons.mp hp with rfl | hp
        · exact ⟨heC, hCL, hC₀⟩
        · have z := N₂ p hp
          refine ⟨hs₃.extBut _ _ ?_ z.1, z.2⟩
          rcases List.mem_cons.mp hp with rfl | hp
          · exact hDC
          · exact (off3 p hp).2.1
      refine wpAny_mono (T t I _ H2.objs.size oC s₂.heap.objs.size ys h₃ _ _ hlt G' hoC (by simp) F₃ N₃ off₀ ⟨hCI, hDI, Ne.symm hDC⟩) (fun y s₄ h₄ => ?_) (fun e s₄ h₄ => ?_)
      · obtain ⟨h₄, tk₄, rfl, F₄, N₄, G₄⟩ := h₄
        have zI := (N₄ (I, _) List.mem_cons_self).1
        have zC := (N₄ (H2.objs.size, oC) (List.mem_cons_of_mem _ List.mem_cons_self)).1
        have zD := (N₄ (s₂.heap.objs.size, LCg.lst ys) (List.mem_cons_of_mem _ (List.mem_cons_of_mem _ List.mem_cons_self))).1
        have N₄' : News h₀ L h₄ news := fun p hp => N₄ p (List.mem_cons_of_mem _ (List.mem_cons_of_mem _ (List.mem_cons_of_mem _ hp)))
        refine append_at (hsz := by show ys.toArray.size ≤ sizeLine; rw [List.size_toArray]; omega) zD fun h₅ hs₅ hD₅ => ?_
        refine ⟨n + 1 - (ys.length + 1), by omega, h₅, tk₄, ys ++ [y], _, rfl, by rw [List.length_append, List.length_singleton]; exact hlt, by rw [List.length_append, List.length_singleton], ?_, F₄.change hs₅ hDL hD₀, (hoC.ns zC).sameBut hs₅ (Ne.symm hDC), fun p hp => ?_, G₄⟩
        · rw [List.length_append, List.length_singleton]
          exact hs₅.extBut _ _ hDI zI
        · rcases List.mem_cons.mp hp with rfl | hp
          · exact ⟨hD₅.trans (congrArg some (LCg.lst_snoc ys y)), hDL, hD₀⟩
          · exact ⟨hs₅.extBut _ _ (off3 p hp).2.2 (N₄' p hp).1, (N₄' p hp).2⟩
      · obtain ⟨ea, h₄, tk₄, g₂, m₄, rfl, rfl, F₄, R₄, U₄, B₄⟩ := h₄
        refine note_any hA hf rfl R₄ U₄ fun h₅ R₅ U₅ => ?_
        have kC : h₅.get? H2.objs.size = some oC ∧ g₂.get? H2.objs.size = none := by
          obtain ⟨B, a0, _, _, k3, hk, _⟩ := R₅
          have z := k3 (H2.objs.size, oC) (List.mem_cons_of_mem _ List.mem_cons_self)
          exact ⟨hk _ _ z.1, z.2.1⟩
        obtain ⟨es, ep, hd, hr⟩ := id hoC
        refine ⟨_, hoC.ns kC.1, fun h₆ hs₆ cenv _ => ?_⟩
        refine pass_any (R₅.but (C := H2.objs.size) (List.mem_cons_of_mem _ List.mem_cons_self) (fun vs q => by rw [hd] at q; cases q) hs₆ (news' := news) fun q hq => ⟨List.mem_cons_of_mem _ (List.mem_cons_of_mem _ (List.mem_cons_of_mem _ hq)), (off3 q hq).2.1⟩) ?_ fun h₇ R₇ U₇ => ?_
        · intro b o hb hnf
          obtain ⟨sl, q⟩ := U₅ b o hb hnf
          exact ⟨sl, (hs₆.2 b fun z => by rw [z, kC.2] at hb; cases hb).trans q⟩
        · exact bad _ _ _ _ _ B₄ F₄ R₇ U₇
    · obtain hi' : ys.length = n := Nat.le_antisymm hi (Nat.not_lt.mp hlt)
      rw [hi'] at hst'
      refine W.done _ _ _ hst' fun h₂ tk₂ hk₂ => ?_
      refine ⟨m', hn'.at' fun o e => hk₂ _ o (by simpa using Ne.symm hCI) e, fun h'' hs'' => fin ys _ h'' tk₂ hi' G' ((LCg.fr_but F' hk₂ hIL hI₀).change hs'' hCL hC₀) (fun p hp => ?_) off₀.one⟩
      have z := LCg.news_but N' hk₂ (fun p hp => by
        rcases List.mem_cons.mp hp with rfl | hp
        · exact Ne.symm hDI
        · exact (off3 p hp).1) p hp
      refine ⟨hs''.extBut _ _ ?_ z.1, z.2⟩
      rcases List.mem_cons.mp hp with rfl | hp
      · exact hDC
      · exact (off3 p hp).2.1
  exact codeAny_compStart_list (loop _ rfl) (W.self 0 _ _ _ hst₁ (loop _ rfl))
/-- the range of a block, and what its turns do -/
inductive RSrc (prog : Program) (w : World) (A : Around) (h₀ base : Heap) (L : Addr) (m : Str → Option Value) (env : Env) (outer : List Env) (elt : Expr) (x : Str) (scope : Scope) (cl : List (Str × Addr)) (Q : Value → Shared → Prop) (E : Value → Shared → Prop)
    (news : Core) (n : Nat) (G : List Value → Prop) (Bad : Prop) (xv : Value) (s₁ : Shared) : Prop
  | mk : ∀ r a b t u v, (xv = .ref r) → (Fr h₀ L s₁.heap m) → (News h₀ L s₁.heap news) → (IsRange s₁.heap r a b 1 t u v) → (Builtin.Range.small a b 1 = true) → (Builtin.Range.rangeSize a b 1 = ((n : Nat) : Int)) → (n ≤ sizeLine) → (G []) → ((∀ s₂ : Shared, (∃ h, s₂ = { s₁ with heap := h }) → Turn prog w A h₀ base L m env outer elt x scope cl s₂ news a n G Bad)) → ((∀ ys D h tk, ys.length = n → G ys → Fr h₀ L h m → News h₀ L h ((D, LCg.lst ys) :: news) → LCg.Off1 D news → Q (.ref D) { s₁ with heap := h, toks := tk })) → ((∀ ea h' tk' g₂ m', Bad → Fr h₀ L g₂ m' → RaisedAny base g₂ (env :: outer) ea (.ref 31) news h' → g₂.UpToSlots h' → E (.ref ea) { s₁ with heap := h', toks := tk' })) → RSrc prog w A h₀ base L m env outer elt x scope cl Q E news n G Bad xv s₁
/-- a list built over a range, whose element may raise -/
theorem ListComp_R {elt iter : Expr} {x : Str} {px : Pos} {scope : Scope} {cl : List (Str × Addr)} {pos : Pos} {Q : Value → Shared → Prop} (news : Core) (n : Nat) (G : List Value → Prop) (Bad : Prop)
    (hclos : closureFor scope env = pure cl) (hcell : ∀ y ∈ scope.names, y.2 ≠ .cell) (hkind : scope.kind = .function)
    (hnames : ∀ y ∈ scope.names, y.2 = .local → scope.names.lookup y.1 = some .local) (hx : scope.names.lookup x = some .local) (hh : A.handled = none) (hA : A.frames = some (env :: outer)) (hf : env.frame = some L)
    (h : wpAny (model prog w) A (eval iter env) (RSrc prog w A h₀ base L m env outer elt x scope cl Q E news n G Bad) E s)
    (hs : ∀ x, foldedSetIterable iter env x = pure x := by intro _; rfl) :
    wpAny (model prog w) A (eval (.ListComp elt [⟨.Name x px, iter, [], 0⟩] scope pos) env) Q E s := by
  rw [eval_ListComp]
  refine wpAny_comprehension_free (use := none) rfl hs hclos hkind hnames (wpAny_mono h (fun xv s₁ h₁ => ?_) fun _ _ e => e)
  obtain ⟨r, a, b, t, u, v, rfl, F, N, hr, hsm, hn, hsz, hG, T, fin, bad⟩ := h₁
  refine wpAny_pyIter_range hr hsm ?_
  refine block_R (G := G) (Bad := Bad) hh hsz hcell hkind hx (by show IsRangeIter _ _ _ _ _; rw [hn]; simpa using Heap.get?_push_size _ rfl) (by
      show s₁.heap.objs.size < (s₁.heap.push _).objs.size
      rw [Heap.size_push]; exact Nat.lt_succ_self _)
    (F.keeps fun _ _ e => Heap.get?_push_of_some _ e) (N.grown fun _ _ e => Heap.get?_push_of_some _ e) (Nat.ne_of_lt F.ns.lt) (next_is_new F) (fun p hp => Nat.ne_of_lt (Heap.lt_size (N p hp).1)) hA hf (T _ ⟨_, rfl⟩) hG fin bad
end
end
-- Cr
theorem freshCr : True := by w_top off; trivial
section
open PySem.Calls PySem.Spec
/-- a LuaError that was already noted in this frame leaves it -/
noncomputable def PassA (base g : Heap) (L : Addr) (envs : List Env) (gn : Array GenState) (dr : Drawn) (os : OsState) (Err : Core → Prop) (E : Value → Shared → Prop) : Prop :=
  ∀ (e : Addr) (m' : Str → Option Value) (core' : Core) (g₂ h' : Heap) (tk' : Nat), Err core' → Fr g L g₂ m' → RaisedAny base g₂ envs e (.ref 31) core' h' → g₂.UpToSlots h' → E (.ref e) ⟨h', gn, dr, tk', os⟩
/-- the body of a def with cells, in its own frame -/
noncomputable def BodyC (w : World) (mean : ExcName → Option Value) (mg mb : Str → Option Value) (f : Addr) (qual : Str) (scope : Scope) (cdv : Value) (body : List Stmt) (binds : List (Str × Value)) (d : Nat) (core : Core) (Ret : Value → Core → Prop) (Err : Core → Prop) : Prop :=
  ∀ (dp un : Nat) (gd : Option (List Code)) (outer : List Env) (A₀ : Around) (base g : Heap) (L : Addr) (h : Heap) (gn : Array GenState) (dr : Drawn) (tk : Nat) (os : OsState) (cells : Core) (Q : Flow → Shared → Prop) (E : Value → Shared → Prop),
    Below A₀ base outer g → Fr g L h (bindL (envOfC qual scope L f cdv).kindOf binds fun _ => none) → (hd.heap_1 w.params).In g → News g L h (cells ++ core) → CellsAre (bindC (envOfC qual scope L f cdv).kindOf binds fun _ => none) (cellsFrom (L + 1) scope.names []) cells →
    Top view39 (looseW view39 []) mean mg mb g → dp + d < recursionLimit → un + 8 * d < cLine → (∀ p ∈ core, p.1 < L) →
    PassesOwn (model PySem.Challenge.rw_sm0059_01.row.prog w) (ktrTop dp un gd qual scope L f cdv (cellsFrom (L + 1) scope.names []) outer) (envX qual scope L f cdv (cellsFrom (L + 1) scope.names [])) E →
    (∀ v m' core' h' tk', Ret v core' → Fr g L h' m' → News g L h' core' → Q (.ret v) ⟨h', gn, dr, tk', os⟩) →
    (∀ m' core' h' tk', Ret .none core' → Fr g L h' m' → News g L h' core' → Q .next ⟨h', gn, dr, tk', os⟩) →
    PassE base g L (envX qual scope L f cdv (cellsFrom (L + 1) scope.names []) :: outer) gn dr os Err E →
    PassA base g L (envX qual scope L f cdv (cellsFrom (L + 1) scope.names []) :: outer) gn dr os Err E →
    wpAny (model PySem.Challenge.rw_sm0059_01.row.prog w) (ktrTop dp un gd qual scope L f cdv (cellsFrom (L + 1) scope.names []) outer) (execs body (envX qual scope L f cdv (cellsFrom (L + 1) scope.names []))) Q E ⟨h, gn, dr, tk, os⟩
theorem ctrC_of_body {w : World} {mean : ExcName → Option Value} {mg mb : Str → Option Value} {f : Addr} {vs : List Value} {d : Nat} {core : Core} {Ret : Value → Core → Prop} {Err : Core → Prop}
    {name qual : Str} {params : Arguments} {body : List Stmt} {scope : Scope} {dV kV doc pm cdv ct oc : Value} {an od : Option Addr} {osl : Array (Option Value)} {binds : List (Str × Value)}
    (ho : (hd.heap_1 w.params).lookup f = some ⟨oc, od, .func (fnOf name qual params body scope dV kV doc pm an cdv ct), osl⟩) (hcd : codeIn (hd.heap_1 w.params) cdv qual = true)
    (hbind : ∀ s : Shared, (hd.heap_1 w.params).In s.heap → BindsTo s (fnOf name qual params body scope dV kV doc pm an cdv ct) ⟨vs, []⟩ binds)
    (hkind : (binds.all fun y => scope.names.lookup y.1 == some .local || scope.names.lookup y.1 == some .cell) = true) (hnd : ((cellsFrom 0 scope.names []).map (·.1)).Nodup)
    (hco : scope.isCoroutine = false) (hgen : scope.isGenerator = false) (hk : scope.kind = .function)
    (hb : BodyC w mean mg mb f qual scope cdv body binds d core Ret Err) : Ctr w mean mg mb f vs d core Ret Err := by
  intro dp un gd cn cs a ccd cl outer A₀ base h₀ L m h gn dr tk os Q E B F X N T hck hd hu hret herr
  refine wpAny_call ?_
  have XS := X.keeps F.keep
  obtain ⟨FG, BG, st, _⟩ := groundX (A := ktrTop dp un gd cn cs L a ccd cl outer) (s := ⟨h, gn, dr, tk, os⟩) (R := fun _ _ => True) (env := envX cn cs L a ccd cl) B F N rfl rfl hck
  refine codeAny_call_function (by show dp < recursionLimit; omega) (XS _ _ ho) rfl hco hgen rfl (codeRec_of XS hcd) ((hbind ⟨h, gn, dr, tk, os⟩ XS) _ _ _ _ ?_)
  refine wpAny_newFunctionEnv_cells hk (kindsX hkind _) fun env' he s' x => ?_
  subst he
  refine ⟨(T.nolimit.keeps F.keep).keeps x.toInCall.keep, codeAny_func ?_⟩
  obtain ⟨h₁, tk₁, rfl, _⟩ := x.done
  have hk₁ := x.toInCall.keep
  obtain ⟨cells, NC, Y⟩ := Cl.news (h₀ := h) (Nat.le_refl _) fun n c hm => ⟨x.cell n c (lookup_of_mem_nodup (cellsFrom_names scope.names 0 (h.objs.size + 1) [] [] rfl ▸ hnd) hm), x.above n c hm⟩
  have KG : Kept h (hideAll h (core.map (·.1))) core := fun b o e nm => hideAll_get _ e nm
  have F₁ : Fr (hideAll h (core.map (·.1))) h.objs.size h₁ (bindL (envOfC qual scope h.objs.size f cdv).kindOf binds fun _ => none) := ⟨x.toInCall.ns, fun b o e => hk₁ b o (of_hideAll _ e), Nat.le_of_eq (hideAll_size _ _)⟩
  have N₁ : News (hideAll h (core.map (·.1))) h.objs.size h₁ (cells ++ core) := fun p hp => by
    rcases List.mem_append.mp hp with hp | hp
    · refine ⟨(NC p hp).1, (NC p hp).2.1, ?_⟩
      cases q : (hideAll h (core.map (·.1))).get? p.1 with
      | none => rfl
      | some o => have := of_hideAll _ q; rw [(NC p hp).2.2] at this; cases this
    · exact ⟨hk₁ _ _ (N p hp).1, Nat.ne_of_lt (Heap.lt_size (N p hp).1), hideAll_none _ (List.mem_map_of_mem hp)⟩
  obtain ⟨oL, es, ep, hL, hLd, hLk, hLf⟩ := FG.ns
  have fin : ∀ core' (h' : Heap) m', Fr (hideAll h (core.map (·.1))) h.objs.size h' m' → News (hideAll h (core.map (·.1))) h.objs.size h' core' → Fr h₀ L h' m ∧ News h₀ L h' core' ∧ Kept h h' core := fun core' h' m' F' N' =>
    ⟨⟨⟨oL, es, ep, F'.keep L oL hL, hLd, hLk, hLf⟩, fun b o e => F'.keep b o (st b o e), F.above⟩,
      fun p hp => ⟨(N' p hp).1, fun q => (by have := (N' p hp).2.2; rw [q, hL] at this; cases this), (by
        cases q : h₀.get? p.1 with
        | none => rfl
        | some o => have := (N' p hp).2.2; rw [st _ _ q] at this; cases this)⟩,
      fun b o e nm => F'.keep b o (KG b o e nm)⟩
  have src : ∀ {core' : Core} {h' : Heap}, News (hideAll h (core.map (·.1))) h.objs.size h' core' → ∀ q ∈ core', q.1 ∈ core.map (·.1) ∨ h.get? q.1 = none := fun N' q hq => by
    by_cases hm : q.1 ∈ core.map (·.1)
    · exact .inl hm
    · cases z : h.get? q.1 with
      | none => exact .inr rfl
      | some o => have y := (N' q hq).2.2; rw [KG _ _ z hm] at y; cases y
  refine hb (dp + 1) (un + 3) gd (envX cn cs L a ccd cl :: outer) _ base _ h.objs.size h₁ gn dr tk₁ os cells _ _ BG F₁ (X.keeps st) N₁ Y (T.keeps st) (by omega) (by omega) (fun p hp => Heap.lt_size (N p hp).1) PassesOwn.leaving ?_ ?_ ?_ ?_
  · intro v m' core' h' tk' r F' N'
    obtain ⟨a1, a2, a3⟩ := fin core' h' m' F' N'
    exact hret v core' h' tk' r a1 a2 a3 (src N')
  · intro m' core' h' tk' r F' N'
    obtain ⟨a1, a2, a3⟩ := fin core' h' m' F' N'
    exact hret .none core' h' tk' r a1 a2 a3 (src N')
  · intro e m' core' g₂ h' tk' r F' R hsm
    exact leave_any (s' := ⟨h', gn, dr, tk', os⟩) BG.stack rfl F' (RaisedAny.of R) hsm fun h'' R' U => herr e core' _ h'' tk' r FG KG R' U
  · intro e m' core' g₂ h' tk' r F' R hsm
    exact leave_any (s' := ⟨h', gn, dr, tk', os⟩) BG.stack rfl F' R hsm fun h'' R' U => herr e core' _ h'' tk' r FG KG R' U
end
-- M9d
theorem freshM9d : True := by w_top off; trivial
local macro_rules | `(tactic| walk_at "call ref") => `(tactic| (k_here; (with_reducible show wpAny _ _ (call (Value.ref 238) _) _ _ _); k_dflt (top_name; (case kC => exact capture_ok (by assumption) (by k_mem) (by k_mem) (by assumption) (by omega)); top_caught; rintro v' h' tk' ⟨d', r2, r3⟩ F' N'; top_strB)))
section
variable {w : World} {mean : ExcName → Option Value} {mg mb : Str → Option Value} {x dx : Addr} {c : Cf} {dep : Int} {core : Core} {txt pat : List Int}
set_option maxHeartbeats 16000000
variable {td tl : Tok} {lev : Int} {l1 l2 : Addr} {vs1 vs2 : List Value} {n1 n2 : Nat} {ss ls : List Int}
noncomputable def capsN (tx : Array UInt8) (lev : Int) (ss ls : List Int) (s e : Int) : Nat → Option (List Dat)
  | 0 => some []
  | n + 1 => match capsN tx lev ss ls s e n with
    | none => none
    | some ds => match capD tx lev ss ls n s e with
      | none => none
      | some d => some (ds ++ [d])
inductive CapsAre : List Value → List Dat → Prop
  | nil : CapsAre [] []
  | cons {v d vs ds} : IsCap v d → CapsAre vs ds → CapsAre (v :: vs) (d :: ds)
theorem CapsAre.snoc {v : Value} {d : Dat} : ∀ {vs : List Value} {ds : List Dat}, CapsAre vs ds → IsCap v d → CapsAre (vs ++ [v]) (ds ++ [d])
  | _, _, .nil, h => .cons h .nil
  | _, _, .cons a r, h => .cons a (r.snoc h)
noncomputable def capsF (tx : Array UInt8) (lev : Int) (ss ls : List Int) (s e : Int) (b : Bool) : Option (List Dat) := capsN tx lev ss ls s e (if lev = 0 ∧ b = true then 1 else lev).toNat
theorem openK {g h : Heap} {L a b d : Addr} {o1 o2 o3 : Obj} {core : Core} (N : News g L h ((a, o1) :: (b, o2) :: (d, o3) :: core)) : ∃ K : Core, News g L h K ∧ (∀ q ∈ core, q ∈ K) ∧ (a, o1) ∈ K ∧ (b, o2) ∈ K ∧ (d, o3) ∈ K :=
  ⟨_, N, fun q hq => .tail _ (.tail _ (.tail _ hq)), by k_mem, by k_mem, by k_mem⟩
end
local macro_rules | `(tactic| walk_at "eval Name") => `(tactic| (k_here; k_dflt (refine nameX_C (by k_asm) (by rfl) (by assumption) (by assumption) ?_)))
local macro_rules | `(tactic| walk_at "eval ListComp") => `(tactic| refine Hold.lay ?_)
section
variable {w : World} {mean : ExcName → Option Value} {mg mb : Str → Option Value} {x dx : Addr} {c : Cf} {dep : Int} {core : Core} {txt pat : List Int}
set_option maxHeartbeats 16000000
variable {td tl : Tok} {lev : Int} {l1 l2 : Addr} {vs1 vs2 : List Value} {n1 n2 : Nat} {ss ls : List Int}
theorem capsN_bad {tx : Array UInt8} {lev : Int} {ss ls : List Int} {s e : Int} {i : Nat} {ds : List Dat} (h : capsN tx lev ss ls s e i = some ds) (hb : capD tx lev ss ls i s e = none) : ∀ {n : Nat}, i < n → capsN tx lev ss ls s e n = none
  | 0, q => absurd q (Nat.not_lt_zero _)
  | n + 1, q => by
    by_cases z : i = n
    · subst z
      rw [capsN, h]
      try dsimp only
      rw [hb]
    · rw [capsN, capsN_bad h hb (n := n) (by omega)]
theorem capsN_next {tx : Array UInt8} {lev : Int} {ss ls : List Int} {s e : Int} {i : Nat} {ds : List Dat} {d : Dat} (h : capsN tx lev ss ls s e i = some ds) (hb : capD tx lev ss ls i s e = some d) : capsN tx lev ss ls s e (i + 1) = some (ds ++ [d]) := by
  rw [capsN, h]
  try dsimp only
  rw [hb]
theorem RaisedAny.sub {base G : Heap} {l : List Env} {e : Addr} {cls : Value} {news news' : List (Addr × Obj)} {h : Heap} (R : RaisedAny base G l e cls news h) (k : ∀ q ∈ news', q ∈ news) : RaisedAny base G l e cls news' h := by
  obtain ⟨B, a0, k1, k2, k3, k4⟩ := R
  exact ⟨B, a0, k1, k2, fun q hq => k3 q (k q hq), k4⟩
theorem openB {g h : Heap} {L I C D : Addr} {oI oC : Obj} {ys : List Value} {K : Core} (N : News g L h (blk I oI C oC D ys K)) : ∃ KK : Core, News g L h KK ∧ KK = blk I oI C oC D ys K ∧ (∀ q ∈ K, q ∈ KK) ∧ (C, oC) ∈ KK :=
  ⟨_, N, rfl, fun q hq => .tail _ (.tail _ (.tail _ hq)), by k_mem⟩
end
local macro_rules | `(tactic| walk_at "eval Name") => `(tactic| (k_here; (with_reducible show wpAny _ _ (eval (Expr.Name _ _) (compEnvC _ _ _ _)) _ _ _); k_dflt (first | refine kcf_cell (by k_asm) (by rfl) (by assumption) (by assumption) ?_ | refine ld_own (by k_asm) (by assumption) (by assumption) (by assumption) ?_)))
section
variable {w : World} {mean : ExcName → Option Value} {mg mb : Str → Option Value} {x dx : Addr} {c : Cf} {dep : Int} {core : Core} {txt pat : List Int}
set_option maxHeartbeats 16000000
variable {td tl : Tok} {lev : Int} {l1 l2 : Addr} {vs1 vs2 : List Value} {n1 n2 : Nat} {ss ls : List Int}
theorem captures_ok {s e : Int} {b : Bool} {ts te : Tok} (O : CfOk c txt pat) (m1 : (x, instObj 253 dx) ∈ core) (m2 : (dx, MD w c dep td lev tl l1 l2) ∈ core) (S : Lst core l1 l2 vs1 vs2 n1 n2 ss ls lev) :
    Ctr w mean mg mb 243 [.ref x, .int s ts, .int e te, .bool b] 4 core (fun v core' => ∃ D ys ds, v = .ref D ∧ core' = (D, LCg.lst ys) :: core ∧ capsF c.tx lev ss ls s e b = some ds ∧ CapsAre ys ds) (fun core' => core' = core ∧ capsF c.tx lev ss ls s e b = none) := by
  have hx := O.hx; have hp := O.hp; have lx := O.lx; have lp := O.lp
  have m3 := S.m1; have m4 := S.m2; have i1 := S.i1; have i2 := S.i2; have v0 := S.h0; have v1 := S.h1; have v2 := S.h2; have v3 := S.h3; have v4 := S.h4
  refine' ctrC_of_body (binds := [("self", .ref x), ("s", .int s ts), ("end", .int e te), ("is_whole", .bool b)]) ?ho ?hcd ?hbind ?hkind ?hnd ?hco ?hgen ?hk ?hb
  case ho => k_is
  case hcd => k_is
  case hbind => exact fun _ _ => BindsTo.of_eq rfl
  case hkind => exact rfl
  case hnd => decide +kernel
  case hco => exact rfl
  case hgen => exact rfl
  case hk => exact rfl
  unfold BodyC
  intro dp un gd outer A₀ base g L h gn dr tk os cells Q E B F X N Y T hdp hun hlt hE hret hnext hpass hany
  k_cells Y
  (try simp only [List.cons_append, List.nil_append] at N)
  (try dsimp only)
  (try k_fold)
  obtain ⟨K, NK, sub, k1, k2, k3⟩ := openK N
  clear N
  rename_i o1 o2 o3 d1' d2' d3'
  have d1 : o1.data = Data.cell (some (.int e te)) := d1'
  have d2 : o2.data = Data.cell (some (.int s ts)) := d2'
  have d3 : o3.data = Data.cell (some (.ref x)) := d3'
  clear d1' d2' d3'
  have mK1 := sub _ m1
  have mK2 := sub _ m2
  have SK : Lst K l1 l2 vs1 vs2 n1 n2 ss ls lev := ⟨sub _ S.m1, sub _ S.m2, S.i1, S.i2, S.h0, S.h1, S.h2, S.h3, S.h4⟩
  refine execs_splitM 1 (fun s' => ∃ h' m' tk' k tk, s' = ⟨h', gn, dr, tk', os⟩ ∧ Fr g L h' m' ∧ News g L h' K ∧ m' "many" = some (.int k tk) ∧ k = (if lev = 0 ∧ b = true then 1 else lev)) ?_ ?_
  · intro Mq hMq
    dsimp only [List.take]
    k_steps
    all_goals first | exact CutQ.next (hMq.go _ ⟨_, _, _, _, _, rfl, by k_asm, by k_asm, by exact rfl, by simp [*]⟩) | skip
    all_goals first | exact Value.none | exact (Str.ofString "x") | exact (0 : Nat)
  rintro _ ⟨h2, m2', tk2, k, tkk, rfl, F2, N2, em, ek⟩
  clear F NK
  dsimp only [List.drop]
  k_steps
  refine Hold.mk ?_
  refine ListComp_R K k.toNat (fun ys => ∃ ds, capsN c.tx lev ss ls s e ys.length = some ds ∧ CapsAre ys ds) (capsF c.tx lev ss ls s e b = none) (base := base) (outer := outer) (h₀ := g) (L := L) (m := m2') (by with_unfolding_all rfl) (by decide) (by rfl) (by decide) (by rfl) rfl rfl rfl ?_
  k_steps
  all_goals first | exact Value.none | exact (Str.ofString "x") | exact (0 : Nat) | skip
  rename_i h3 tk3 t3 u3 v3 hr F3 N3 kp
  clear kp
  have hk : 0 ≤ k ∧ k ≤ 1000 := by rw [ek]; split <;> omega
  refine ⟨_, 0, k, _, _, _, rfl, F3, N3, hr, small_one (by omega) (by omega) (by omega) (by omega), by rw [rangeSize_nat, Int.sub_zero], by unfold sizeLine; omega, ⟨[], rfl, .nil⟩, ?_, ?_, ?_⟩
  · rintro _ ⟨h4, rfl⟩
    intro t I oI C oC D ys h5 tk5 m5 hlen hG hC hm5 F5 N5 off ne
    obtain ⟨ds, hds, hcs⟩ := hG
    obtain ⟨KK, NK, eKK, subK, mC⟩ := openB N5
    clear N5
    have q1 := subK _ k1
    have q2 := subK _ k2
    have q3 := subK _ k3
    have q4 := subK _ mK1
    have q5 := subK _ mK2
    have SKK : Lst KK l1 l2 vs1 vs2 n1 n2 ss ls lev := ⟨subK _ SK.m1, subK _ SK.m2, S.i1, S.i2, S.h0, S.h1, S.h2, S.h3, S.h4⟩
    try dsimp only
    k_steps
    have ekk : k = (if lev = 0 ∧ b = true then 1 else lev) := by assumption
    refine Ctr.use (capture_ok O q4 q5 SKK (by omega)) (by k_asm) (by k_asm) X (by k_asm) (by k_asm) rfl (by omega) (by omega) ?_ ?_
    · rintro v core' h6 tk6 ⟨rfl, d, hd, iv⟩ F6 N6 _ _
      rw [Int.zero_add] at hd
      exact ⟨h6, tk6, rfl, F6, eKK ▸ N6, ds ++ [d], by rw [List.length_append]; exact capsN_next hds hd, hcs.snoc iv⟩
    · rintro ea core' g6 h6 tk6 ⟨rfl, hd⟩ F6 _ R6 U6
      rw [Int.zero_add] at hd
      exact ⟨ea, h6, tk6, g6, _, rfl, rfl, F6, eKK ▸ R6, U6, by rw [capsF, ← ekk]; exact capsN_bad hds hd hlen⟩
  · intro ys D h5 tk5 hlen hG F5 N5 off
    obtain ⟨ds, hds, hcs⟩ := hG
    exact hret _ _ _ _ _ ⟨D, ys, ds, rfl, rfl, by rw [capsF, ← ek, ← hlen]; exact hds, hcs⟩ F5 (cb_drop N5 fun q hq => by
      rcases List.mem_cons.mp hq with rfl | hq
      · exact .head _
      · exact .tail _ (sub _ hq))
  · intro ea h5 tk5 g5 m5 hbad F5 R5 U5
    exact hany _ _ _ _ _ _ ⟨rfl, hbad⟩ F5 (R5.sub sub) U5
end
-- Bf
theorem freshBf : True := by w_top off; trivial
section
open Builtin PySem.Calls PySem.Spec
theorem slot_find : Slot "bytes" "find" "bytes.find" :=
  .of (owner := "bytes") (n := "find") (by rw [typeLookup_type, builtinLookup_eq_fast]; kernel_rfl) (by decide +kernel) (by decide +kernel) (by decide +kernel)
    (by first | exact .inl (by decide +kernel) | exact .inr (by decide +kernel)) (by rw [isSubtype_type]; kernel_rfl)
theorem type_find : typeOf (.builtin "bytes.find") = pure (.type "method_descriptor") := by show builtinType _ = _; rw [builtinType_eq_fast]; kernel_rfl
theorem entry_find : entryFor table "bytes.find" = some Builtin.«bytes.find» := entryFor_of_tree (by kernel_rfl)
theorem args_find (a b : Value) : argsOk "bytes.find" ⟨[a, b], []⟩ := by
  unfold argsOk; rw [signature?_of (id := "bytes.find") (n := ['d', 'n', 'i', 'f']) (o := ['s', 'e', 't', 'y', 'b']) (by kernel_rfl) W.FB.owner_bytes]; kernel_rfl
section
variable {b c : Array UInt8} {t u : Tok}
/-- where c first lies in b, or -1 -/
noncomputable def findF (b c : Array UInt8) : Int := match (if (Bytes.window b.size none none).2 - (Bytes.window b.size none none).1 < (c.size : Int) then none else some ((Bytes.window b.size none none).1.toNat, (Bytes.window b.size none none).2.toNat)).bind (fun (p : Nat × Nat) => Bytes.find? b c p.1 p.2) with
  | some i => (i : Int)
  | none => -1
theorem meets_find : Meets («bytes.find» ⟨[.bytes b t, .bytes c u], []⟩) (fun _ R s => ∀ t' k, R (.ok (.ret (.int (findF b c) t'))) { s with toks := k }) := by
  refine .of_wp fun prog w A R s h => ?_
  show wpAny _ _ (Bytes.searchArgs .bytes "find" ⟨[.bytes b t, .bytes c u], []⟩ >>= fun r => _) _ _ s
  have e1 : Bytes.searchArgs .bytes "find" ⟨[.bytes b t, .bytes c u], []⟩ = pure (b, c, if (Bytes.window b.size none none).2 - (Bytes.window b.size none none).1 < (c.size : Int) then none else some ((Bytes.window b.size none none).1.toNat, (Bytes.window b.size none none).2.toNat)) := by
    unfold Bytes.searchArgs
    have e0 : ∀ id, selfAndSome id "find" 1 3 ⟨[.bytes b t, .bytes c u], []⟩ = pure (.bytes b t, [.bytes c u]) := fun _ => rfl
    have e2 : Bytes.bound? ([Value.bytes c u][1]?) = pure none := rfl
    have e3 : Bytes.bound? ([Value.bytes c u][2]?) = pure none := rfl
    try dsimp only
    simp only [e0, pure_bind, e2, e3, List.headD, KBy.buffer_eq]
    rfl
  rw [e1]
  refine wpAny_bind (wpAny_pure ?_)
  show wpAny _ _ (match (if (Bytes.window b.size none none).2 - (Bytes.window b.size none none).1 < (c.size : Int) then none else some ((Bytes.window b.size none none).1.toNat, (Bytes.window b.size none none).2.toNat)).bind (fun (p : Nat × Nat) => Bytes.find? b c p.1 p.2) with | some i => _ | none => _) _ _ _
  have h' : ∀ t' k, R (.ok (.ret (.int (match (if (Bytes.window b.size none none).2 - (Bytes.window b.size none none).1 < (c.size : Int) then none else some ((Bytes.window b.size none none).1.toNat, (Bytes.window b.size none none).2.toNat)).bind (fun (p : Nat × Nat) => Bytes.find? b c p.1 p.2) with
  | some i => (i : Int)
  | none => -1) t'))) { s with toks := k } := h
  revert h'
  generalize (if (Bytes.window b.size none none).2 - (Bytes.window b.size none none).1 < (c.size : Int) then none else some ((Bytes.window b.size none none).1.toNat, (Bytes.window b.size none none).2.toNat)).bind (fun (p : Nat × Nat) => Bytes.find? b c p.1 p.2) = r
  intro h'
  cases r with
  | some i => exact wpAny_bind (wpAny_mkInt (wpAny_pure ⟨_, rfl, h' _ _⟩))
  | none => exact wpAny_bind (wpAny_rule (wpAny_bind (wpAny_mkInt (wpAny_pure ⟨_, rfl, h' _ _⟩))))
end
section
variable {prog : Program} {w : World} {A : Around} {E : Value → Shared → Prop} {s : Shared} {b c : Array UInt8} {t u : Tok}
theorem find_call {Q : Value → Shared → Prop} (h : ∀ t' k, Q (.int (findF b c) t') { s with toks := k }) :
    wpAny (model prog w) A (call (.builtin "bytes.find") [.bytes b t, .bytes c u]) Q E s :=
  call_meets slot_find (typeIs_bytes _ _ _) entry_find (args_find _ _) meets_find h
theorem find_method {M : Model} {pl : Sem Bool} {Q : Value × List Value → Shared → Prop} (h : Q (.builtin "bytes.find", [.bytes b t]) s) : wpAny M A (getMethod (.bytes b t) "find" pl) Q E s :=
  KBd.method_of (.bytes b t) (typeIs_bytes _ _ _) slot_find type_find KBd.noRef h
end
end
-- T1
theorem freshT1 : True := by w_top off; trivial
section
variable {w : World} {mean : ExcName → Option Value} {mg mb : Str → Option Value}
set_option maxHeartbeats 16000000
/-- the drain's list: the cells, and how many were taken -/
noncomputable abbrev drO (cl : Addr) (t : Int) (tk : Tok) (n : Nat) : Obj := listOf #[.ref cl, .int t tk] n
theorem trickled_ok {dr cl : Addr} {t many : Int} {tk tm : Tok} {n n2 : Nat} {vs : List Value} {ns : List Int} (hne : @Ne Nat dr cl) (hi : IntsAre vs ns) (hl : ns.length ≤ 40) (h0 : 0 ≤ t) (h1 : t ≤ 1000) (hm : 1 ≤ many) (hm2 : many ≤ 100) :
    Ctr w mean mg mb 264 [.ref dr, .int many tm] 2 [(dr, drO cl t tk n), (cl, listOf vs.toArray n2)] (fun v core' => ∃ r rt tk', v = .int r rt ∧ 0 ≤ r ∧ r < many ∧ core' = [(dr, drO cl (t + 1) tk' n), (cl, listOf vs.toArray n2)]) (fun _ => False) := by
  refine' ctr_of_body (binds := [("drain", .ref dr), ("many", .int many tm)]) ?ho ?hcd ?hbind ?hloc ?hcell ?hco ?hgen ?hk ?hb
  case ho => k_is
  case hcd => k_is
  case hbind => exact fun _ _ => BindsTo.of_eq rfl
  case hloc => exact locs rfl
  case hcell => decide
  case hco => exact rfl
  case hgen => exact rfl
  case hk => exact rfl
  unfold Body
  intro dp un gd outer A₀ base g L h gn dr tk os Q E B F X N T hdp hun hlt hE hret hnext hpass hnew
  try dsimp only
  k_steps
  all_goals exact hret _ _ _ _ _ ⟨_, _, _, rfl, Int.fmod_nonneg_of_pos _ (by omega), Int.fmod_lt_of_pos _ (by omega), rfl⟩ (by k_asm) (by k_asm)
end
-- M10
theorem freshM10 : True := by w_top off; trivial
local macro_rules | `(tactic| walk_at "getMethod bytes") => `(tactic| (k_here; k_dflt (refine find_method ?_)))
local macro_rules | `(tactic| walk_at "call builtin:bytes.find") => `(tactic| (k_here; k_dflt (refine find_call ?_; intro t' k'; try dsimp only; try k_fold)))
section
variable {w : World} {mean : ExcName → Option Value} {mg mb : Str → Option Value} {x dx : Addr} {c : Cf} {dep : Int} {core : Core} {txt pat : List Int}
set_option maxHeartbeats 16000000
/-- a pattern up to its first zero -/
noncomputable def patF (pt : Array UInt8) : Array UInt8 := if findF pt #[0] < 0 then pt else KBy.picked pt none (some (findF pt #[0]))
theorem mc_new {g h : Heap} {L : Addr} {td tl : Tok} {l1 l2 : Addr} {n1 n2 : Nat} (N : News g L h core) (m1 : (x, instObj 253 dx) ∈ core) (m2 : (dx, MD w c 0 td 0 tl l1 l2) ∈ core) (m3 : (l1, listOf (List.toArray []) n1) ∈ core) (m4 : (l2, listOf (List.toArray []) n2) ∈ core)
    (q1 : @Ne Nat x dx) (q2 : @Ne Nat x l1) (q3 : @Ne Nat x l2) (q4 : @Ne Nat dx l1) (q5 : @Ne Nat dx l2) (q6 : @Ne Nat l1 l2) : ∃ core' : Core, News g L h core' ∧ MC w c x dx 0 ⟨0, [], []⟩ core' :=
  ⟨_, news4 N m1 m2 m3 m4, _, _, _, _, _, _, _, _, rfl, .nil, .nil, q1, q2, q3, q4, q5, q6⟩
end
-- Ae
theorem freshAe : True := by w_top off; trivial
section
open PySem.SeqAt
section
variable {A : Around} {s : Shared} {h₀ : Heap} {L : Addr} {news : Core}
theorem eqAt_bytes (b : Array UInt8) (t u : Tok) : EqAt A s (.bytes b t) (.bytes b u) true := fun prog w E Q hq => by
  unfold eqBool
  refine wpAny_holding ?_
  refine wpAny_ite_split (fun _ => wpAny_bind (wpAny_rule (wpAny_pure hq))) (fun _ => ?_)
  refine wpAny_bind (?_ : wpAny _ _ (richCompare .Eq (.bytes b t) (.bytes b u)) _ _ _)
  exact eq_bytes (by rw [beq_self_eq_true]; exact wpAny_truthy_bool hq)
/-- a datum no deeper than n -/
noncomputable def dOk : Nat → Dat → Bool
  | _, .none => true
  | _, .int _ => true
  | _, .str _ => true
  | _, .bytes _ => true
  | n + 1, .tuple ds => ds.all (dOk n)
  | n + 1, .list ds => ds.all (dOk n)
  | _, _ => false
theorem all_true (n : Nat) : (List.range n).all (fun _ => true) = true := by simp
theorem eq_dat (N : News h₀ L s.heap news) : ∀ (n : Nat) {A : Around} {v v' : Value} {d : Dat}, dOk n d = true → DatIn news v d → DatIn news v' d → A.units + n < cLine → EqAt A s v v' true
  | n, A, v, v', d, hok, h1, h2, hu => by
    cases h1 with
    | none => cases h2; exact EqAt.same _
    | bool b => cases h2; exact EqAt.same _
    | int i t =>
      cases h2 with
      | int _ u => have := EqAt.int_int (A := A) (s := s) i t i u; rwa [beq_self_eq_true] at this
    | str x t =>
      cases h2 with
      | str _ u => have := (eqGives_str x x t u).at A s; rwa [beq_self_eq_true] at this
    | bytes b t =>
      cases h2 with
      | bytes _ u => exact eqAt_bytes b t u
    | @tuple a vs k ds m1 D1 =>
      cases h2 with
      | @tuple b ws k2 _ m2 D2 =>
        cases n with
        | zero => cases hok
        | succ n =>
        have hall : ∀ d ∈ ds, dOk n d = true := by simpa [dOk] using hok
        by_cases q : a = b
        · subst q
          exact EqAt.same _
        refine EqAt.of_refs q ?_
        have l1 := D1.length
        have l2 := D2.length
        have z := RcAt.tuples (A := A) (s := s) (e := fun _ => true) (items := vs.toArray) (items2 := ws.toArray) ⟨_, N.get m1, rfl, _, rfl⟩ ⟨_, N.get m2, rfl, _, rfl⟩ (by omega) (fun j h1 h2 => by
          have hj : j < ds.length := by rw [List.size_toArray] at h1; omega
          obtain ⟨x, hx, Dx⟩ := D1.get hj
          obtain ⟨y, hy, Dy⟩ := D2.get hj
          have ex : vs.toArray[j] = x := by
            have := List.getElem?_eq_some_iff.mp hx
            simpa using this.2
          have ey : ws.toArray[j] = y := by
            have := List.getElem?_eq_some_iff.mp hy
            simpa using this.2
          rw [ex, ey]
          exact eq_dat N n (hall _ (List.getElem_mem hj)) Dx Dy (by rw [units_in1]; omega))
        rw [all_true, Bool.true_and, List.size_toArray, List.size_toArray, l1, l2, beq_self_eq_true] at z
        exact z
    | @list a vs k ds m1 D1 =>
      cases h2 with
      | @list b ws k2 _ m2 D2 =>
        cases n with
        | zero => cases hok
        | succ n =>
        have hall : ∀ d ∈ ds, dOk n d = true := by simpa [dOk] using hok
        by_cases q : a = b
        · subst q
          exact EqAt.same _
        refine EqAt.of_refs q ?_
        have l1 := D1.length
        have l2 := D2.length
        have z := RcAt.lists (A := A) (s := s) (e := fun _ => true) (items := vs.toArray) (items2 := ws.toArray) ⟨_, N.get m1, rfl, _, rfl⟩ ⟨_, N.get m2, rfl, _, rfl⟩ (by rw [List.size_toArray, List.size_toArray, l1, l2]) (by omega) (fun j h1 h2 => by
          have hj : j < ds.length := by rw [List.size_toArray] at h1; omega
          obtain ⟨x, hx, Dx⟩ := D1.get hj
          obtain ⟨y, hy, Dy⟩ := D2.get hj
          have ex : vs.toArray[j] = x := by
            have := List.getElem?_eq_some_iff.mp hx
            simpa using this.2
          have ey : ws.toArray[j] = y := by
            have := List.getElem?_eq_some_iff.mp hy
            simpa using this.2
          rw [ex, ey]
          exact eq_dat N n (hall _ (List.getElem_mem hj)) Dx Dy (by rw [units_in1]; omega))
        rw [all_true] at z
        exact z
end
section
variable {prog : Program} {w : World} {A : Around} {E : Value → Shared → Prop} {s : Shared} {h₀ : Heap} {L : Addr} {news : Core}
/-- two answers of one datum are equal -/
theorem ne_ans {v v' : Value} {d : Dat} {Q : Value → Shared → Prop} (N : News h₀ L s.heap news) (n : Nat) (hok : dOk (n + 1) d = true) (hd : (∃ x, d = .str x) ∨ ∃ ds, d = .tuple ds) (h1 : DatIn news v d) (h2 : DatIn news v' d) (hu : A.units + n + 1 < cLine)
    (h : Q (.bool false) s) : wpAny (model prog w) A (compareOp .NotEq v v') Q E s := by
  rcases hd with ⟨x, rfl⟩ | ⟨ds, rfl⟩
  · cases h1 with
    | str _ t =>
    cases h2 with
    | str _ u => exact RcNeAt.str_str x t x u prog w E Q (by rw [beq_self_eq_true]; exact h)
  · cases h1 with
    | @tuple a vs k _ m1 D1 =>
    cases h2 with
    | @tuple b ws k2 _ m2 D2 =>
    have hall : ∀ d ∈ ds, dOk n d = true := by simpa [dOk] using hok
    have l1 := D1.length
    have l2 := D2.length
    have z := RcNeAt.tuples (A := A) (s := s) (e := fun _ => true) (items := vs.toArray) (items2 := ws.toArray) ⟨_, N.get m1, rfl, _, rfl⟩ ⟨_, N.get m2, rfl, _, rfl⟩ (by omega) (fun j h1 h2 => by
      have hj : j < ds.length := by rw [List.size_toArray] at h1; omega
      obtain ⟨x, hx, Dx⟩ := D1.get hj
      obtain ⟨y, hy, Dy⟩ := D2.get hj
      have ex : vs.toArray[j] = x := by
        have := List.getElem?_eq_some_iff.mp hx
        simpa using this.2
      have ey : ws.toArray[j] = y := by
        have := List.getElem?_eq_some_iff.mp hy
        simpa using this.2
      rw [ex, ey]
      exact eq_dat N n (hall _ (List.getElem_mem hj)) Dx Dy (by rw [units_in1]; omega))
    rw [all_true, Bool.true_and, List.size_toArray, List.size_toArray, l1, l2, beq_self_eq_true, Bool.not_true] at z
    exact z prog w E Q h
end
end
-- Tr
theorem freshTr : True := by w_top off; trivial
section
open PySem.Calls PySem.Spec
section
variable {prog : Program} {w : World} {A A₀ : Around} {E : Value → Shared → Prop} {s' : Shared} {base g G : Heap} {outer : List Env} {L a e C : Addr} {m : Str → Option Value} {name : Str} {scope : Scope} {cd : Value}
  {b₀ : Stmt} {suite : List Stmt} {pos np : Pos} {rest : List ExceptHandler} {Q : Flow → Shared → Prop} {news : List (Addr × Obj)} {KF : Frag}
  {p : Program} {loose : List Str} {mean : ExcName → Option Value} {mg mb : Str → Option Value} {x : Str}
/-- an own exception that a callee raised is caught by its own class; the suite raises nothing -/
theorem caught_own (hA : A.frames = some (envX name scope L a cd [] :: outer)) (R : RaisedSN base G (envX name scope L a cd [] :: outer) e (.ref C) news s'.heap) (F : Fr g L G m) (K : Below A₀ base outer g) (hsm : G.UpToSlots s'.heap) (XB : KF.In base) (TB : Top p loose mean mg mb base)
    (ex : nsIn KF mainGlobals x = some (some (.ref C))) (q : ktsIn KF C "BaseException" = true)
    (k : ∀ h' g', KtsTurn (outer.filterMap (·.frame)) g g' → Fr g' L h' m → News g' L h' news → wpAny (model prog w) (A.mark (some (.ref e))) (execs (b₀ :: suite) (envX name scope L a cd [])) Q (fun _ _ => False) { s' with heap := h' })
    (hk : scope.kind = .function := by rfl) (hx : (envX name scope L a cd []).kindOf x = some .globalImplicit := by rfl) (hd : (x == ("__debug__" : Str)) = false := by decide) :
    wpAny (model prog w) A (noteFrame (.ref e) (envX name scope L a cd []))
      (fun _ s₂ => wpAny (model prog w) A (setFlight (.ref e) none) (fun _ s₃ =>
        wpAny (model prog w) A (handleBy (.ref e) (envX name scope L a cd []) (.ExceptHandler (some (.Name x np)) none (b₀ :: suite) pos :: rest)) Q E s₃) E s₂) E s' := by
  obtain ⟨B, a0, hB, hBG, hl, hfl⟩ := R
  have hL : B.get? L = none := by
    obtain ⟨_, ⟨L', _, hf, hn', _⟩, _⟩ := hfl.2.2.1
    obtain rfl : L = L' := Option.some.inj hf
    exact hn'
  refine wpAny_looks_onW hA rfl hfl fun h₄ hheld₄ hsm₄ => ?_
  refine wpAny_landsW hheld₄ fun h₅ hheld hsm₅' => ?_
  have hsm₅ := hsm₄.trans hsm₅'
  obtain ⟨g₅, T₅, F₅, K₅⟩ := kts_ground K F hBG hheld.1 (hsm.trans hsm₅)
  have X₅ : KF.In g₅ := XB.keeps K₅.stays
  have P₅ : TopRead p loose mg mb g₅ := topRead_of (TB.keeps K₅.stays)
  obtain ⟨ob, hob, hobc⟩ := hheld.there
  obtain ⟨nm, q', N, bs, bm, hdct, sn, sub, ab, col, dd, k0, k1, k2, k3, k5, newId, hC, hbase, hbT⟩ := kts_cls X₅ q
  have hC₅ := F₅.keep _ _ hC
  refine wpAny_handleBy_cons (codeAny_handlers_test (name_K F₅ X₅ P₅ ex ?_ hk hx hd)) (by intro q; cases q)
  refine wpAny_excMatches_sub_self hC₅ hob hobc hbase (codeAny_handlers_suite ?_)
  refine lands_againW hheld fun h₆ hfl₆ hsm₆ => ?_
  obtain ⟨g₆, T₆, F₆, K₆⟩ := kts_ground K F hBG hfl₆.1 ((hsm.trans hsm₅).trans hsm₆)
  have Nl : News g₆ L h₆ news := fun q hq => ⟨hfl₆.1 _ _ (hl q hq).1, (fun z => by have := (hl q hq).1; rw [z, hL] at this; cases this), T₆.none_ _ (kts_none F.keep (hl q hq).2.1)⟩
  exact wpAny_mono (k h₆ g₆ T₆ F₆ Nl) (fun _ _ y => y) fun _ _ y => y.elim
end
/-- as Ctr, of a def that may catch: called from a frame that stands alone on the ground; that frame's own record may turn -/
noncomputable def CtrT (w : World) (mean : ExcName → Option Value) (mg mb : Str → Option Value) (f : Addr) (vs : List Value) (d : Nat) (ak : Addr) (its : Array Value) (core : Core) (Ret : Value → Core → Prop) : Prop :=
  ∀ (dp un : Nat) (gd : Option (List Code)) (cn : Str) (cs : Scope) (a : Addr) (ccd : Value) (cl : List (Str × Addr)) (A₀ : Around) (h₀ : Heap) (L : Addr) (m : Str → Option Value) (h : Heap) (gn : Array GenState) (dr : Drawn) (tk : Nat) (os : OsState) (Q E : Value → Shared → Prop),
    Below A₀ h₀ [] h₀ → Fr h₀ L h m → (hd.heap_1 w.params).In h₀ → News h₀ L h core → Top view39 (looseW view39 []) mean mg mb h₀ → cs.kind = .function → dp + d + 1 < recursionLimit → un + 8 * (d + 1) < cLine →
    IsTup h ak its → ak ∉ core.map (·.1) → ak ≠ L →
    (∀ v core' h' tk', Ret v core' → Fr h₀ L h' m → News h₀ L h' core' → (∀ b o, h.get? b = some o → b ∉ core.map (·.1) → b ≠ L → h'.get? b = some o) → (∀ q ∈ core', q.1 ∈ core.map (·.1) ∨ h.get? q.1 = none) → Q v ⟨h', gn, dr, tk', os⟩) →
    wpAny (model PySem.Challenge.rw_sm0059_01.row.prog w) (ktrTop dp un gd cn cs L a ccd cl []) (call (.ref f) vs) Q E ⟨h, gn, dr, tk, os⟩
/-- the body of such a def -/
noncomputable def BodyT (w : World) (mean : ExcName → Option Value) (mg mb : Str → Option Value) (f : Addr) (qual : Str) (scope : Scope) (cdv : Value) (body : List Stmt) (binds : List (Str × Value)) (d : Nat) (ak : Addr) (its : Array Value) (core : Core) (Ret : Value → Core → Prop) : Prop :=
  ∀ (dp un : Nat) (gd : Option (List Code)) (outer : List Env) (A₀ : Around) (base g : Heap) (L : Addr) (h : Heap) (gn : Array GenState) (dr : Drawn) (tk : Nat) (os : OsState) (Q : Flow → Shared → Prop) (E : Value → Shared → Prop),
    Below A₀ base outer g → Fr g L h (fun y => binds.reverse.lookup y) → (hd.heap_1 w.params).In g → News g L h core → Top view39 (looseW view39 []) mean mg mb g → dp + d < recursionLimit → un + 8 * d < cLine → (∀ p ∈ core, p.1 < L) →
    (hd.heap_1 w.params).In base → Top view39 (looseW view39 []) mean mg mb base → IsTup g ak its →
    PassesOwn (model PySem.Challenge.rw_sm0059_01.row.prog w) (ktrTop dp un gd qual scope L f cdv [] outer) (envX qual scope L f cdv []) E →
    (∀ v m' core' h' g' tk', Ret v core' → KtsTurn (outer.filterMap (·.frame)) g g' → Fr g' L h' m' → News g' L h' core' → Q (.ret v) ⟨h', gn, dr, tk', os⟩) →
    wpAny (model PySem.Challenge.rw_sm0059_01.row.prog w) (ktrTop dp un gd qual scope L f cdv [] outer) (execs body (envX qual scope L f cdv [])) Q E ⟨h, gn, dr, tk, os⟩
theorem ctrT_of_body {w : World} {mean : ExcName → Option Value} {mg mb : Str → Option Value} {f : Addr} {vs : List Value} {d : Nat} {ak : Addr} {its : Array Value} {core : Core} {Ret : Value → Core → Prop}
    {name qual : Str} {params : Arguments} {body : List Stmt} {scope : Scope} {dV kV doc pm cdv ct oc : Value} {an od : Option Addr} {osl : Array (Option Value)} {binds : List (Str × Value)}
    (ho : (hd.heap_1 w.params).lookup f = some ⟨oc, od, .func (fnOf name qual params body scope dV kV doc pm an cdv ct), osl⟩) (hcd : codeIn (hd.heap_1 w.params) cdv qual = true)
    (hbind : ∀ s : Shared, (hd.heap_1 w.params).In s.heap → BindsTo s (fnOf name qual params body scope dV kV doc pm an cdv ct) ⟨vs, []⟩ binds) (hloc : ∀ y ∈ binds, scope.names.lookup y.1 = some .local)
    (hcell : ∀ x ∈ scope.names, x.2 ≠ .cell) (hco : scope.isCoroutine = false) (hgen : scope.isGenerator = false) (hk : scope.kind = .function)
    (hb : BodyT w mean mg mb f qual scope cdv body binds d ak its core Ret) : CtrT w mean mg mb f vs d ak its core Ret := by
  intro dp un gd cn cs a ccd cl A₀ h₀ L m h gn dr tk os Q E B F X N T hck hd hu ht htc htL hret
  refine wpAny_call ?_
  have XS := X.keeps F.keep
  obtain ⟨FG, BG, st, _⟩ := groundX (A := ktrTop dp un gd cn cs L a ccd cl []) (s := ⟨h, gn, dr, tk, os⟩) (R := fun _ _ => True) (env := envX cn cs L a ccd cl) B F N rfl rfl hck
  refine codeAny_call_def (fd := fnX name qual params body scope [] dV kV doc pm an cdv ct) (body := body) (binds := binds) (by show dp < recursionLimit; omega) (XS _ _ ho) rfl (T.nolimit.keeps F.keep) (codeRec_of XS hcd) rfl (hbind ⟨h, gn, dr, tk, os⟩ XS) hcell hloc (fun h₁ hns hk₁ => ?_) hco hgen hk
  have KG : Kept h (hideAll h (core.map (·.1))) core := fun b o e nm => hideAll_get _ e nm
  have F₁ : Fr (hideAll h (core.map (·.1))) h.objs.size h₁ (fun y => binds.reverse.lookup y) := ⟨hns, fun b o e => hk₁ b o (of_hideAll _ e), Nat.le_of_eq (hideAll_size _ _)⟩
  have N₁ : News (hideAll h (core.map (·.1))) h.objs.size h₁ core := fun p hp => ⟨hk₁ _ _ (N p hp).1, Nat.ne_of_lt (Heap.lt_size (N p hp).1), hideAll_none _ (List.mem_map_of_mem hp)⟩
  obtain ⟨oL, es, ep, hL, hLd, hLk, hLf⟩ := FG.ns
  have hL0 : h₀.get? L = none := kts_self F
  refine hb (dp + 1) (un + 3) gd [envX cn cs L a ccd cl] _ h₀ _ h.objs.size h₁ gn dr (tk + binds.length) os _ _ BG F₁ (X.keeps st) N₁ (T.keeps st) (by omega) (by omega) (fun p hp => Heap.lt_size (N p hp).1) X T ?_ PassesOwn.leaving ?_
  · obtain ⟨o, q1, q2⟩ := ht
    exact ⟨o, hideAll_get _ q1 htc, q2⟩
  intro v m' core' h' g' tk' r TT F' N'
  have kept : ∀ b o, h.get? b = some o → b ∉ core.map (·.1) → b ≠ L → h'.get? b = some o := fun b o e nm nL =>
    F'.keep b o (TT.other b o (KG b o e nm) (by rintro z; exact nL (List.mem_singleton.mp z)))
  obtain ⟨sl, hsl⟩ := TT.frame L oL hL (by exact List.mem_singleton.mpr rfl)
  refine hret v core' h' tk' r ⟨⟨_, es, ep, F'.keep L _ hsl, hLd, hLk, hLf⟩, fun b o e => kept b o (F.keep b o e) (fun hm => ?_) (fun z => by rw [z, hL0] at e; cases e), F.above⟩ (fun p hp => ⟨(N' p hp).1, fun q => ?_, ?_⟩) kept (fun q hq => ?_)
  · obtain ⟨p, hp, hpe⟩ := List.mem_map.mp hm
    have := (N p hp).2.2
    rw [hpe, e] at this; cases this
  · have := (N' p hp).2.2; rw [q, hsl] at this; cases this
  · cases q : h₀.get? p.1 with
    | none => rfl
    | some o =>
      have z := st _ _ q
      have y := TT.other _ _ z (by intro w; rw [List.mem_singleton.mp w] at q; rw [show h₀.get? L = none from hL0] at q; cases q)
      have := (N' p hp).2.2; rw [y] at this; cases this
  · by_cases hm : q.1 ∈ core.map (·.1)
    · exact .inl hm
    · cases z : h.get? q.1 with
      | none => exact .inr rfl
      | some o =>
        obtain ⟨sl, y⟩ := TT.up (KG _ _ z hm)
        have := (N' q hq).2.2; rw [y] at this; cases this
end
-- Ft
theorem freshFt : True := by w_top off; trivial
section
/-- the lists of a matcher reach as far as its level -/
structure Fit (σ : Sg) : Prop where
  l0 : 0 ≤ σ.lev
  e1 : σ.lev ≤ (σ.ss.length : Int)
  e2 : σ.ss.length = σ.ls.length
  e3 : σ.ss.length ≤ 33
variable {txt pat : List Int}
theorem Inv.fit {σ : Sg} {s : Int} (V : Inv txt σ s) : Fit σ := ⟨V.l0, V.e1, V.e2, V.e3⟩
theorem start_fit {s kind e : Int} {σ σ' : Sg} {H : Sg → Res} (V : Inv txt σ s) (hk : -2 ≤ kind)
    (HF : ∀ {σ σ' : Sg} {e : Int}, Inv txt σ s → H σ = some (some e, σ') → Fit σ') (h : startF H s kind σ = some (some e, σ')) : Fit σ' := by
  unfold startF at h
  split at h
  · cases h
  rename_i hl
  have V' := start_inv V hl hk
  split at h
  · cases h
  · cases h
  · rename_i q
    cases h
    exact HF V' q
theorem end_fit {s e : Int} {σ σ' : Sg} {H : Sg → Res} (V : Inv txt σ s) (HF : ∀ {σ σ' : Sg} {e : Int}, Inv txt σ s → H σ = some (some e, σ') → Fit σ') (h : endF H s σ = some (some e, σ')) : Fit σ' := by
  unfold endF at h
  split at h
  · cases h
  rename_i n hn
  have V' := end_inv V hn
  split at h
  · cases h
  · cases h
  · rename_i q
    cases h
    exact HF V' q
noncomputable def Fits (txt : List Int) (H : Int → Sg → Res) : Prop := ∀ {s e : Int} {σ σ' : Sg}, Inv txt σ s → H s σ = some (some e, σ') → Fit σ'
theorem down_fit {H : Int → Sg → Res} {s e : Int} {σ' : Sg} (HS : Keeps txt H) (HF : Fits txt H) : ∀ {n : Nat} {σ : Sg}, Inv txt σ s → s + n ≤ (txt.length : Int) + 1 → downG H s n σ = some (some e, σ') → Fit σ'
  | 0, σ, V, _, h => by cases h
  | n + 1, σ, V, hn, h => by
    rw [downG] at h
    split at h
    · cases h
    · rename_i σ2 q
      have S := HS (V.up (s' := s + (n : Int)) (by omega) (by omega)) q
      exact down_fit HS HF (V.same S) (by omega) h
    · rename_i q
      cases h
      exact HF (V.up (s' := s + (n : Int)) (by omega) (by omega)) q
theorem up_fit {H : Int → Sg → Res} {p e r : Int} {σ' : Sg} (HS : Keeps txt H) (HF : Fits txt H) : ∀ {n : Nat} {s : Int} {σ : Sg}, Inv txt σ s → upF txt pat H p e n s σ = some (some r, σ') → Fit σ'
  | 0, s, σ, V, h => by cases h
  | n + 1, s, σ, V, h => by
    rw [upF] at h
    split at h
    · cases h
    · rename_i σ2 q
      have S := HS V q
      split at h
      · rename_i q
        have hl := single_lt q
        exact up_fit HS HF ((V.same S).up (s' := s + 1) (by omega) (by omega)) h
      · cases h
    · rename_i q
      cases h
      exact HF V q
theorem most_fit {H : Int → Sg → Res} {s p e r : Int} {σ σ' : Sg} (HS : Keeps txt H) (HF : Fits txt H) (V : Inv txt σ s) (h : mostF txt pat H s p e σ = some (some r, σ')) : Fit σ' := by
  have s1 := V.s1
  have := run_hi (n := txt.length + 1) (m := 0) (s := s) (p := p) (e := e) (pat := pat) (txt := txt) (by omega)
  exact down_fit HS HF V (by omega) h
theorem deepF_some {dep e : Int} {H : Res} {σ : Sg} (h : deepF dep H = some (some e, σ)) : H = some (some e, σ) := by
  unfold deepF at h
  split at h
  · cases h
  · exact h
theorem here_fit : ∀ (n : Nat) (dep p : Int), Fits txt (fun s σ => hereF txt pat n dep s p σ)
  | 0, _, _, s, e, σ, σ', V, h => by cases h
  | n + 1, dep, p, s, r, σ, σ', V, h => by
    have IH : ∀ p, Keeps txt (fun s σ => deepF dep (hereF txt pat n (dep + 1) s p σ)) := fun p {s σ σ'} V h => here_same n (dep + 1) p V (deepF_none h)
    have IH2 : ∀ p, Keeps txt (fun s σ => hereF txt pat n dep s p σ) := fun p => here_same n dep p
    have FH : ∀ p, Fits txt (fun s σ => deepF dep (hereF txt pat n (dep + 1) s p σ)) := fun p {s e σ σ'} V h => here_fit n (dep + 1) p V (deepF_some h)
    have FH2 : ∀ p, Fits txt (fun s σ => hereF txt pat n dep s p σ) := fun p => here_fit n dep p
    replace h : hereF txt pat (n + 1) dep s p σ = some (some r, σ') := h
    rw [hereF] at h
    rcases itec h with ⟨_, h⟩ | ⟨_, h⟩
    · cases h; exact V.fit
    rcases itec h with ⟨_, h⟩ | ⟨_, h⟩
    · rcases itec h with ⟨_, h⟩ | ⟨_, h⟩
      · exact start_fit V (by decide) (fun V' h' => FH (p + 2) V' h') h
      · exact start_fit V (by decide) (fun V' h' => FH (p + 1) V' h') h
    rcases itec h with ⟨_, h⟩ | ⟨_, h⟩
    · exact end_fit V (fun V' h' => FH (p + 1) V' h') h
    rcases itec h with ⟨_, h⟩ | ⟨_, h⟩
    · rcases itec h with ⟨_, h⟩ | ⟨_, h⟩
      · cases h; exact V.fit
      · cases h
    rcases itec h with ⟨q, h⟩ | ⟨_, h⟩
    · have hp : p + 2 ≤ (pat.length : Int) := by
        have : p + 1 < (pat.length : Int) := at_lt (by rcases q.2 with z | z | z; omega; omega; exact digit_ne z)
        omega
      split at h
      · cases h
      · cases h
      · rename_i s' p' e
        have := (spec_hi V hp e).2.2 s' rfl
        exact FH2 p' (V.up this.1 this.2) h
    cases he : classEndF pat p with
    | none => rw [he] at h; cases h
    | some e =>
    rw [he] at h
    dsimp only at h
    rcases itec h with ⟨_, h⟩ | ⟨_, h⟩
    · exact most_fit (IH (e + 1)) (FH (e + 1)) V h
    rcases itec h with ⟨_, h⟩ | ⟨_, h⟩
    · rcases itec h with ⟨q, h⟩ | ⟨_, h⟩
      · have hl := single_lt q
        exact most_fit (IH (e + 1)) (FH (e + 1)) (V.up (s' := s + 1) (by omega) (by omega)) h
      · cases h
    rcases itec h with ⟨_, h⟩ | ⟨_, h⟩
    · exact up_fit (IH (e + 1)) (FH (e + 1)) V h
    rcases itec h with ⟨_, h⟩ | ⟨_, h⟩
    · rcases itec h with ⟨q, h⟩ | ⟨_, h⟩
      · have hl := single_lt q
        split at h
        · cases h
        · rename_i σ2 e2
          have S := IH (e + 1) (V.up (s' := s + 1) (by omega) (by omega)) e2
          exact FH2 (e + 1) (V.same S) h
        · rename_i e2
          cases h
          exact FH (e + 1) (V.up (s' := s + 1) (by omega) (by omega)) e2
      · exact FH2 (e + 1) V h
    rcases itec h with ⟨q, h⟩ | ⟨_, h⟩
    · have hl := single_lt q
      exact FH2 e (V.up (s' := s + 1) (by omega) (by omega)) h
    · cases h
theorem inv0 {s : Int} (s0 : 0 ≤ s) (s1 : s ≤ (txt.length : Int)) : Inv txt ⟨0, [], []⟩ s := ⟨by decide, by decide, by decide, rfl, by decide, s0, s1, fun i hi => by dsimp only at hi; omega⟩
theorem try_fit {p s e : Int} {σ : Sg} (s0 : 0 ≤ s) (s1 : s ≤ (txt.length : Int)) (h : tryF txt pat 0 p s ⟨0, [], []⟩ = some (some e, σ)) : Fit σ :=
  here_fit _ _ _ (inv0 s0 s1) (deepF_some h)
theorem search_fit {p : Int} {b : Bool} {r : Int × Int} {σ : Sg} : ∀ {n : Nat} {s : Int}, 0 ≤ s → s ≤ (txt.length : Int) → searchF txt pat p b n s = some (some r, σ) → Fit σ
  | 0, _, _, _, h => by cases h
  | n + 1, s, s0, s1, h => by
    rw [searchF] at h
    split at h
    · cases h
    · rename_i e σ2 q
      cases h
      exact try_fit s0 s1 q
    · split at h
      · cases h
      · split at h
        · exact search_fit (by omega) (by assumption) h
        · cases h
end
-- A1
theorem freshA1 : True := by w_top off; trivial
local macro_rules | `(tactic| walk_at "call ref") => `(tactic| (k_here; (with_reducible refine at_call 161 ?_); refine Hold.lay ?_))
local macro_rules | `(tactic| walk_at "call ref") => `(tactic| (k_here; (with_reducible refine at_call 250 ?_); refine Hold.lay ?_))
local macro_rules | `(tactic| walk_at "call ref") => `(tactic| (k_here; (with_reducible refine at_call 243 ?_); refine Hold.lay ?_))
section
variable {w : World} {mean : ExcName → Option Value} {mg mb : Str → Option Value} {x dx : Addr} {c : Cf} {dep : Int} {core : Core} {txt pat : List Int}
set_option maxHeartbeats 16000000
variable {td tl : Tok} {lev : Int} {l1 l2 : Addr}
theorem MC.openF {σ : Sg} (h : MC w c x dx dep σ core) (v : Fit σ) :
    ∃ (td tl : Tok) (l1 l2 : Addr) (vs1 vs2 : List Value) (n1 n2 : Nat), (x, instObj 253 dx) ∈ core ∧ (dx, MD w c dep td σ.lev tl l1 l2) ∈ core ∧ Lst core l1 l2 vs1 vs2 n1 n2 σ.ss σ.ls σ.lev := by
  obtain ⟨td, tl, l1, l2, vs1, vs2, n1, n2, rfl, i1, i2, _⟩ := h
  have e1 := v.e1; have e2 := v.e2; have e3 := v.e3
  exact ⟨td, tl, l1, l2, vs1, vs2, n1, n2, by k_mem, by k_mem, by k_mem, by k_mem, i1, i2, v.l0, v.e1, by rw [← e2]; exact e1, by omega, by rw [← e2]; omega⟩
theorem ME.up {core core' : Core} (h : ME w c x dx core) (k : ∀ q ∈ core, q ∈ core') : ME w c x dx core' := by
  obtain ⟨dep, td, lev, tl, l1, l2, a, b⟩ := h
  exact ⟨dep, td, lev, tl, l1, l2, k _ a, k _ b⟩
/-- an exception of a callee's is caught by its own class -/
theorem try_lua {dp un : Nat} {gd : Option (List Code)} {name : Str} {scope : Scope} {cd : Value} {a L : Addr} {outer : List Env} {A₀ : Around} {base g : Heap} {s : Shared} {gn : Array GenState} {dr : Drawn} {os : OsState} {Q : Flow → Shared → Prop} {E : Value → Shared → Prop}
    {body orelse suite : List Stmt} {b₀ : Stmt} {pos hp np : Pos} {n : Str} {ErrR : Core → Prop}
    (B : Below A₀ base outer g) (XB : (hd.heap_1 w.params).In base) (TB : Top view39 (looseW view39 []) mean mg mb base) (ex : nsIn (hd.heap_1 w.params) mainGlobals n = some (some (.ref 31)))
    (hcatch : ∀ e m' core' g' h' tk', ErrR core' → KtsTurn (outer.filterMap (·.frame)) g g' → Fr g' L h' m' → News g' L h' core' → wpAny (model PySem.Challenge.rw_sm0059_01.row.prog w) ((ktrTop dp un gd name scope L a cd [] outer).mark (some (.ref e))) (execs (b₀ :: suite) (envX name scope L a cd [])) Q (fun _ _ => False) ⟨h', gn, dr, tk', os⟩)
    (hbody : ∀ E', PassE base g L (envX name scope L a cd [] :: outer) gn dr os ErrR E' → wpAny (model PySem.Challenge.rw_sm0059_01.row.prog w) (ktrTop dp un gd name scope L a cd [] outer) (execs body (envX name scope L a cd [])) (fun f s₁ => match f with | .next => wpAny (model PySem.Challenge.rw_sm0059_01.row.prog w) (ktrTop dp un gd name scope L a cd [] outer) (execs orelse (envX name scope L a cd [])) Q E s₁ | f => Q f s₁) E' s)
    (hk : scope.kind = .function := by rfl) (hx : (envX name scope L a cd []).kindOf n = some .globalImplicit := by rfl) (hd' : (n == ("__debug__" : Str)) = false := by decide) :
    wpAny (model PySem.Challenge.rw_sm0059_01.row.prog w) (ktrTop dp un gd name scope L a cd [] outer) (exec (.Try body [.ExceptHandler (some (.Name n np)) none (b₀ :: suite) hp] orelse [] pos) (envX name scope L a cd [])) Q E s := by
  refine wpAny_Try_except (hbody _ ?_)
  intro e m' core' g₂ h' tk' r F R U
  exact caught_own (s' := ⟨h', gn, dr, tk', os⟩) rfl R F B U XB TB ex (by kernel_rfl) (fun h'' g' T' F' N' => hcatch e m' core' g' h'' tk' r T' F' N') hk hx hd'
/-- what an asking finds -/
noncomputable def findA (txt pat : List Int) (kind place : Int) (b : Bool) : Option (Option (Int × Int) × Sg) :=
  if kind = 0 then match tryF txt pat 0 0 place ⟨0, [], []⟩ with
    | none => none
    | some (none, σ) => some (none, σ)
    | some (some e, σ) => some (some (place, e), σ)
  else searchF txt pat 0 b (txt.length + 1) place
theorem f_err {kind place : Int} {b : Bool} (hk : kind = 0) (h : tryF txt pat 0 0 place ⟨0, [], []⟩ = none) : findA txt pat kind place b = none := by rw [findA, if_pos hk, h]
theorem f_no {kind place : Int} {b : Bool} {σ : Sg} (hk : kind = 0) (h : tryF txt pat 0 0 place ⟨0, [], []⟩ = some (none, σ)) : findA txt pat kind place b = some (none, σ) := by rw [findA, if_pos hk, h]
theorem f_met {kind place e : Int} {b : Bool} {σ : Sg} (hk : kind = 0) (h : tryF txt pat 0 0 place ⟨0, [], []⟩ = some (some e, σ)) : findA txt pat kind place b = some (some (place, e), σ) := by rw [findA, if_pos hk, h]
theorem f_search {kind place : Int} {b : Bool} (hk : ¬ kind = 0) : findA txt pat kind place b = searchF txt pat 0 b (txt.length + 1) place := by rw [findA, if_neg hk]
theorem findA_fit {kind place : Int} {b : Bool} {r : Int × Int} {σ : Sg} (s0 : 0 ≤ place) (s1 : place ≤ (txt.length : Int)) (h : findA txt pat kind place b = some (some r, σ)) : Fit σ := by
  unfold findA at h
  split at h
  · split at h
    · cases h
    · cases h
    · rename_i q
      cases h
      exact try_fit s0 s1 q
  · exact search_fit s0 s1 h
/-- what an asking is answered -/
noncomputable def ansF (tx : Array UInt8) (txt pat : List Int) (kind place : Int) (b : Bool) : Dat :=
  match findA txt pat kind place b with
  | none => .str "refused"
  | some (none, _) => .tuple [.none, .none]
  | some (some (s, e), σ) => match capsF tx σ.lev σ.ss σ.ls s e true with
    | none => .str "refused"
    | some ds => .tuple [.tuple [.int s, .int e], .list ds]
theorem a_err {tx : Array UInt8} {kind place : Int} {b : Bool} (h : findA txt pat kind place b = none) : ansF tx txt pat kind place b = .str "refused" := by rw [ansF, h]
theorem a_no {tx : Array UInt8} {kind place : Int} {b : Bool} {σ : Sg} (h : findA txt pat kind place b = some (none, σ)) : ansF tx txt pat kind place b = .tuple [.none, .none] := by rw [ansF, h]
theorem a_bad {tx : Array UInt8} {kind place s e : Int} {b : Bool} {σ : Sg} (h : findA txt pat kind place b = some (some (s, e), σ)) (h2 : capsF tx σ.lev σ.ss σ.ls s e true = none) : ansF tx txt pat kind place b = .str "refused" := by
  rw [ansF, h]; dsimp only; rw [h2]
theorem a_met {tx : Array UInt8} {kind place s e : Int} {b : Bool} {σ : Sg} {ds : List Dat} (h : findA txt pat kind place b = some (some (s, e), σ)) (h2 : capsF tx σ.lev σ.ss σ.ls s e true = some ds) : ansF tx txt pat kind place b = .tuple [.tuple [.int s, .int e], .list ds] := by
  rw [ansF, h]; dsimp only; rw [h2]
theorem IsCap.dat {v : Value} {d : Dat} {news : Core} (h : IsCap v d) : DatIn news v d := by
  cases h
  · exact .int _ _
  · exact .bytes _ _
theorem CapsAre.dat {news : Core} : ∀ {vs : List Value} {ds : List Dat}, CapsAre vs ds → DatAll news vs ds
  | _, _, .nil => .nil
  | _, _, .cons h r => .cons h.dat r.dat
noncomputable abbrev askO (kind place : Int) (b : Bool) (t1 t2 : Tok) : Array Value := #[.int kind t1, .int place t2, .bool b]
end
local macro_rules | `(tactic| walk_at "exec Try") => `(tactic| refine Hold.lay ?_)
section
variable {w : World} {mean : ExcName → Option Value} {mg mb : Str → Option Value} {x dx : Addr} {c : Cf} {dep : Int} {core : Core} {txt pat : List Int}
set_option maxHeartbeats 16000000
variable {td tl : Tok} {lev : Int} {l1 l2 : Addr}
theorem answer_ok {kind place : Int} {b : Bool} {t1 t2 tf : Tok} {ak : Addr} (O : CfOk c txt pat) (hxd : @Ne Nat x dx) (s0 : 0 ≤ place) (s1 : place ≤ (txt.length : Int)) :
    CtrT w mean mg mb 271 [.ref x, .ref ak, .int 0 tf] (7 * (pat.length + 1) + 16) ak (askO kind place b t1 t2) [(x, instObj 253 dx), (dx, MD w c dep td lev tl l1 l2)]
      (fun v core' => DatIn core' v (ansF c.tx txt pat kind place b) ∧ ME w c x dx core') := by
  refine' ctrT_of_body (binds := [("matcher", .ref x), ("asking", .ref ak), ("first", .int 0 tf)]) ?ho ?hcd ?hbind ?hloc ?hcell ?hco ?hgen ?hk ?hb
  case ho => k_is
  case hcd => k_is
  case hbind => exact fun _ _ => BindsTo.of_eq rfl
  case hloc => exact locs rfl
  case hcell => decide
  case hco => exact rfl
  case hgen => exact rfl
  case hk => exact rfl
  unfold BodyT
  intro dp un gd outer A₀ base g L h gn dr tk os Q E B F X N T hdp hun hlt XB TB TU hE hret
  try dsimp only
  have z0 : (0 : Int) ≤ (pat.length : Int) := by omega
  have V0 := inv0 (txt := txt) s0 s1
  refine execs_splitM 1 (fun s' => ∃ h' m' tk', s' = ⟨h', gn, dr, tk', os⟩ ∧ Fr g L h' m' ∧ News g L h' [(x, instObj 253 dx), (dx, MD w c dep td lev tl l1 l2)] ∧ m' "matcher" = some (.ref x) ∧ m' "kind" = some (.int kind t1) ∧ m' "place" = some (.int place t2) ∧ m' "is_bound" = some (.bool b) ∧ m' "first" = some (.int 0 tf)) ?_ ?_
  · intro Mq hMq
    dsimp only [List.take]
    k_steps
    all_goals exact CutQ.next (hMq.go _ ⟨_, _, _, rfl, by k_asm, by k_asm, by exact rfl, by exact rfl, by exact rfl, by exact rfl, by exact rfl⟩)
  rintro _ ⟨h1', m1, tk1, rfl, F1, N1, em, ekd, epl, ebd, efr⟩
  clear F N hlt
  dsimp only [List.drop]
  k_steps
  refine Hold.mk ?_
  refine try_lua (gn := gn) (dr := dr) (os := os) (ErrR := fun core' => ansF c.tx txt pat kind place b = .str "refused" ∧ ME w c x dx core') B XB TB (by k_is) ?_ ?_
  · rintro e m' core' g' h' tk' ⟨r1, r2⟩ TT F' N'
    k_steps
    all_goals exact hret _ _ _ _ _ _ ⟨by rw [r1]; exact .str _ _, r2⟩ TT F' N'
  intro E' hpass
  generalize hA : ansF c.tx txt pat kind place b = A' at hpass hret
  refine execs_splitM 1 (fun s' => ∃ h' m' tk' core' v r σ, s' = ⟨h', gn, dr, tk', os⟩ ∧ Fr g L h' m' ∧ News g L h' core' ∧ m' "matcher" = some (.ref x) ∧ m' "found" = some v ∧ findA txt pat kind place b = some (r, σ) ∧ RetS w c x dx v core' r σ) ?_ ?_
  · intro Mq hMq
    clear XB TB TU
    dsimp only [List.take]
    k_steps
    all_goals try (refine Hold.mk ?_; k_here; (with_reducible refine at_call 161 ?_); k_dflt (top_raise; (case kC => exact try_at (dep := 0) (by assumption) (by decide) (by assumption) (by assumption) (by assumption)); top_caught; intro _ _ _ _ r' F' N' _ _; obtain ⟨q1', q2', e3', iv', M'⟩ := r'; cases iv'; top_strB); k_steps)
    all_goals try (refine Hold.mk ?_; k_here; (with_reducible refine at_call 250 ?_); k_dflt (top_raise; (case kC => exact search_ok (by assumption) (by assumption) (by decide) (by assumption) (by assumption) (by assumption)); top_caught; intro _ _ _ _ r' F' N' _ _; replace r' := Hold.mk r'; top_strB); k_steps)
    all_goals first
      | exact CutQ.next (hMq.go _ ⟨_, _, _, _, _, _, _, rfl, by k_asm, by k_asm, by assumption, by exact rfl, f_no (by assumption) (by assumption), .none (by assumption)⟩)
      | exact CutQ.next (hMq.go _ ⟨_, _, _, _, _, _, _, rfl, by k_asm, by k_asm, by assumption, by exact rfl, f_met (by assumption) (by assumption), .some (by assumption) (by assumption)⟩)
      | (have q := Hold.out (by assumption : Hold (∃ r σ, _))
         obtain ⟨r, σ, q1, q2⟩ := q
         exact CutQ.next (hMq.go _ ⟨_, _, _, _, _, r, σ, rfl, by k_asm, by k_asm, by assumption, by exact rfl, by rw [f_search (by assumption)]; exact q1, q2⟩))
      | (rename_i r'; obtain ⟨⟨r1, r2⟩⟩ := r'; first
          | exact Hold.mk ⟨by rw [← hA, a_err (f_err (by assumption) r1)], r2⟩
          | exact Hold.mk ⟨by rw [← hA, a_err (by rw [f_search (by assumption)]; exact r1)], r2⟩)
  rintro _ ⟨h2', m2, tk2, core2, v, r, σ, rfl, F2, N2, em, efd, eF, RS⟩
  clear XB TB TU F1 N1 ekd epl ebd efr
  dsimp only [List.drop]
  cases RS with
  | none M2 =>
    k_steps
    all_goals (refine hret _ _ _ _ _ _ ?_ KtsTurn.refl (by k_asm) (by k_asm); exact ⟨by rw [← hA, a_no eF]; exact .tuple (.head _) (.cons .none (.cons .none .nil)), M2.me.up fun q hq => .tail _ hq⟩)
  | @some core2 _ D1 s1 e1 u1 u2 M2 hlow =>
    obtain ⟨td2, tl2, l12, l22, vs1, vs2, n1, n2, mm1, mm2, S2⟩ := M2.openF (findA_fit s0 (by assumption) eF)
    have mm1' := List.mem_cons_of_mem (D1, tupO (.int s1 u1) (.int e1 u2)) mm1
    have mm2' := List.mem_cons_of_mem (D1, tupO (.int s1 u1) (.int e1 u2)) mm2
    have S2' : Lst ((D1, tupO (.int s1 u1) (.int e1 u2)) :: core2) l12 l22 vs1 vs2 n1 n2 σ.ss σ.ls σ.lev := ⟨.tail _ S2.m1, .tail _ S2.m2, S2.i1, S2.i2, S2.h0, S2.h1, S2.h2, S2.h3, S2.h4⟩
    k_steps
    all_goals try (refine Hold.mk ?_; k_here; (with_reducible refine at_call 243 ?_); k_dflt (top_raise; (case kC => exact captures_ok (by assumption) (by assumption) (by assumption) (by assumption)); top_caught; intro _ _ _ _ r' F' N' _ _; obtain ⟨D', ys', ds', r1, r2, r3, r4⟩ := r'; subst r1; subst r2; top_strB); k_steps)
    all_goals first
      | (refine hret _ _ _ _ _ _ ?_ KtsTurn.refl (by k_asm) (by k_asm); exact ⟨by rw [← hA, a_met eF (by assumption)]; exact .tuple (.head _) (.cons (.tuple (.tail _ (.tail _ (.head _))) (.cons (.int _ _) (.cons (.int _ _) .nil))) (.cons (.list (.tail _ (.head _)) (CapsAre.dat (by assumption))) .nil)), M2.me.up fun q hq => .tail _ (.tail _ (.tail _ hq))⟩)
      | (rename_i r'; obtain ⟨⟨r1, r2⟩⟩ := r'; exact Hold.mk ⟨by rw [← hA, a_bad eF r2], by rw [r1]; exact M2.me.up fun q hq => .tail _ hq⟩)
end
-- Jn
theorem freshJn : True := by w_top off; trivial
section
open Builtin PySem.Calls PySem.Spec
theorem slot_join : Slot "bytes" "join" "bytes.join" :=
  .of (owner := "bytes") (n := "join") (by rw [typeLookup_type, builtinLookup_eq_fast]; kernel_rfl) (by decide +kernel) (by decide +kernel) (by decide +kernel)
    (by first | exact .inl (by decide +kernel) | exact .inr (by decide +kernel)) (by rw [isSubtype_type]; kernel_rfl)
theorem type_join : typeOf (.builtin "bytes.join") = pure (.type "method_descriptor") := by show builtinType _ = _; rw [builtinType_eq_fast]; kernel_rfl
theorem entry_join : entryFor table "bytes.join" = some Builtin.«bytes.join» := entryFor_of_tree (by kernel_rfl)
theorem args_join (a b : Value) : argsOk "bytes.join" ⟨[a, b], []⟩ := by
  unfold argsOk; rw [signature?_of (id := "bytes.join") (n := ['n', 'i', 'o', 'j']) (o := ['s', 'e', 't', 'y', 'b']) (by kernel_rfl) W.FB.owner_bytes]; kernel_rfl
section
variable {prog : Program} {w : World} {A : Around} {E : Value → Shared → Prop} {s : Shared} {b : Array UInt8} {t : Tok} {l : Addr} {vs : List Value}
theorem take_eq {id : String} : Bytes.takeBufferQuiet? id (.bytes b t) 0 = pure (some (b, none)) := by
  unfold Bytes.takeBufferQuiet? Bytes.takeBuffer?
  rw [KBy.special_eq KBy.look_buffer, KBy.own_buffer]
  simp only [KBy.buffer_eq]
  kernel_rfl
/-- a list of small bytes -/
noncomputable def Smalls (vs : List Value) : Prop := ∀ v ∈ vs, ∃ b t, v = .bytes b t ∧ b.size ≤ 5
theorem small_at (hv : Smalls vs) {i : Nat} (hi : i < vs.length) : ∃ b t, vs.toArray.getD i .none = .bytes b t ∧ b.size ≤ 5 := by
  obtain ⟨b, t, e, hb⟩ := hv _ (List.getElem_mem hi)
  exact ⟨b, t, by simp [hi, e], hb⟩
theorem flat_no : ∀ {tk : List (Value × Option Value)}, (∀ q ∈ tk, ∃ b t, q = (.bytes b t, none)) → (tk.any fun x => x.1.onHeap) = false ∧ ∀ q ∈ tk, q.2 = none
  | [], _ => ⟨rfl, fun q hq => nomatch hq⟩
  | a :: r, h => by
    obtain ⟨b, t, rfl⟩ := h a (.head _)
    obtain ⟨h1, h2⟩ := flat_no (tk := r) fun q hq => h q (.tail _ hq)
    refine ⟨?_, fun q hq => ?_⟩
    · rw [List.any_cons, h1]; rfl
    · rcases List.mem_cons.mp hq with rfl | hq
      · rfl
      · exact h2 q hq
theorem let_go {M : Model} {A : Around} {E : Value → Shared → Prop} {s : Shared} {Q : Unit → Shared → Prop} : ∀ {tk : List (Value × Option Value)} {keep : List Value}, (∀ q ∈ tk, q.2 = none) → Q () s → wpAny M A (Bytes.joinLetGo tk keep) Q E s
  | [], _, _, h => wpAny_pure h
  | (x, w) :: r, keep, hw, h => by
    obtain rfl : w = none := hw (x, w) (.head _)
    unfold Bytes.joinLetGo
    refine wpAny_bind ?_
    exact wpAny_letGo (let_go (fun q hq => hw q (.tail _ hq)) h)
theorem fold_sizes {k : Nat} : ∀ {ps : List (Array UInt8)} {c : Nat}, (∀ p ∈ ps, p.size ≤ k) → ps.foldl (fun x1 x2 => x1 + x2.size) c ≤ c + ps.length * k
  | [], c, _ => by simp
  | p :: r, c, h => by
    have h1 := h p (.head _)
    have h2 := fold_sizes (ps := r) (c := c + p.size) fun q hq => h q (.tail _ hq)
    rw [List.foldl_cons, List.length_cons, Nat.add_mul]
    omega
theorem joined_sizes {k : Nat} : ∀ {ps : List (Array UInt8 × Nat)} {c : Array UInt8}, (∀ p ∈ ps, p.1.size ≤ k) → (ps.foldl (fun out (q : Array UInt8 × Nat) => (if q.2 > 0 then out ++ (#[] : Array UInt8) else out) ++ q.1) c).size ≤ c.size + ps.length * k
  | [], c, _ => by simp
  | p :: r, c, h => by
    have h1 := h p (.head _)
    have h2 := joined_sizes (ps := r) (c := (if p.2 > 0 then c ++ (#[] : Array UInt8) else c) ++ p.1) fun q hq => h q (.tail _ hq)
    rw [List.foldl_cons, List.length_cons, Nat.add_mul]
    have h3 : ((if p.2 > 0 then c ++ (#[] : Array UInt8) else c) ++ p.1).size = c.size + p.1.size := by
      rw [Array.size_append]; split <;> simp
    omega
theorem joined_le {ps : List (Array UInt8)} (h : ∀ p ∈ ps, p.size ≤ 5) (hn : ps.length ≤ 5) : (Bytes.joined #[] ps).size ≤ 25 := by
  unfold Bytes.joined
  have := joined_sizes (k := 5) (ps := ps.zipIdx) (c := #[]) fun p hp => h _ (List.fst_mem_of_mem_zipIdx hp)
  have e : ps.zipIdx.length = ps.length := by simp
  rw [e] at this
  have e2 : (#[] : Array UInt8).size = 0 := rfl
  refine Nat.le_trans this ?_
  omega
theorem items_eq {M : Model} {A : Around} {E : Value → Shared → Prop} {s : Shared} {Q : Option (Array Value) → Shared → Prop} {xs : Array Value} (hl : s.heap.IsList l xs) (h : Q (some xs) s) : wpAny M A (seqItems? (.ref l)) Q E s := by
  obtain ⟨o, ho, _, n, hd⟩ := hl
  unfold seqItems?
  refine wpAny_bind (wpAny_load ho ?_)
  rw [hd]
  exact wpAny_pure h
theorem match_one {α : Type} {P : Sem α → Prop} {f : Value → Sem α} {g : Array Value → Sem α} (h0 : P (g vs.toArray)) (h1 : ∀ v, vs = [v] → P (f v)) : P (Bytes.joinM.match_1 (fun _ => Sem α) vs.toArray f g) := by
  rcases vs with _ | ⟨v, _ | ⟨v', r⟩⟩
  · exact h0
  · exact h1 v rfl
  · exact h0
theorem meets_join (hv : Smalls vs) (hn : vs.length ≤ 5) : Meets («bytes.join» ⟨[.bytes #[] t, .ref l], []⟩) (fun _ R s => s.heap.IsList l vs.toArray ∧ ∀ r t' k, r.size ≤ 25 → R (.ok (.ret (.bytes r t'))) { s with toks := k }) := by
  refine .of_wp fun prog w A R s h => ?_
  obtain ⟨hl, h⟩ := h
  unfold «bytes.join» Bytes.joinM
  have e1 : (Bytes.Kind.bytes == Bytes.Kind.bytes) = true := by decide
  have e2 : (Bytes.Kind.bytes == Bytes.Kind.bytearray) = false := by decide
  refine wpAny_bind (wpAny_pure (a := (Value.bytes #[] t, Value.ref l)) ?_)
  try dsimp only
  rw [if_pos e1]
  refine wpAny_bind ?_
  unfold Bytes.joinItems
  refine wpAny_bind (wpAny_typeOf hl.typeIs ?_)
  rw [if_pos (by decide)]
  refine wpAny_pure ?_
  refine wpAny_bind (items_eq hl ?_)
  try dsimp only
  rw [if_pos e1]
  refine match_one (P := fun z => wpAny (model prog w) A.in1 z (fun fin s' => ∃ v, fin = Fin.done (.ret v) ∧ R (.ok (.ret v)) s') (fun e s' => R (.error e) s') s) ?_ ?_
  · rw [e2]
    simp only [Bool.false_or]
    refine wpAny_bind ?_
    rw [KPc.range_list]
    have hsz : vs.toArray.size = vs.length := by simp
    refine wpAny_forIn_list (β := Array (Array UInt8) × List (Value × Option Value)) _
      (fun rest p s' => s' = s ∧ ∃ i, rest = List.range' i (vs.length - i) ∧ i ≤ vs.length ∧ p.1.size = i ∧ (∀ q ∈ p.1.toList, q.size ≤ 5) ∧ ∀ q ∈ p.2, ∃ b t, q = (.bytes b t, none)) _ ?_ ?_ _ _ ⟨rfl, 0, by rw [hsz, Nat.sub_zero], Nat.zero_le _, rfl, ?_, ?_⟩
    rotate_right 2
    · intro q hq; cases hq
    · intro q hq; cases hq
    · rintro i rest ⟨ps, tk⟩ _ ⟨rfl, i', hr, hi, hp, hq, ht⟩
      dsimp only at hp hq ht ⊢
      have hlt : i' < vs.length := by
        rcases Nat.lt_or_ge i' vs.length with z | z
        · exact z
        · rw [Nat.sub_eq_zero_of_le z] at hr; cases hr
      obtain ⟨rfl, hr⟩ : i = i' ∧ rest = List.range' (i' + 1) (vs.length - (i' + 1)) := by
        have e : vs.length - i' = (vs.length - (i' + 1)) + 1 := by omega
        rw [e, List.range'_succ] at hr
        injection hr with h1 h2
        exact ⟨h1, h2⟩
      obtain ⟨b, u, hx, hb⟩ := small_at hv hlt
      refine wpAny_bind (items_eq hl ?_)
      try dsimp only
      rw [hx, (flat_no ht).1]
      simp only [Bool.false_eq_true, if_false]
      refine wpAny_bind (wpAny_holding (wpAny_of_eq take_eq ?_))
      try dsimp only
      refine wpAny_bind (items_eq hl ?_)
      try dsimp only
      rw [if_neg (by simp)]
      refine wpAny_pure ⟨rfl, i + 1, hr, hlt, by simp [hp], ?_, ?_⟩
      · intro q z
        rw [Array.toList_push] at z
        rcases List.mem_append.mp z with z | z
        · exact hq q z
        · rw [List.mem_singleton.mp z]; exact hb
      · intro q z
        rcases List.mem_append.mp z with z | z
        · exact ht q z
        · rw [List.mem_singleton.mp z]; exact ⟨b, u, rfl⟩
    · rintro ⟨ps, tk⟩ _ ⟨rfl, i', hr, hi, hp, hq, ht⟩
      dsimp only at hp hq ht ⊢
      refine wpAny_bind (wpAny_pure (a := (#[] : Array UInt8)) ?_)
      have hn' : ps.toList.length ≤ 5 := by simp; omega
      have hj := joined_le hq hn'
      have hf := fold_sizes (k := 5) (c := (#[] : Array UInt8).size * (ps.size - 1)) hq
      rw [if_neg (by
        rw [KBy.tooLong_not]
        · decide
        · rw [← Array.foldl_toList]
          refine Nat.le_trans hf ?_
          have e : (#[] : Array UInt8).size * (ps.size - 1) = 0 := Nat.zero_mul _
          omega)]
      refine wpAny_bind ?_
      show wpAny _ _ (mkBytes _) _ _ _
      unfold mkBytes
      rw [if_neg (by rw [sizeLine_eq]; omega)]
      refine wpAny_bind (wpAny_fresh' (wpAny_pure ?_))
      refine wpAny_bind (wpAny_holding (wpAny_point ?_))
      refine wpAny_bind (let_go (flat_no ht).2 ?_)
      exact wpAny_pure ⟨_, rfl, h _ _ _ hj⟩
  · rintro v rfl
    obtain ⟨b, t, rfl, hb⟩ := hv _ (.head _)
    refine wpAny_bind (wpAny_pure (a := Value.type "bytes") ?_)
    rw [if_pos (by decide)]
    exact wpAny_bind (wpAny_rule (wpAny_pure ⟨_, rfl, h _ _ s.toks (by omega)⟩))
theorem join_call {Q : Value → Shared → Prop} (hl : s.heap.IsList l vs.toArray) (hv : Smalls vs) (hn : vs.length ≤ 5) (h : ∀ r t' k, r.size ≤ 25 → Q (.bytes r t') { s with toks := k }) :
    wpAny (model prog w) A (call (.builtin "bytes.join") [.bytes #[] t, .ref l]) Q E s :=
  call_meets slot_join (typeIs_bytes _ _ _) entry_join (args_join _ _) (meets_join hv hn) ⟨hl, h⟩
theorem join_method {M : Model} {pl : Sem Bool} {Q : Value × List Value → Shared → Prop} (h : Q (.builtin "bytes.join", [.bytes b t]) s) : wpAny M A (getMethod (.bytes b t) "join" pl) Q E s :=
  KBd.method_of (.bytes b t) (typeIs_bytes _ _ _) slot_join type_join KBd.noRef h
end
end
-- Fx
theorem freshFx : True := by w_top off; trivial
section
open PySem.Calls PySem.Spec
section
variable {w : World} {mean : ExcName → Option Value} {mg mb : Str → Option Value} {f : Addr} {vs : List Value} {d : Nat} {core : Core} {Ret : Value → Core → Prop}
/-- a call that turns a part of the ledger alone -/
theorem Ctr.useF {full : Core} (rest : Core) (C : Ctr w mean mg mb f vs d core Ret fun _ => False) {dp un : Nat} {gd : Option (List Code)} {cn : Str} {cs : Scope} {a : Addr} {ccd : Value} {cl : List (Str × Addr)} {outer : List Env} {A₀ : Around} {base h₀ : Heap} {L : Addr} {m : Str → Option Value} {h : Heap} {gn : Array GenState} {dr : Drawn} {tk : Nat} {os : OsState} {Q E : Value → Shared → Prop}
    (B : Below A₀ base outer h₀) (F : Fr h₀ L h m) (X : (hd.heap_1 w.params).In h₀) (N : News h₀ L h full) (T : Top view39 (looseW view39 []) mean mg mb h₀) (hk : cs.kind = .function) (hd : dp + d + 1 < recursionLimit) (hu : un + 8 * (d + 1) < cLine)
    (h1 : ∀ q ∈ core, q ∈ full) (h2 : ∀ q ∈ rest, q ∈ full) (h3 : ∀ q ∈ rest, q.1 ∉ core.map (·.1))
    (hret : ∀ v core' h' tk', Ret v core' → Fr h₀ L h' m → News h₀ L h' (core' ++ rest) → (∀ q ∈ core', ∀ p ∈ rest, q.1 ≠ p.1) → Q v ⟨h', gn, dr, tk', os⟩) :
    wpAny (model PySem.Challenge.rw_sm0059_01.row.prog w) (ktrTop dp un gd cn cs L a ccd cl outer) (call (.ref f) vs) Q E ⟨h, gn, dr, tk, os⟩ := by
  refine Ctr.use C B F X (cb_drop N h1) T hk hd hu ?_ fun _ _ _ _ _ hf => hf.elim
  intro v core' h' tk' r' F' N' k z
  refine hret v core' h' tk' r' F' (fun p hp => ?_) fun q hq p hp e => ?_
  · rcases List.mem_append.mp hp with hp | hp
    · exact N' p hp
    · have y := N p (h2 p hp)
      exact ⟨k _ _ y.1 (h3 p hp), y.2⟩
  · rcases z q hq with y | y
    · exact h3 p hp (e ▸ y)
    · rw [e, (N p (h2 p hp)).1] at y; cases y
theorem CtrT.useF {full : Core} (rest : Core) {ak : Addr} {its : Array Value} (C : CtrT w mean mg mb f vs d ak its core Ret) {dp un : Nat} {gd : Option (List Code)} {cn : Str} {cs : Scope} {a : Addr} {ccd : Value} {cl : List (Str × Addr)} {A₀ : Around} {h₀ : Heap} {L : Addr} {m : Str → Option Value} {h : Heap} {gn : Array GenState} {dr : Drawn} {tk : Nat} {os : OsState} {Q E : Value → Shared → Prop}
    (B : Below A₀ h₀ [] h₀) (F : Fr h₀ L h m) (X : (hd.heap_1 w.params).In h₀) (N : News h₀ L h full) (T : Top view39 (looseW view39 []) mean mg mb h₀) (hk : cs.kind = .function) (hd : dp + d + 1 < recursionLimit) (hu : un + 8 * (d + 1) < cLine)
    (h1 : ∀ q ∈ core, q ∈ full) (h2 : ∀ q ∈ rest, q ∈ full) (h3 : ∀ q ∈ rest, q.1 ∉ core.map (·.1)) {oa : Obj} (ha : (ak, oa) ∈ rest) (ht : ∀ g : Heap, g.get? ak = some oa → IsTup g ak its)
    (hret : ∀ v core' h' tk', Ret v core' → Fr h₀ L h' m → News h₀ L h' (core' ++ rest) → (∀ q ∈ core', ∀ p ∈ rest, q.1 ≠ p.1) → Q v ⟨h', gn, dr, tk', os⟩) :
    wpAny (model PySem.Challenge.rw_sm0059_01.row.prog w) (ktrTop dp un gd cn cs L a ccd cl []) (call (.ref f) vs) Q E ⟨h, gn, dr, tk, os⟩ := by
  have na := N _ (h2 _ ha)
  refine C dp un gd cn cs a ccd cl A₀ h₀ L m h gn dr tk os Q E B F X (cb_drop N h1) T hk hd hu (ht h na.1) (h3 _ ha) na.2.1 ?_
  intro v core' h' tk' r' F' N' k z
  refine hret v core' h' tk' r' F' (fun p hp => ?_) fun q hq p hp e => ?_
  · rcases List.mem_append.mp hp with hp | hp
    · exact N' p hp
    · have y := N p (h2 p hp)
      exact ⟨k _ _ y.1 (h3 p hp) y.2.1, y.2⟩
  · rcases z q hq with y | y
    · exact h3 p hp (e ▸ y)
    · rw [e, (N p (h2 p hp)).1] at y; cases y
end
/-- as Ctr, of the call's code -/
noncomputable def CtrK (w : World) (mean : ExcName → Option Value) (mg mb : Str → Option Value) (f : Addr) (vs : List Value) (d : Nat) (core : Core) (Ret : Value → Core → Prop) : Prop :=
  ∀ (dp un : Nat) (gd : Option (List Code)) (cn : Str) (cs : Scope) (a : Addr) (ccd : Value) (cl : List (Str × Addr)) (outer : List Env) (A₀ : Around) (base h₀ : Heap) (L : Addr) (m : Str → Option Value) (h : Heap) (gn : Array GenState) (dr : Drawn) (tk : Nat) (os : OsState) (Q E : Value → Shared → Prop),
    Below A₀ base outer h₀ → Fr h₀ L h m → (hd.heap_1 w.params).In h₀ → News h₀ L h core → Top view39 (looseW view39 []) mean mg mb h₀ → cs.kind = .function → dp + d + 1 < recursionLimit → un + 8 * (d + 1) < cLine →
    (∀ v core' h' tk', Ret v core' → Fr h₀ L h' m → News h₀ L h' core' → Kept h h' core → (∀ q ∈ core', q.1 ∈ core.map (·.1) ∨ h.get? q.1 = none) → Q v ⟨h', gn, dr, tk', os⟩) →
    codeAny (model PySem.Challenge.rw_sm0059_01.row.prog w) (ktrTop dp un gd cn cs L a ccd cl outer) (.call (.ref f) ⟨vs, []⟩) (fun r s' => match r with | .ok (.ret v) => Q v s' | .ok _ => False | .error e => E e s') ⟨h, gn, dr, tk, os⟩
theorem ctrK_of_body {w : World} {mean : ExcName → Option Value} {mg mb : Str → Option Value} {f : Addr} {vs : List Value} {d : Nat} {core : Core} {Ret : Value → Core → Prop}
    {name qual : Str} {params : Arguments} {body : List Stmt} {scope : Scope} {dV kV doc pm cdv ct oc : Value} {an od : Option Addr} {osl : Array (Option Value)} {binds : List (Str × Value)}
    (ho : (hd.heap_1 w.params).lookup f = some ⟨oc, od, .func (fnOf name qual params body scope dV kV doc pm an cdv ct), osl⟩) (hcd : codeIn (hd.heap_1 w.params) cdv qual = true)
    (hbind : ∀ s : Shared, (hd.heap_1 w.params).In s.heap → BindsTo s (fnOf name qual params body scope dV kV doc pm an cdv ct) ⟨vs, []⟩ binds) (hloc : ∀ y ∈ binds, scope.names.lookup y.1 = some .local)
    (hcell : ∀ x ∈ scope.names, x.2 ≠ .cell) (hco : scope.isCoroutine = false) (hgen : scope.isGenerator = false) (hk : scope.kind = .function)
    (hb : Body w mean mg mb f qual scope cdv body binds d core Ret fun _ => False) : CtrK w mean mg mb f vs d core Ret := by
  intro dp un gd cn cs a ccd cl outer A₀ base h₀ L m h gn dr tk os Q E B F X N T hck hd hu hret
  have XS := X.keeps F.keep
  obtain ⟨FG, BG, st, _⟩ := groundX (A := ktrTop dp un gd cn cs L a ccd cl outer) (s := ⟨h, gn, dr, tk, os⟩) (R := fun _ _ => True) (env := envX cn cs L a ccd cl) B F N rfl rfl hck
  refine codeAny_call_def (fd := fnX name qual params body scope [] dV kV doc pm an cdv ct) (body := body) (binds := binds) (by show dp < recursionLimit; omega) (XS _ _ ho) rfl (T.nolimit.keeps F.keep) (codeRec_of XS hcd) rfl (hbind ⟨h, gn, dr, tk, os⟩ XS) hcell hloc (fun h₁ hns hk₁ => ?_) hco hgen hk
  have KG : Kept h (hideAll h (core.map (·.1))) core := fun b o e nm => hideAll_get _ e nm
  have F₁ : Fr (hideAll h (core.map (·.1))) h.objs.size h₁ (fun y => binds.reverse.lookup y) := ⟨hns, fun b o e => hk₁ b o (of_hideAll _ e), Nat.le_of_eq (hideAll_size _ _)⟩
  have N₁ : News (hideAll h (core.map (·.1))) h.objs.size h₁ core := fun p hp => ⟨hk₁ _ _ (N p hp).1, Nat.ne_of_lt (Heap.lt_size (N p hp).1), hideAll_none _ (List.mem_map_of_mem hp)⟩
  obtain ⟨oL, es, ep, hL, hLd, hLk, hLf⟩ := FG.ns
  have fin : ∀ core' (h' : Heap) m', Fr (hideAll h (core.map (·.1))) h.objs.size h' m' → News (hideAll h (core.map (·.1))) h.objs.size h' core' → Fr h₀ L h' m ∧ News h₀ L h' core' ∧ Kept h h' core := fun core' h' m' F' N' =>
    ⟨⟨⟨oL, es, ep, F'.keep L oL hL, hLd, hLk, hLf⟩, fun b o e => F'.keep b o (st b o e), F.above⟩,
      fun p hp => ⟨(N' p hp).1, fun q => (by have := (N' p hp).2.2; rw [q, hL] at this; cases this), (by
        cases q : h₀.get? p.1 with
        | none => rfl
        | some o => have := (N' p hp).2.2; rw [st _ _ q] at this; cases this)⟩,
      fun b o e nm => F'.keep b o (KG b o e nm)⟩
  have src : ∀ {core' : Core} {h' : Heap}, News (hideAll h (core.map (·.1))) h.objs.size h' core' → ∀ q ∈ core', q.1 ∈ core.map (·.1) ∨ h.get? q.1 = none := fun N' q hq => by
    by_cases hm : q.1 ∈ core.map (·.1)
    · exact .inl hm
    · cases z : h.get? q.1 with
      | none => exact .inr rfl
      | some o => have y := (N' q hq).2.2; rw [KG _ _ z hm] at y; cases y
  refine hb (dp + 1) (un + 3) gd (envX cn cs L a ccd cl :: outer) _ base _ h.objs.size h₁ gn dr (tk + binds.length) os _ _ BG F₁ (X.keeps st) N₁ (T.keeps st) (by omega) (by omega) (fun p hp => Heap.lt_size (N p hp).1) PassesOwn.leaving ?_ ?_ ?_ ?_
  · intro v m' core' h' tk' r F' N'
    obtain ⟨a1, a2, a3⟩ := fin core' h' m' F' N'
    exact hret v core' h' tk' r a1 a2 a3 (src N')
  · intro m' core' h' tk' r F' N'
    obtain ⟨a1, a2, a3⟩ := fin core' h' m' F' N'
    exact hret .none core' h' tk' r a1 a2 a3 (src N')
  · intro e m' core' g₂ h' tk' r F' R hsm
    exact r.elim
  · intro e m' core' h' h'' tk' r F' N' hx
    exact r.elim
/-- Matcher(text, pattern), its __init__ by contract -/
theorem matcher_of {w : World} {mean : ExcName → Option Value} {mg mb : Str → Option Value} {tx pt : Array UInt8} {t1 t2 : Tok} {full : Core}
    (C : ∀ {x dx : Addr}, @Ne Nat x dx → CtrK w mean mg mb 112 [.ref x, .bytes tx t1, .bytes pt t2] 2 [(x, instObj 253 dx), (dx, emptyDict)] (fun v core' => v = .none ∧ ∃ c, c.tx = tx ∧ c.pt = patF pt ∧ MC w c x dx 0 ⟨0, [], []⟩ core'))
    {dp un : Nat} {gd : Option (List Code)} {cn : Str} {cs : Scope} {a : Addr} {ccd : Value} {cl : List (Str × Addr)} {outer : List Env} {A₀ : Around} {base h₀ : Heap} {L : Addr} {m : Str → Option Value} {h : Heap} {gn : Array GenState} {dr : Drawn} {tk : Nat} {os : OsState} {Q E : Value → Shared → Prop}
    (B : Below A₀ base outer h₀) (F : Fr h₀ L h m) (X : (hd.heap_1 w.params).In h₀) (N : News h₀ L h full) (T : Top view39 (looseW view39 []) mean mg mb h₀) (hk : cs.kind = .function) (hdp : dp + 4 < recursionLimit) (hun : un + 30 < cLine)
    (hq : ∀ x dx c core' h' tk', @Ne Nat x dx → c.tx = tx → c.pt = patF pt → MC w c x dx 0 ⟨0, [], []⟩ core' → Fr h₀ L h' m → News h₀ L h' (core' ++ full) → (∀ q ∈ core', ∀ p ∈ full, q.1 ≠ p.1) → Q (.ref x) ⟨h', gn, dr, tk', os⟩) :
    wpAny (model PySem.Challenge.rw_sm0059_01.row.prog w) (ktrTop dp un gd cn cs L a ccd cl outer) (call (.ref 253) [.bytes tx t1, .bytes pt t2]) Q E ⟨h, gn, dr, tk, os⟩ := by
  have XS := X.keeps F.keep
  refine wpAny_call ?_
  refine make_K (K := hd.heap_1 w.params) (C := 253) (fI := 112) F N XS (by kernel_rfl) (by kernel_rfl) (by kernel_rfl) ?_
  intro x dx h1 F1 N1 hlt hxd
  have hne : @Ne Nat x dx := Nat.ne_of_gt hxd
  have h3 : ∀ p ∈ full, p.1 ∉ [(x, instObj 253 dx), (dx, emptyDict)].map (·.1) := fun p hp z => by
    have := hlt p hp
    rcases List.mem_cons.mp z with z | z
    · rw [z] at this; exact absurd this (Nat.not_lt.mpr (Nat.le_of_lt hxd))
    · rw [List.mem_singleton.mp z] at this; exact Nat.lt_irrefl _ this
  show codeAny _ (ktrTop (dp + 1) (un + 1) gd cn cs L a ccd cl outer) _ _ _
  refine codeAny_mono (C hne (dp + 1) (un + 1) gd cn cs a ccd cl outer A₀ base h₀ L m h1 gn dr tk os (fun v s' => v = .none ∧ Q (.ref x) s') E B F1 X (cb_drop N1 fun q hq => ?_) T hk (by omega) (by omega) ?_) fun r s' z => ?_
  · rcases List.mem_cons.mp hq with rfl | hq
    · exact .head _
    · rw [List.mem_singleton.mp hq]; exact .tail _ (.head _)
  · rintro v core' h' tk' ⟨rfl, c, e1, e2, M⟩ F' N' k z
    refine ⟨rfl, hq x dx c core' h' tk' hne e1 e2 M F' (fun p hp => ?_) fun q hq p hp e => ?_⟩
    · rcases List.mem_append.mp hp with hp | hp
      · exact N' p hp
      · have y := N1 p (.tail _ (.tail _ hp))
        exact ⟨k _ _ y.1 (h3 p hp), y.2⟩
    · rcases z q hq with y | y
      · exact h3 p hp (e ▸ y)
      · rw [e, (N1 p (.tail _ (.tail _ hp))).1] at y; cases y
  · rcases r with e | (v | _ | _ | _) <;> exact z
end
-- M10k
theorem freshM10k : True := by w_top off; trivial
section
variable {w : World} {mean : ExcName → Option Value} {mg mb : Str → Option Value} {x dx : Addr} {c : Cf} {dep : Int} {core : Core} {txt pat : List Int}
set_option maxHeartbeats 16000000
theorem initK_ok {tx pt : Array UInt8} {t1 t2 : Tok} {qs : List Int} (hxd : @Ne Nat x dx) (hp : KBw.bInts pt = qs) (lp : qs.length ≤ 1000) : CtrK w mean mg mb 112 [.ref x, .bytes tx t1, .bytes pt t2] 2 [(x, instObj 253 dx), (dx, emptyDict)] (fun v core' => v = .none ∧ ∃ c, c.tx = tx ∧ c.pt = patF pt ∧ MC w c x dx 0 ⟨0, [], []⟩ core') := by
  refine' ctrK_of_body (binds := [("self", .ref x), ("text", .bytes tx t1), ("pattern", .bytes pt t2), ("depth", .int 60 332), ("tick", .none)]) ?ho ?hcd ?hbind ?hloc ?hcell ?hco ?hgen ?hk ?hb
  case ho => k_is
  case hcd => k_is
  case hbind => exact fun s X => BindsTo.of_defaults rfl (X 105 _ (by k_is)) rfl rfl rfl
  case hloc => exact locs rfl
  case hcell => decide
  case hco => exact rfl
  case hgen => exact rfl
  case hk => exact rfl
  unfold Body
  intro dp un gd outer A₀ base g L h gn dr tk os Q E B F X N T hdp hun hlt hE hret hnext hpass hnew
  try dsimp only

  k_steps
  all_goals (
    obtain ⟨core', N', M'⟩ := mc_new (w := w) (x := x) (dx := dx) (c := Cf.mk _ _ _ _ _ _ _ _ _ _ _ _ _) (n1 := _) (n2 := _) (td := _) (tl := _) (l1 := _) (l2 := _) (by k_asm) (by k_mem) (by k_mem) (by k_mem) (by k_mem) (by k_ne) (by k_ne) (by k_ne) (by k_ne) (by k_ne) (by k_ne)
    refine hnext _ core' _ _ ⟨rfl, _, ?_, ?_, M'⟩ (by k_asm) N'
    · rfl
    · first | exact (if_pos (by assumption : findF _ _ < 0)).symm | exact (if_neg (by assumption : ¬ findF _ _ < 0)).symm)
end
-- Lp
theorem freshLp : True := by w_top off; trivial
section
open PySem.Calls PySem.Spec
section
variable {prog : Program} {w : World} {A : Around} {E : Value → Shared → Prop} {s : Shared} {h₀ : Heap} {L : Addr} {m : Str → Option Value} {env : Env}
inductive TEnd (h₀ : Heap) (L : Addr) (m : Str → Option Value) (s : Shared) (I : Addr) (oI : Obj) (C : Addr) (oC : Obj) (D : Addr) (ys : List Value) (Inv : List Value → Core → Prop) (y : Value) (s₂ : Shared) : Prop
  | mk : ∀ h' tk' news', (s₂ = { s with heap := h', toks := tk' }) → (Fr h₀ L h' m) → (News h₀ L h' ((I, oI) :: (C, oC) :: (D, LCg.lst ys) :: news')) → (LCg.Off3 I C D news') → (Inv (ys ++ [y]) news') → TEnd h₀ L m s I oI C oC D ys Inv y s₂
/-- one element of a block over a range; what it turns of the ledger is told by Inv -/
noncomputable def TurnL (prog : Program) (w : World) (A : Around) (h₀ : Heap) (L : Addr) (m : Str → Option Value) (env : Env) (elt : Expr) (x : Str) (scope : Scope) (cl : List (Str × Addr)) (s : Shared) (a : Int) (n : Nat) (Inv : List Value → Core → Prop) : Prop :=
  ∀ (t : Tok) (I : Addr) (oI : Obj) (C : Addr) (oC : Obj) (D : Addr) (m₂ : Str → Option Value) (h : Heap) (tk : Nat) (E' : Value → Shared → Prop) (ys : List Value) (news : Core), ys.length < n → Inv ys news → LCg.NsObj oC m₂ → m₂ x = some (.int (a + (ys.length : Int)) t) →
    Fr h₀ L h m → News h₀ L h ((I, oI) :: (C, oC) :: (D, LCg.lst ys) :: news) → LCg.Off3 I C D news → ((@Ne Nat I C) ∧ (@Ne Nat I D) ∧ (@Ne Nat C D)) →
    wpAny (model prog w) A (eval elt (compEnvC scope cl C env)) (TEnd h₀ L m s I oI C oC D ys Inv) E' { s with heap := h, toks := tk }
theorem rest_inv {elt : Expr} {x : Str} {scope : Scope} {cl : List (Str × Addr)} {a : Int} {n : Nat} {Inv : List Value → Core → Prop} {Fin : List Value → Core → Prop}
    (T : TurnL prog w A h₀ L m env elt x scope cl s a n Inv) (fin : ∀ ys news, ys.length = n → Inv ys news → Fin ys news) :
    ∀ (k : Nat) {ys : List Value} {news : Core}, ys.length + k = n → Inv ys news → LCg.CompRest prog w A h₀ L m env elt x scope cl s (fun _ => True) (fun i v => ∃ t, v = .int (a + (i : Int)) t) Fin k ys.length ys news
  | 0, ys, news, e, hi => fin ys news e hi
  | k + 1, ys, news, e, hi => by
    refine LCg.CompRest.succ ?_
    rintro v I oI C oC D m₂ h tk E' ⟨t, rfl⟩ hC hx F N off ne
    refine wpAny_mono (T t I oI C oC D m₂ h tk E' ys news (by omega) hi hC hx F N off ne) (fun y s₂ hy => ?_) fun _ _ e => e
    obtain ⟨h', tk', news', rfl, F', N', off', hi'⟩ := hy
    refine ⟨h', tk', news', rfl, F', N', off', trivial, ?_⟩
    have := rest_inv T fin k (ys := ys ++ [y]) (news := news') (by rw [List.length_append, List.length_singleton]; omega) hi'
    rwa [List.length_append, List.length_singleton] at this
/-- the range of a block, and what its turns do -/
inductive LSrc (prog : Program) (w : World) (A : Around) (h₀ : Heap) (L : Addr) (m : Str → Option Value) (env : Env) (elt : Expr) (x : Str) (scope : Scope) (cl : List (Str × Addr)) (Q : Value → Shared → Prop) (xv : Value) (s₁ : Shared) : Prop
  | mk : ∀ (r : Addr) (a b : Int) (t u v : Tok) (n : Nat) (news : Core) (Inv : List Value → Core → Prop), (xv = .ref r) → (Fr h₀ L s₁.heap m) → (News h₀ L s₁.heap news) → (IsRange s₁.heap r a b 1 t u v) → (Builtin.Range.small a b 1 = true) → (Builtin.Range.rangeSize a b 1 = ((n : Nat) : Int)) → (n ≤ sizeLine) → (Inv [] news) → ((∀ g : Heap, TurnL prog w A h₀ L m env elt x scope cl { s₁ with heap := g } a n Inv)) → ((∀ ys news' D h tk, ys.length = n → Inv ys news' → Fr h₀ L h m → News h₀ L h ((D, LCg.lst ys) :: news') → LCg.Off1 D news' → Q (.ref D) { s₁ with heap := h, toks := tk })) → LSrc prog w A h₀ L m env elt x scope cl Q xv s₁
theorem ListComp_L {elt iter : Expr} {x : Str} {px : Pos} {scope : Scope} {cl : List (Str × Addr)} {pos : Pos} {Q : Value → Shared → Prop} (F₀ : Fr h₀ L s.heap m)
    (hclos : closureFor scope env = pure cl) (hcell : ∀ y ∈ scope.names, y.2 ≠ .cell) (hkind : scope.kind = .function)
    (hnames : ∀ y ∈ scope.names, y.2 = .local → scope.names.lookup y.1 = some .local) (hx : scope.names.lookup x = some .local) (hh : A.handled = none)
    (h : wpAny (model prog w) A (eval iter env) (LSrc prog w A h₀ L m env elt x scope cl Q) E s)
    (hs : ∀ x, foldedSetIterable iter env x = pure x := by intro _; rfl) :
    wpAny (model prog w) A (eval (.ListComp elt [⟨.Name x px, iter, [], 0⟩] scope pos) env) Q E s := by
  refine LCg.ListComp_U F₀ hclos hcell hkind hnames hx (wpAny_mono h (fun xv s₁ h₁ => ?_) fun _ _ e => e) hs
  obtain ⟨r, a, b, t, u, v, n, news, Inv, rfl, F, N, hr, hsm, hn, hsz, hi, T, fin⟩ := h₁
  refine LCg.CompSrc.range hh F N hr hsm hn hsz fun g => ?_
  exact rest_inv (T g) (fun ys news' e hi' D h tk F' N' off => fin ys news' D h tk e hi' F' N' off) n (ys := []) (by simp) hi
end
section
variable {prog : Program} {w : World} {A : Around} {s : Shared} {env : Env}
/-- what holds behind a turn of a loop -/
inductive LMid (h₀ : Heap) (L I : Addr) (oI : Obj) (s₁ : Shared) (J : (Str → Option Value) → Core → Prop) (s' : Shared) : Prop
  | mk : ∀ h' tk' m' news', (s' = { s₁ with heap := h', toks := tk' }) → (Fr h₀ L h' m') → (News h₀ L h' ((I, oI) :: news')) → ((∀ p ∈ news', p.1 ≠ I)) → (J m' news') → LMid h₀ L I oI s₁ J s'
/-- a loop over a range: its turns by an invariant of the frame and of the ledger -/
inductive FSrc (prog : Program) (w : World) (A : Around) (h₀ : Heap) (env : Env) (x : Str) (body : List Stmt) (Q : Flow → Shared → Prop) (E : Value → Shared → Prop) (xv : Value) (s₁ : Shared) : Prop
  | mk : ∀ (r : Addr) (a b : Int) (t u v : Tok) (n : Nat) (m : Str → Option Value) (news : Core) (J : Nat → (Str → Option Value) → Core → Prop), (xv = .ref r) → (Fr h₀ env.locals s₁.heap m) → (News h₀ env.locals s₁.heap news) → (IsRange s₁.heap r a b 1 t u v) → (Builtin.Range.small a b 1 = true) → (Builtin.Range.rangeSize a b 1 = ((n : Nat) : Int)) → (J 0 m news) → ((∀ (i : Nat) (t : Tok) (m₁ : Str → Option Value) (news₁ : Core) (h : Heap) (tk : Nat) (I : Addr) (oI : Obj), i < n → J i m₁ news₁ → (∀ p ∈ news₁, p.1 ≠ I) → Fr h₀ env.locals h (fun y => if y = x then some (.int (a + (i : Int)) t) else m₁ y) → News h₀ env.locals h ((I, oI) :: news₁) →       wpAny (model prog w) A (execs body env) (CutQ (LMid h₀ env.locals I oI s₁ (J (i + 1))) fun f s' => ∃ v, f = .ret v ∧ Q (.ret v) s') E { s₁ with heap := h, toks := tk })) → ((∀ h tk m' news', Fr h₀ env.locals h m' → News h₀ env.locals h news' → J n m' news' → Q .next { s₁ with heap := h, toks := tk })) → FSrc prog w A h₀ env x body Q E xv s₁
theorem For_L {E : Value → Shared → Prop} {Q : Flow → Shared → Prop} {x : Str} {px pos : Pos} {iter : Expr} {body : List Stmt} (h₀ : Heap) (hx : env.kindOf x = some .local)
    (hp : (env.scope.kind == .class || (env.scope.kind == .module && env.locals != env.globals)) = false) (hh : A.handled = none)
    (hE : PassesOwn (model prog w) A env E)
    (h : wpAny (model prog w) A (eval iter env) (FSrc prog w A h₀ env x body Q E) E s)
    (hs : ∀ x, foldedSetIterable iter env x = pure x := by intro _; rfl) :
    wpAny (model prog w) A (exec (.For (.Name x px) iter body [] pos) env) Q E s := by
  refine For_invV h₀ hx hp (wpAny_mono h (fun xv s₁ h₁ => ?_) fun _ _ e => e) hs hE
  obtain ⟨r, a, b, t, u, v, n, m, news, J, rfl, F, N, hr, hsm, hn, hj, turn, fin⟩ := h₁
  refine wpAny_pyIter_range hr hsm ?_
  have up : ∀ (o : Obj) b o', s₁.heap.get? b = some o' → (s₁.heap.push o).get? b = some o' := fun _ b o e => Heap.get?_push_of_some _ e
  refine ⟨s₁.heap.objs.size, [s₁.heap.objs.size], [s₁.heap.objs.size], n, _, _, m, news, J, rfl, LCg.range_walks hh a n, ?_, ?_, ?_, ?_, F.keeps (up _), N.grown (up _), hj, ?_, ?_⟩
  · intro hm
    exact Nat.ne_of_lt F.ns.lt (List.mem_singleton.mp hm)
  · intro b hb
    rw [List.mem_singleton.mp hb]
    exact next_is_new F
  · intro p hp hI
    exact absurd (Heap.lt_size (N p hp).1) ((List.mem_singleton.mp hI) ▸ Nat.lt_irrefl _)
  · show IsRangeIter _ _ _ _ _
    rw [hn]
    simpa using Heap.get?_push_size _ rfl
  · rintro i v m₁ news₁ s₂ own ⟨h, tk, rfl⟩ hi ⟨t', rfl⟩ hJ hoff hown hat hall hst F₁ N₁
    obtain ⟨oI, hst', mI⟩ : ∃ oI, h.get? s₁.heap.objs.size = some oI ∧ (s₁.heap.objs.size, oI) ∈ own := ⟨_, hst, hall _ (.head _) (next_is_new F) _ hst⟩
    refine wpAny_mono (turn i t' m₁ news₁ h tk s₁.heap.objs.size oI hi hJ (fun p hp z => hoff p hp (by rw [z]; exact .head _)) F₁ (fun p hp => N₁ p ?_)) (fun f s₃ h₃ => ?_) fun _ _ e => e
    · rcases List.mem_cons.mp hp with rfl | hp
      · exact List.mem_append_left _ mI
      · exact List.mem_append_right _ hp
    · cases h₃ with
      | next hm =>
        obtain ⟨h', tk', m', news', rfl, F', N', off', hJ'⟩ := hm
        refine LoopStepV.next ⟨rfl, h', tk', m', news', rfl, F', fun p hp => ?_, fun p hp z => off' p hp (List.mem_singleton.mp z), hJ'⟩
        rcases List.mem_append.mp hp with hp | hp
        · have e1 := List.mem_singleton.mp (hown p hp)
          have e2 := hat p hp
          obtain ⟨pa, po⟩ := p
          dsimp only at e1 e2
          subst e1
          have e3 := hst'.symm.trans e2
          cases e3
          exact N' _ (.head _)
        · exact N' p (.tail _ hp)
      | ret hq => obtain ⟨v, e, q⟩ := hq; cases e; exact LoopStepV.ret q
      | brk hq => obtain ⟨v, e, q⟩ := hq; cases e
      | cont hq => obtain ⟨v, e, q⟩ := hq; cases e
  · intro h' tk m' news' F' N' _ hJ
    exact fin h' tk m' news' F' N' hJ
end
end
-- Lt
theorem freshLt : True := by w_top off; trivial
section
open PySem.Calls PySem.Spec
section
variable {w : World} {mean : ExcName → Option Value} {mg mb : Str → Option Value} {f : Addr} {vs : List Value} {d : Nat} {core : Core} {Ret : Value → Core → Prop}
/-- a call that turns a part of the ledger and leaves K as it stood; keep: what of its part it hands back as it stood -/
theorem Ctr.useK {full K keep : Core} (C : Ctr w mean mg mb f vs d core Ret fun _ => False) {dp un : Nat} {gd : Option (List Code)} {cn : Str} {cs : Scope} {a : Addr} {ccd : Value} {cl : List (Str × Addr)} {outer : List Env} {A₀ : Around} {base h₀ : Heap} {L : Addr} {m : Str → Option Value} {h : Heap} {gn : Array GenState} {dr : Drawn} {tk : Nat} {os : OsState} {Q E : Value → Shared → Prop}
    (B : Below A₀ base outer h₀) (F : Fr h₀ L h m) (X : (hd.heap_1 w.params).In h₀) (N : News h₀ L h full) (T : Top view39 (looseW view39 []) mean mg mb h₀) (hk : cs.kind = .function) (hd : dp + d + 1 < recursionLimit) (hu : un + 8 * (d + 1) < cLine)
    (h1 : ∀ q ∈ core, q ∈ full) (h2 : ∀ q ∈ K, q ∈ full) (hkp : ∀ q ∈ keep, q ∈ full) (h3 : ∀ q ∈ K, q.1 ∈ core.map (·.1) → q.1 ∈ keep.map (·.1)) (h4 : ∀ v c', Ret v c' → ∀ q ∈ keep, q ∈ c')
    (hret : ∀ v core' h' tk', Ret v core' → Fr h₀ L h' m → News h₀ L h' (core' ++ K) → (∀ q ∈ core', q.1 ∈ core.map (·.1) ∨ ∀ p ∈ full, q.1 ≠ p.1) → Q v ⟨h', gn, dr, tk', os⟩) :
    wpAny (model PySem.Challenge.rw_sm0059_01.row.prog w) (ktrTop dp un gd cn cs L a ccd cl outer) (call (.ref f) vs) Q E ⟨h, gn, dr, tk, os⟩ := by
  refine Ctr.use C B F X (cb_drop N h1) T hk hd hu ?_ fun _ _ _ _ _ hf => hf.elim
  intro v core' h' tk' r' F' N' k z
  refine hret v core' h' tk' r' F' (fun p hp => ?_) fun q hq => ?_
  · rcases List.mem_append.mp hp with hp | hp
    · exact N' p hp
    · have y := N p (h2 p hp)
      by_cases hm : p.1 ∈ core.map (·.1)
      · obtain ⟨q, hq, e⟩ := List.mem_map.mp (h3 p hp hm)
        have yq := N q (hkp q hq)
        have e2 : p = q := by
          obtain ⟨p1, p2⟩ := p
          obtain ⟨q1, q2⟩ := q
          dsimp only at e y yq
          subst e
          rw [Option.some.inj (y.1.symm.trans yq.1)]
        exact N' p (e2 ▸ h4 v core' r' q hq)
      · exact ⟨k _ _ y.1 hm, y.2⟩
  · rcases z q hq with y | y
    · exact .inl y
    · exact .inr fun p hp e => by rw [e, (N p hp).1] at y; cases y
theorem CtrT.useK {full K keep : Core} {ak : Addr} {its : Array Value} (C : CtrT w mean mg mb f vs d ak its core Ret) {dp un : Nat} {gd : Option (List Code)} {cn : Str} {cs : Scope} {a : Addr} {ccd : Value} {cl : List (Str × Addr)} {A₀ : Around} {h₀ : Heap} {L : Addr} {m : Str → Option Value} {h : Heap} {gn : Array GenState} {dr : Drawn} {tk : Nat} {os : OsState} {Q E : Value → Shared → Prop}
    (B : Below A₀ h₀ [] h₀) (F : Fr h₀ L h m) (X : (hd.heap_1 w.params).In h₀) (N : News h₀ L h full) (T : Top view39 (looseW view39 []) mean mg mb h₀) (hk : cs.kind = .function) (hd : dp + d + 1 < recursionLimit) (hu : un + 8 * (d + 1) < cLine)
    (h1 : ∀ q ∈ core, q ∈ full) (h2 : ∀ q ∈ K, q ∈ full) (hkp : ∀ q ∈ keep, q ∈ full) (h3 : ∀ q ∈ K, q.1 ∈ core.map (·.1) → q.1 ∈ keep.map (·.1)) (h4 : ∀ v c', Ret v c' → ∀ q ∈ keep, q ∈ c')
    {oa : Obj} (ha : (ak, oa) ∈ full) (han : ak ∉ core.map (·.1)) (ht : ∀ g : Heap, g.get? ak = some oa → IsTup g ak its)
    (hret : ∀ v core' h' tk', Ret v core' → Fr h₀ L h' m → News h₀ L h' (core' ++ K) → (∀ q ∈ core', q.1 ∈ core.map (·.1) ∨ ∀ p ∈ full, q.1 ≠ p.1) → Q v ⟨h', gn, dr, tk', os⟩) :
    wpAny (model PySem.Challenge.rw_sm0059_01.row.prog w) (ktrTop dp un gd cn cs L a ccd cl []) (call (.ref f) vs) Q E ⟨h, gn, dr, tk, os⟩ := by
  have na := N _ ha
  refine C dp un gd cn cs a ccd cl A₀ h₀ L m h gn dr tk os Q E B F X (cb_drop N h1) T hk hd hu (ht h na.1) han na.2.1 ?_
  intro v core' h' tk' r' F' N' k z
  refine hret v core' h' tk' r' F' (fun p hp => ?_) fun q hq => ?_
  · rcases List.mem_append.mp hp with hp | hp
    · exact N' p hp
    · have y := N p (h2 p hp)
      by_cases hm : p.1 ∈ core.map (·.1)
      · obtain ⟨q, hq, e⟩ := List.mem_map.mp (h3 p hp hm)
        have yq := N q (hkp q hq)
        have e2 : p = q := by
          obtain ⟨p1, p2⟩ := p
          obtain ⟨q1, q2⟩ := q
          dsimp only at e y yq
          subst e
          rw [Option.some.inj (y.1.symm.trans yq.1)]
        exact N' p (e2 ▸ h4 v core' r' q hq)
      · exact ⟨k _ _ y.1 hm y.2.1, y.2⟩
  · rcases z q hq with y | y
    · exact .inl y
    · exact .inr fun p hp e => by rw [e, (N p hp).1] at y; cases y
end
section
variable {w : World} {mean : ExcName → Option Value} {mg mb : Str → Option Value}
  {dp un : Nat} {gd : Option (List Code)} {cn : Str} {cs : Scope} {a : Addr} {ccd : Value} {cel : List (Str × Addr)} {outer : List Env} {A₀ : Around} {base h₀ : Heap} {L : Addr} {m : Str → Option Value} {h : Heap} {gn : Array GenState} {dr : Drawn} {tk : Nat} {os : OsState} {Q E : Value → Shared → Prop}
  {full K : Core} {dl cl x dx ak : Addr} {t many : Int} {td tm : Tok} {n n2 : Nat} {ws : List Value} {ns : List Int}
/-- a cell is drawn from the drain -/
theorem trk (hc : (cl, listOf ws.toArray n2) ∈ K) (hm : (dl, drO cl t td n) ∈ full) (hK : ∀ q ∈ K, q ∈ full) (hne : ∀ q ∈ K, q.1 ≠ dl) (hi : IntsAre ws ns) (hl : ns.length ≤ 40)
    (h0 : 0 ≤ t) (h1 : t ≤ 1000) (m1 : 1 ≤ many) (m2 : many ≤ 100)
    (B : Below A₀ base outer h₀) (F : Fr h₀ L h m) (X : (hd.heap_1 w.params).In h₀) (N : News h₀ L h full) (T : Top view39 (looseW view39 []) mean mg mb h₀) (hk : cs.kind = .function) (hdp : dp + 3 < recursionLimit) (hun : un + 24 < cLine)
    (hret : ∀ r rt td' h' tk', 0 ≤ r → r < many → Fr h₀ L h' m → News h₀ L h' ((dl, drO cl (t + 1) td' n) :: K) → Q (.int r rt) ⟨h', gn, dr, tk', os⟩) :
    wpAny (model PySem.Challenge.rw_sm0059_01.row.prog w) (ktrTop dp un gd cn cs L a ccd cel outer) (call (.ref 264) [.ref dl, .int many tm]) Q E ⟨h, gn, dr, tk, os⟩ := by
  have hd : @Ne Nat dl cl := fun e => hne _ hc e.symm
  refine Ctr.useK (K := K) (keep := [(cl, listOf ws.toArray n2)]) (trickled_ok (tk := td) (n := n) (n2 := n2) hd hi hl h0 h1 m1 m2) B F X N T hk (by omega) (by omega) (fun q hq => ?_) hK (fun q hq => ?_) (fun q hq z => ?_) ?_ ?_
  · rcases List.mem_cons.mp hq with rfl | hq
    · exact hm
    · rw [List.mem_singleton.mp hq]; exact hK _ hc
  · rw [List.mem_singleton.mp hq]; exact hK _ hc
  · rcases List.mem_cons.mp z with z | z
    · exact absurd z (hne q hq)
    · exact z
  · rintro v c' ⟨r, rt, tk', rfl, r0, r1, rfl⟩ q hq
    rw [List.mem_singleton.mp hq]; exact .tail _ (.head _)
  · rintro v c' h' tk' ⟨r, rt, tk', rfl, r0, r1, rfl⟩ F' N' -
    exact hret r rt tk' h' _ r0 r1 F' fun p hp => N' p (by
      rcases List.mem_cons.mp hp with rfl | hp
      · exact .head _
      · exact List.mem_append_right _ hp)
variable {c : Cf} {txt pat : List Int} {dep lev : Int} {tdp tl : Tok} {l1 l2 : Addr} {kind place : Int} {b : Bool} {t1 t2 tf : Tok} {oa : Obj}
/-- an asking of a matcher -/
theorem ask (O : CfOk c txt pat) (lp : pat.length ≤ 25) (hxd : @Ne Nat x dx) (s0 : 0 ≤ place) (s1 : place ≤ (txt.length : Int))
    (mx : (x, instObj 253 dx) ∈ full) (md : (dx, MD w c dep tdp lev tl l1 l2) ∈ full) (hK : ∀ q ∈ K, q ∈ full) (hne : ∀ q ∈ K, q.1 ≠ dx) (ha : (ak, oa) ∈ full) (hax : @Ne Nat ak x) (had : @Ne Nat ak dx) (ht : ∀ g : Heap, g.get? ak = some oa → IsTup g ak (askO kind place b t1 t2))
    (B : Below A₀ h₀ [] h₀) (F : Fr h₀ L h m) (X : (hd.heap_1 w.params).In h₀) (N : News h₀ L h full) (T : Top view39 (looseW view39 []) mean mg mb h₀) (hk : cs.kind = .function) (hdp : dp + 200 < recursionLimit) (hun : un + 1600 < cLine)
    (hret : ∀ v core' h' tk' dep' tdp' lev' tl' l1' l2', DatIn core' v (ansF c.tx txt pat kind place b) → (x, instObj 253 dx) ∈ core' → (dx, MD w c dep' tdp' lev' tl' l1' l2') ∈ core' → Fr h₀ L h' m → News h₀ L h' (core' ++ K) → (∀ q ∈ core', q.1 = x ∨ q.1 = dx ∨ ∀ p ∈ full, q.1 ≠ p.1) → Q v ⟨h', gn, dr, tk', os⟩) :
    wpAny (model PySem.Challenge.rw_sm0059_01.row.prog w) (ktrTop dp un gd cn cs L a ccd cel []) (call (.ref 271) [.ref x, .ref ak, .int 0 tf]) Q E ⟨h, gn, dr, tk, os⟩ := by
  refine CtrT.useK (K := K) (keep := [(x, instObj 253 dx)]) (answer_ok (td := tdp) (tl := tl) (lev := lev) (l1 := l1) (l2 := l2) (dep := dep) (t1 := t1) (t2 := t2) O hxd s0 s1) B F X N T hk (by omega) (by omega) (fun q hq => ?_) hK (fun q hq => ?_) (fun q hq z => ?_) ?_ ha ?_ ht ?_
  · rcases List.mem_cons.mp hq with rfl | hq
    · exact mx
    · rw [List.mem_singleton.mp hq]; exact md
  · rw [List.mem_singleton.mp hq]; exact mx
  · rcases List.mem_cons.mp z with z | z
    · exact z ▸ .head _
    · exact absurd (List.mem_singleton.mp z) (hne q hq)
  · rintro v c' ⟨-, dep', td', lev', tl', l1', l2', m1, m2⟩ q hq
    rw [List.mem_singleton.mp hq]; exact m1
  · intro z
    rcases List.mem_cons.mp z with z | z
    · exact hax z
    · exact had (List.mem_singleton.mp z)
  · rintro v c' h' tk' ⟨hd', dep', td', lev', tl', l1', l2', m1, m2⟩ F' N' z
    refine hret v c' h' tk' dep' td' lev' tl' l1' l2' hd' m1 m2 F' N' fun q hq => ?_
    rcases z q hq with y | y
    · rcases List.mem_cons.mp y with y | y
      · exact .inl y
      · exact .inr (.inl (List.mem_singleton.mp y))
    · exact .inr (.inr y)
end
end
-- L1
theorem freshL1 : True := by w_top off; trivial
local macro_rules | `(tactic| walk_at "eval Name") => `(tactic| (k_here; k_dflt (refine nameX_C (by k_asm) (by rfl) (by first | assumption | k_mem | exact List.Mem.tail _ (by assumption)) (by assumption) ?_)))
local macro_rules | `(tactic| walk_at "call type:bytes") => `(tactic| (k_here; (with_reducible show wpAny _ _ (call (Value.type "bytes") [Value.ref _]) _ _ _); k_dflt (refine' KBa.make_K ?kbaF ?kbaN ?kbah ?kbal ?kbai ?kbar ?kban ?_; (case kbaF => k_asm); (case kbaN => k_asm); (case kbah => rfl); (case kbal => exact News.isList (by k_asm) (by k_mem)); (case kbai => assumption); (case kbar => assumption); (case kban => omega)); intro h' t' k' F' N' kbaIn))
local macro_rules | `(tactic| walk_at "call ref") => `(tactic| (k_here; (with_reducible show wpAny _ _ (call (Value.ref 264) _) _ _ _); k_dflt (refine' trk ?kc ?km ?kK ?kne ?ki ?kl ?k0 ?k1 ?k2 ?k3 ?kB ?kF ?kX ?kN ?kT ?kk ?kd ?ku ?_; (case kB => assumption); (case kF => k_asm); (case kX => assumption); (case kN => k_asm); (case kT => assumption); (case kk => exact rfl); (case km => first | k_mem | assumption); (case kc => assumption); (case kK => first | assumption | (intro q hq; exact List.Mem.tail _ hq)); (case kne => assumption); (case ki => assumption); (case kl => assumption); (case k0 => omega); (case k1 => omega); (case k2 => omega); (case k3 => omega); (case kd => decide); (case ku => decide)); intro r' rt' td' h' tk' r0' r1' F' N'; top_strB))
section
set_option maxHeartbeats 16000000
theorem enter_law {M : Model} {body : List Stmt} {name : Str} {scope : Scope} {L a : Addr} {cd : Value} {Q : Flow → Shared → Prop} {E : Value → Shared → Prop} {s : Shared}
    (h : wpAny M (ktrTop (2 + claimMargin) 7 (some []) name scope L a cd (cellsFrom (L + 1) scope.names []) []) (execs body (envX name scope L a cd (cellsFrom (L + 1) scope.names []))) Q E s) :
    wpAny M (callerA.deeper (envOfC name scope L a cd)) (execs body (envOfC name scope L a cd)) Q E s := h
/-- behind the law's first two statements -/
inductive MidA (s1 : Shared) (ns : List Int) (m1 : Str → Option Value) (s' : Shared) : Prop
  | mk : ∀ (h' : Heap) (tk' : Nat) (pl cl dl : Addr) (o1 o2 : Obj) (pcs ws : List Value) (td : Tok) (K : Core), (s' = ⟨h', s1.gens, s1.drawn, tk', s1.os⟩) → (Fr s1.heap s1.heap.objs.size h' m1) → (News s1.heap s1.heap.objs.size h' ((dl, drO cl 0 td 0) :: K)) → ((cl, listOf ws.toArray 0) ∈ K) → ((pl, listOf pcs.toArray 0) ∈ K) → ((s1.heap.objs.size + 1 + 1, o2) ∈ K) → ((s1.heap.objs.size + 1, o1) ∈ K) → ((∀ q ∈ K, q.1 ≠ dl)) → (o1.data = .cell (some (.ref pl))) → (o2.data = .cell (some (.ref dl))) → (IntsAre ws (ns.take 40)) → (Smalls pcs) → (pcs.length = 16) → MidA s1 ns m1 s'
/-- the ints of the text, as they are drawn -/
inductive InvT (dl cl : Addr) (K : Core) (ys : List Value) (nw : Core) : Prop
  | mk : ∀ (t' : Int) (td' : Tok), (nw = (dl, drO cl t' td' 0) :: K) → (t' = 1 + (ys.length : Int)) → (∀ y ∈ ys, ∃ k u, y = .int k u ∧ 0 ≤ k ∧ k < 256) → InvT dl cl K ys nw
theorem ints_of : ∀ {ys : List Value}, (∀ y ∈ ys, ∃ k u, y = .int k u ∧ 0 ≤ k ∧ k < 256) → ∃ ks, IntsAre ys ks ∧ KBa.In ks ∧ ks.length = ys.length
  | [], _ => ⟨[], .nil, by simp [KBa.In], rfl⟩
  | y :: r, h => by
    obtain ⟨k, u, rfl, h0, h1⟩ := h y (.head _)
    obtain ⟨ks, i, n, l⟩ := ints_of (ys := r) fun z hz => h z (.tail _ hz)
    refine ⟨k :: ks, .cons _ _ i, fun z hz => ?_, by rw [List.length_cons, List.length_cons, l]⟩
    rcases List.mem_cons.mp hz with rfl | hz
    · exact ⟨h0, h1⟩
    · exact n z hz
theorem openT {g h : Heap} {L I C D dl : Addr} {oI oC o : Obj} {ys : List Value} {K : Core} (N : News g L h ((I, oI) :: (C, oC) :: (D, LCg.lst ys) :: (dl, o) :: K)) (off : LCg.Off3 I C D ((dl, o) :: K)) (ndl : ∀ q ∈ K, q.1 ≠ dl) :
    ∃ full KB : Core, News g L h full ∧ (dl, o) ∈ full ∧ (∀ q ∈ KB, q ∈ full) ∧ (∀ q ∈ KB, q.1 ≠ dl) ∧ (∀ q ∈ K, q ∈ KB) ∧ (∀ q ∈ K, q ∈ full) ∧ (C, oC) ∈ full ∧ ∀ (o' : Obj) (h' : Heap), News g L h' ((dl, o') :: KB) → News g L h' ((I, oI) :: (C, oC) :: (D, LCg.lst ys) :: (dl, o') :: K) := by
  have of := off.mem (dl, o) (.head _)
  refine ⟨_, (I, oI) :: (C, oC) :: (D, LCg.lst ys) :: K, N, .tail _ (.tail _ (.tail _ (.head _))), fun q hq => ?_, fun q hq => ?_, fun q hq => .tail _ (.tail _ (.tail _ hq)), fun q hq => .tail _ (.tail _ (.tail _ (.tail _ hq))), .tail _ (.head _), fun o' h' N' => cb_drop N' fun q hq => ?_⟩
  · rcases List.mem_cons.mp hq with rfl | hq
    · exact .head _
    rcases List.mem_cons.mp hq with rfl | hq
    · exact .tail _ (.head _)
    rcases List.mem_cons.mp hq with rfl | hq
    · exact .tail _ (.tail _ (.head _))
    · exact .tail _ (.tail _ (.tail _ (.tail _ hq)))
  · rcases List.mem_cons.mp hq with rfl | hq
    · exact fun e => of.1 e.symm
    rcases List.mem_cons.mp hq with rfl | hq
    · exact fun e => of.2.1 e.symm
    rcases List.mem_cons.mp hq with rfl | hq
    · exact fun e => of.2.2 e.symm
    · exact ndl q hq
  · rcases List.mem_cons.mp hq with rfl | hq
    · exact .tail _ (.head _)
    rcases List.mem_cons.mp hq with rfl | hq
    · exact .tail _ (.tail _ (.head _))
    rcases List.mem_cons.mp hq with rfl | hq
    · exact .tail _ (.tail _ (.tail _ (.head _)))
    rcases List.mem_cons.mp hq with rfl | hq
    · exact .head _
    · exact .tail _ (.tail _ (.tail _ (.tail _ hq)))
/-- behind the making of the text -/
inductive MidB (s1 : Shared) (m1 : Str → Option Value) (dl cl : Addr) (K : Core) (s' : Shared) : Prop
  | mk : ∀ (h' : Heap) (tk' : Nat) (m' : Str → Option Value) (t : Int) (td tt : Tok) (tx : Array UInt8), (s' = ⟨h', s1.gens, s1.drawn, tk', s1.os⟩) → (Fr s1.heap s1.heap.objs.size h' m') → (News s1.heap s1.heap.objs.size h' ((dl, drO cl t td 0) :: K)) → (m' "text" = some (.bytes tx tt)) → (tx.size ≤ 5) → (0 ≤ t) → (t ≤ 6) → MidB s1 m1 dl cl K s'
/-- behind the making of the pattern -/
inductive MidC (s1 : Shared) (m3 : Str → Option Value) (tx : Array UInt8) (tt : Tok) (dl cl : Addr) (K : Core) (s' : Shared) : Prop
  | mk : ∀ (h' : Heap) (tk' : Nat) (m' : Str → Option Value) (t : Int) (td tp : Tok) (pt : Array UInt8), (s' = ⟨h', s1.gens, s1.drawn, tk', s1.os⟩) → (Fr s1.heap s1.heap.objs.size h' m') → (News s1.heap s1.heap.objs.size h' ((dl, drO cl t td 0) :: K)) → (m' "text" = some (.bytes tx tt)) → (m' "pattern" = some (.bytes pt tp)) → (pt.size ≤ 25) → (0 ≤ t) → (t ≤ 12) → MidC s1 m3 tx tt dl cl K s'
/-- the pieces of the pattern, as they are drawn -/
inductive InvP (dl cl : Addr) (t3 : Int) (K : Core) (ys : List Value) (nw : Core) : Prop
  | mk : ∀ (t' : Int) (td' : Tok), (nw = (dl, drO cl t' td' 0) :: K) → (t' = t3 + 1 + (ys.length : Int)) → (Smalls ys) → InvP dl cl t3 K ys nw
theorem piece_at {prog : Program} {w : World} {A : Around} {E : Value → Shared → Prop} {s : Shared} {h₀ : Heap} {L l : Addr} {value slice : PySem.Expr} {vs : List Value} {n : Nat} {k : Int} {u : Tok} {Q : Value → Shared → Prop} {news : Core}
    (N : News h₀ L s.heap news) (hm : (l, listOf vs.toArray n) ∈ news) (hv : Smalls vs) (h0 : 0 ≤ k) (h1 : k < (vs.length : Int)) (h2 : vs.length = 16) (h : ∀ b t, b.size ≤ 5 → Q (.bytes b t) s)
    (hs : subscripted slice false (.ref l) (.int k u) = operate [.ref l, .int k u] (getItem (.ref l) (.int k u))) :
    wpAny (model prog w) A (subscriptTail value slice (.ref l) (.int k u)) Q E s := by
  have hl : s.heap.IsList l vs.toArray := News.isList N hm
  obtain ⟨b, t, e, hb⟩ := hv _ (List.getElem_mem (by omega : k.toNat < vs.length))
  exact tail_any hl.typeIs slot_list_getitem.lookup (wpAny_getItem_list hl h0 (by omega) (by simpa using List.getElem?_eq_some_iff.mpr ⟨_, e⟩) (h b t hb)) hs
end
local macro_rules | `(tactic| walk_at "subscriptTail") => `(tactic| (k_here; (with_reducible show wpAny _ _ (subscriptTail _ _ (Value.ref _) (Value.int _ _)) _ _ _); (with_unfolding_all refine' piece_at ?k1 ?k2 ?k3 ?k4 ?k5 ?k6 ?_ ?k7; (case k1 => k_asm); (case k2 => exact List.Mem.tail _ (by assumption)); (case k3 => assumption); (case k4 => omega); (case k5 => omega); (case k6 => assumption); (case k7 => with_unfolding_all rfl)); intro b' t' hb'))
local macro_rules | `(tactic| walk_at "getMethod bytes") => `(tactic| (k_here; k_dflt (refine join_method ?_)))
local macro_rules | `(tactic| walk_at "call builtin:bytes.join") => `(tactic| (k_here; k_dflt (refine' join_call ?k1 ?k2 ?k3 ?_; (case k1 => exact News.isList (by k_asm) (by k_mem)); (case k2 => assumption); (case k3 => omega)); intro r' t' k' hr'))
section
set_option maxHeartbeats 16000000
theorem patF_size (pt : Array UInt8) : (patF pt).size ≤ pt.size := by
  unfold patF
  split
  · exact Nat.le_refl _
  · exact KBc.size_picked_le _ _ _
/-- behind the making of the matcher -/
inductive MidD (w : World) (s1 : Shared) (tx pt : Array UInt8) (tt tp : Tok) (dl cl : Addr) (t4 : Int) (K : Core) (s' : Shared) : Prop
  | mk : ∀ (h' : Heap) (tk' : Nat) (m' : Str → Option Value) (td : Tok) (x dx : Addr) (c : Cf) (tdp tl : Tok) (l1 l2 : Addr) (K' : Core), (s' = ⟨h', s1.gens, s1.drawn, tk', s1.os⟩) → (Fr s1.heap s1.heap.objs.size h' m') → (News s1.heap s1.heap.objs.size h' ((dl, drO cl t4 td 0) :: (dx, MD w c 0 tdp 0 tl l1 l2) :: K')) → ((∀ q ∈ K, q ∈ K')) → ((x, instObj 253 dx) ∈ K') → ((∀ q ∈ K', q.1 ≠ dl)) → ((∀ q ∈ K', q.1 ≠ dx)) → (@Ne Nat dl dx) → (@Ne Nat x dx) → (c.tx = tx) → (c.pt = patF pt) → (m' "text" = some (.bytes tx tt)) → (m' "pattern" = some (.bytes pt tp)) → (m' "used" = some (.ref x)) → MidD w s1 tx pt tt tp dl cl t4 K s'
end
local macro_rules | `(tactic| walk_at "call ref") => `(tactic| (k_here; (with_reducible show wpAny _ _ (call (Value.ref 253) _) _ _ _); k_dflt (refine' matcher_of (fun hne => initK_ok hne rfl ?klp) ?kB ?kF ?kX ?kN ?kT ?kk ?kd ?ku ?_; (case kB => assumption); (case kF => k_asm); (case kX => assumption); (case kN => k_asm); (case kT => assumption); (case kk => exact rfl); (case klp => rw [KBw.ints_length]; omega); (case kd => decide); (case ku => decide)); intro x' dx' c' core' h' tk' hxd' ec1' ec2' M' F' N' off'; (try dsimp only); (try k_fold)))
section
set_option maxHeartbeats 16000000
/-- behind the loop -/
inductive MidE (s1 : Shared) (s' : Shared) : Prop
  | mk : ∀ (h' : Heap) (tk' : Nat) (m' : Str → Option Value), (s' = ⟨h', s1.gens, s1.drawn, tk', s1.os⟩) → (Fr s1.heap s1.heap.objs.size h' m') → MidE s1 s'
/-- what holds between the turns -/
inductive JL (w : World) (tx pt : Array UInt8) (tt tp : Tok) (dl cl x dx : Addr) (c : Cf) (KK : Core) (t5 : Int) (i : Nat) (m : Str → Option Value) (nw : Core) : Prop
  | mk : ∀ (td : Tok) (dep : Int) (tdp : Tok) (lev : Int) (tl : Tok) (l1 l2 : Addr), (nw = (dl, drO cl (t5 + 4 * (i : Int)) td 0) :: (dx, MD w c dep tdp lev tl l1 l2) :: KK) → (m "text" = some (.bytes tx tt)) → (m "pattern" = some (.bytes pt tp)) → (m "used" = some (.ref x)) → JL w tx pt tt tp dl cl x dx c KK t5 i m nw
theorem openI {g h : Heap} {L I dl dx : Addr} {oI o o2 : Obj} {cl cc xx : Addr × Obj} {KK : Core} (N : News g L h ((I, oI) :: (dl, o) :: (dx, o2) :: KK)) (hI : ∀ p ∈ (dl, o) :: (dx, o2) :: KK, p.1 ≠ I) (h1 : cl ∈ KK) (h2 : cc ∈ KK) (h3 : xx ∈ KK) (ndl : ∀ q ∈ KK, q.1 ≠ dl) (ndx : ∀ q ∈ KK, q.1 ≠ dx) :
    ∃ KI : Core, News g L h ((dl, o) :: (dx, o2) :: KI) ∧ cl ∈ KI ∧ cc ∈ KI ∧ xx ∈ KI ∧ (∀ q ∈ KI, q.1 ≠ dl) ∧ (∀ q ∈ KI, q.1 ≠ dx) ∧ KI = (I, oI) :: KK := by
  refine ⟨_, cb_drop N fun q hq => ?_, .tail _ h1, .tail _ h2, .tail _ h3, fun q hq => ?_, fun q hq => ?_, rfl⟩
  · rcases List.mem_cons.mp hq with rfl | hq
    · exact .tail _ (.head _)
    rcases List.mem_cons.mp hq with rfl | hq
    · exact .tail _ (.tail _ (.head _))
    rcases List.mem_cons.mp hq with rfl | hq
    · exact .head _
    · exact .tail _ (.tail _ (.tail _ hq))
  · rcases List.mem_cons.mp hq with rfl | hq
    · exact Ne.symm (hI _ (.head _))
    · exact ndl q hq
  · rcases List.mem_cons.mp hq with rfl | hq
    · exact Ne.symm (hI _ (.tail _ (.head _)))
    · exact ndx q hq
/-- behind the making of an asking -/
inductive MidT1 (w : World) (s1 : Shared) (tx pt : Array UInt8) (tt tp : Tok) (x dl cl dx : Addr) (c : Cf) (dep : Int) (tdp : Tok) (lev : Int) (tl : Tok) (l1 l2 : Addr) (KI : Core) (t8 : Int) (txt : List Int) (s' : Shared) : Prop
  | mk : ∀ (h' : Heap) (tk' : Nat) (m' : Str → Option Value) (td : Tok) (ak : Addr) (oa : Obj) (kind place : Int) (b : Bool) (ta tb : Tok), (s' = ⟨h', s1.gens, s1.drawn, tk', s1.os⟩) → (Fr s1.heap s1.heap.objs.size h' m') → (News s1.heap s1.heap.objs.size h' ((ak, oa) :: (dl, drO cl (t8 + 3) td 0) :: (dx, MD w c dep tdp lev tl l1 l2) :: KI)) → ((∀ g : Heap, g.get? ak = some oa → IsTup g ak (askO kind place b ta tb))) → (oa.cls = .type "tuple") → (0 ≤ place) → (place ≤ (txt.length : Int)) → (m' "asking" = some (.ref ak)) → (m' "text" = some (.bytes tx tt)) → (m' "pattern" = some (.bytes pt tp)) → (m' "used" = some (.ref x)) → MidT1 w s1 tx pt tt tp x dl cl dx c dep tdp lev tl l1 l2 KI t8 txt s'
theorem t1_end {w : World} {s1 : Shared} {tx pt : Array UInt8} {tt tp : Tok} {x dl cl dx : Addr} {c : Cf} {dep : Int} {tdp : Tok} {lev : Int} {tl : Tok} {l1 l2 : Addr} {KI : Core} {t8 : Int} {txt : List Int} {h' : Heap} {tk' : Nat} {m' : Str → Option Value} {td ta tb : Tok} {ak : Addr} {kind place : Int} {b : Bool}
    (F : Fr s1.heap s1.heap.objs.size h' m') (N : News s1.heap s1.heap.objs.size h' ((ak, { cls := .type "tuple", data := .seq #[.int kind ta, .int place tb, .bool b] }) :: (dl, drO cl (t8 + 3) td 0) :: (dx, MD w c dep tdp lev tl l1 l2) :: KI)) (p0 : 0 ≤ place) (p1 : place ≤ (txt.length : Int))
    (e1 : m' "asking" = some (.ref ak)) (e2 : m' "text" = some (.bytes tx tt)) (e3 : m' "pattern" = some (.bytes pt tp)) (e4 : m' "used" = some (.ref x)) :
    MidT1 w s1 tx pt tt tp x dl cl dx c dep tdp lev tl l1 l2 KI t8 txt ⟨h', s1.gens, s1.drawn, tk', s1.os⟩ :=
  ⟨h', tk', m', td, ak, _, kind, place, b, ta, tb, rfl, F, N, fun g hg => ⟨_, hg, rfl, _, rfl⟩, rfl, p0, p1, e1, e2, e3, e4⟩
/-- behind the making of what is due -/
inductive MidT2 (w : World) (s1 : Shared) (tx pt : Array UInt8) (tt tp : Tok) (x dl cl dx : Addr) (c : Cf) (dep : Int) (tdp : Tok) (lev : Int) (tl : Tok) (l1 l2 : Addr) (KI : Core) (t8 : Int) (td : Tok) (txt pat : List Int) (ak : Addr) (oa : Obj) (kind place : Int) (b : Bool) (s' : Shared) : Prop
  | mk : ∀ (h' : Heap) (tk' : Nat) (m' : Str → Option Value) (vd : Value) (K2 : Core), (s' = ⟨h', s1.gens, s1.drawn, tk', s1.os⟩) → (Fr s1.heap s1.heap.objs.size h' m') → (News s1.heap s1.heap.objs.size h' ((ak, oa) :: (dl, drO cl (t8 + 3) td 0) :: (dx, MD w c dep tdp lev tl l1 l2) :: K2)) → ((∀ q ∈ KI, q ∈ K2)) → ((∀ q ∈ K2, q.1 ≠ dx)) → (DatIn K2 vd (ansF tx txt pat kind place b)) → (m' "due" = some vd) → (m' "asking" = some (.ref ak)) → (m' "text" = some (.bytes tx tt)) → (m' "pattern" = some (.bytes pt tp)) → (m' "used" = some (.ref x)) → MidT2 w s1 tx pt tt tp x dl cl dx c dep tdp lev tl l1 l2 KI t8 td txt pat ak oa kind place b s'
theorem news_ne {g h : Heap} {L a b : Addr} {o1 o2 : Obj} {news : Core} (N : News g L h news) (h1 : (a, o1) ∈ news) (h2 : (b, o2) ∈ news) (ho : o1 ≠ o2) : @Ne Nat a b := fun (e : a = b) => by
  have y1 := (N _ h1).1
  have y2 := (N _ h2).1
  dsimp only at y1 y2
  rw [e, y2] at y1
  exact ho (Option.some.inj y1).symm
theorem capsN_ok {tx : Array UInt8} {lev : Int} {ss ls : List Int} {s e : Int} : ∀ {n : Nat} {ds : List Dat}, capsN tx lev ss ls s e n = some ds → ∀ d ∈ ds, dOk 1 d = true
  | 0, ds, h => by cases h; intro d hd; cases hd
  | n + 1, ds, h => by
    rw [capsN] at h
    split at h
    · cases h
    · rename_i ds1 q
      split at h
      · cases h
      · rename_i d1 q1
        cases h
        intro d hd
        rcases List.mem_append.mp hd with hd | hd
        · exact capsN_ok q d hd
        · rw [List.mem_singleton.mp hd]
          unfold capD at q1
          repeat' split at q1
          all_goals (cases q1; try rfl)
theorem ansF_ok {tx : Array UInt8} {txt pat : List Int} {kind place : Int} {b : Bool} : dOk 3 (ansF tx txt pat kind place b) = true ∧ ((∃ x, ansF tx txt pat kind place b = .str x) ∨ ∃ ds, ansF tx txt pat kind place b = .tuple ds) := by
  unfold ansF
  split
  · exact ⟨rfl, .inl ⟨_, rfl⟩⟩
  · exact ⟨rfl, .inr ⟨_, rfl⟩⟩
  · split
    · exact ⟨rfl, .inl ⟨_, rfl⟩⟩
    · rename_i ds q
      refine ⟨?_, .inr ⟨_, rfl⟩⟩
      have z := capsN_ok q
      have e : ds.all (dOk 1) = true := List.all_eq_true.mpr z
      simp [dOk, e]
end
local macro_rules | `(tactic| walk_at "compareOp NotEq") => `(tactic| ((with_reducible show wpAny _ _ (compareOp _ _ _) _ _ _); (with_reducible refine' ne_ans ?kN 2 ?kok ?ksh ?k1 ?k2 ?ku ?_); (case kN => k_asm); (case k1 => assumption); (case k2 => assumption); (case kok => assumption); (case ksh => assumption); (case ku => exact (show (10 : Nat) < 9900 from by decide))))
section
set_option maxHeartbeats 16000000
theorem ne_empty {prog : Program} {w : World} {A : Around} {E : Value → Shared → Prop} {s : Shared} {h₀ : Heap} {L a b : Addr} {news : Core} {n : Nat} {Q : Value → Shared → Prop} (N : News h₀ L s.heap news) (m1 : (a, LCg.lst []) ∈ news) (m2 : (b, listOf #[] n) ∈ news) (hu : A.units + 1 < cLine)
    (h : Q (.bool false) s) : wpAny (model prog w) A (compareOp .NotEq (.ref a) (.ref b)) Q E s := by
  have z := SeqAt.RcNeAt.lists (A := A) (s := s) (e := fun _ => true) (items := #[]) (items2 := #[]) ⟨_, N.get m1, rfl, _, rfl⟩ ⟨_, N.get m2, rfl, _, rfl⟩ rfl (by omega) (fun j h1 => absurd h1 (Nat.not_lt_zero _))
  exact z prog w E Q h
end
local macro_rules | `(tactic| walk_at "compareOp NotEq") => `(tactic| ((with_reducible show wpAny _ _ (compareOp _ _ _) _ _ _); (with_reducible refine' ne_empty ?kN ?k1 ?k2 ?ku ?_); (case kN => k_asm); (case k1 => exact List.Mem.tail _ (by assumption)); (case k2 => exact List.Mem.head _); (case ku => exact (show (8 : Nat) < 9900 from by decide))))
local macro_rules | `(tactic| walk_at "exec Expr") => `(tactic| refine Hold.lay ?_)
local macro_rules | `(tactic| walk_at "call ref") => `(tactic| (k_here; (with_reducible show wpAny _ _ (call (Value.ref 126) _) _ _ _); refine Hold.lay ?_))
local macro_rules | `(tactic| walk_at "call ref") => `(tactic| (k_here; (with_reducible show wpAny _ _ (call (Value.ref 243) _) _ _ _); refine Hold.lay ?_))
section
set_option maxHeartbeats 16000000
theorem caps0 {tx : Array UInt8} : capsF tx 0 [] [] 0 0 false = some [] := rfl
/-- behind the two askings of the used matcher -/
inductive MidT3 (w : World) (s1 : Shared) (tx pt : Array UInt8) (tt tp : Tok) (x dl cl dx : Addr) (c : Cf) (KI : Core) (t8 : Int) (td : Tok) (s' : Shared) : Prop
  | mk : ∀ (h' : Heap) (tk' : Nat) (m' : Str → Option Value) (dep : Int) (tdp : Tok) (lev : Int) (tl : Tok) (l1 l2 : Addr), (s' = ⟨h', s1.gens, s1.drawn, tk', s1.os⟩) → (Fr s1.heap s1.heap.objs.size h' m') → (News s1.heap s1.heap.objs.size h' ((dl, drO cl (t8 + 3) td 0) :: (dx, MD w c dep tdp lev tl l1 l2) :: KI)) → (m' "text" = some (.bytes tx tt)) → (m' "pattern" = some (.bytes pt tp)) → (m' "used" = some (.ref x)) → MidT3 w s1 tx pt tt tp x dl cl dx c KI t8 td s'
end
local macro_rules | `(tactic| walk_at "call ref") => `(tactic| ((with_reducible show wpAny _ _ (call (Value.ref 271) _) _ _ _); refine Hold.lay ?_))
section
set_option maxHeartbeats 16000000
theorem t4_end {w : World} {s1 : Shared} {tx pt : Array UInt8} {tt tp : Tok} {x dl cl dx I : Addr} {c : Cf} {dep : Int} {tdp : Tok} {lev : Int} {tl : Tok} {l1 l2 : Addr} {KI KK : Core} {t4 t8 : Int} {i : Nat} {h7 h' : Heap} {tk7 tk' : Nat} {m' : Str → Option Value} {td : Tok} {oI o1 o2 : Obj}
    (F : Fr s1.heap s1.heap.objs.size h' m') (N : News s1.heap s1.heap.objs.size h' ((dl, drO cl (t8 + 3 + 1) td 0) :: (dx, MD w c dep tdp lev tl l1 l2) :: KI)) (eKI : KI = (I, oI) :: KK) (ht : t4 + 1 + 4 * (i : Int) = t8) (hI : ∀ p ∈ (dl, o1) :: (dx, o2) :: KK, p.1 ≠ I)
    (e2 : m' "text" = some (.bytes tx tt)) (e3 : m' "pattern" = some (.bytes pt tp)) (e4 : m' "used" = some (.ref x)) :
    LMid s1.heap s1.heap.objs.size I oI ⟨h7, s1.gens, s1.drawn, tk7, s1.os⟩ (JL w tx pt tt tp dl cl x dx c KK (t4 + 1) (i + 1)) ⟨h', s1.gens, s1.drawn, tk', s1.os⟩ := by
  refine ⟨h', tk', m', (dl, drO cl (t8 + 3 + 1) td 0) :: (dx, MD w c dep tdp lev tl l1 l2) :: KK, rfl, F, cb_drop N fun q hq => ?_, fun p hp => ?_, td, dep, tdp, lev, tl, l1, l2, ?_, e2, e3, e4⟩
  · rw [eKI]
    rcases List.mem_cons.mp hq with rfl | hq
    · exact .tail _ (.tail _ (.head _))
    rcases List.mem_cons.mp hq with rfl | hq
    · exact .head _
    rcases List.mem_cons.mp hq with rfl | hq
    · exact .tail _ (.head _)
    · exact .tail _ (.tail _ (.tail _ hq))
  · rcases List.mem_cons.mp hp with rfl | hp
    · exact hI (dl, o1) (.head _)
    rcases List.mem_cons.mp hp with rfl | hp
    · exact hI (dx, o2) (.tail _ (.head _))
    · exact hI p (.tail _ (.tail _ hp))
  · rw [show t8 + 3 + 1 = t4 + 1 + 4 * ((i + 1 : Nat) : Int) by omega]
end
local macro_rules | `(tactic| walk_at "exec For Name Call cons nil") => `(tactic| refine Hold.lay ?_)
section
set_option maxHeartbeats 16000000
theorem law_walk : PySem.Challenge.rw_sm0059_01.Holds := by
  refine hd ?_
  k_go0
  all_goals try k_fold
  rename_i w s0 s1 mg mb G Y fa o pm doc ho hg KX XM V GL T BT TE TW wa wb M wc wd hcd ns hs hlay0 hL1 hr1 hl2 w6 w5 sa vs w2 hL ra wl r0 hI hr hc1 hc2 K0 hD h1 tk1 F w1 w0 d1 d0 N X0
  have hret : ∀ (h' : Heap) (tk' : Nat) (m' : Str → Option Value), Fr s1.heap s1.heap.objs.size h' m' → qk (.ret (.bool true)) ⟨h', s1.gens, s1.drawn, tk', s1.os⟩ := by
    intro h' tk' m' F'
    clear F N
    dsimp only [qk]
    k_end
    wrow_close
  have hE : PassesOwn (model PySem.Challenge.rw_sm0059_01.row.prog w) (callerA.deeper (envOfC _ _ _ _ _)) (envOfC _ _ _ _ _) ek := PySem.PassesOwn.leaving
  clear_value qk ek
  clear hD hs hr1 hl2 ra wl r0 hr hc2 X0 hcd V GL BT TE TW M G Y XM ho
  refine enter_law ?_
  have B0 : Below callerA s1.heap [] s1.heap := K0
  obtain ⟨m1, F1, em⟩ : ∃ m1, Fr s1.heap s1.heap.objs.size h1 m1 ∧ m1 "script" = some (.ref sa) := ⟨_, F, rfl⟩
  clear F K0
  have d1' : w1.data = Data.cell none := d1
  have d0' : w0.data = Data.cell none := d0
  clear d1 d0
  try dsimp only
  have h40 : (ns.take 40).length ≤ 40 := by rw [List.length_take]; omega

  with_reducible refine execs_split 2 (MidA s1 ns m1) ?_ ?_
  · dsimp only [List.take]
    clear hret hE
    k_steps
    all_goals first | exact Value.none | exact (Str.ofString "x") | exact (0 : Addr) | skip
    refine' CutQ.next ⟨_, _, ?pl, ?cl, ?dl, ?o1, ?o2, ?pcs, ?ws, ?td, ?K, rfl, ?gF, ?gN, ?g1, ?g2, ?g3, ?g4, ?g5, ?g6, ?g7, ?g8, ?g9, ?g10⟩
    case gF => k_asm
    case gN => k_asm
    case g4 => k_mem
    case g6 => assumption
    case g3 => k_mem
    case g7 => assumption
    case g2 => k_mem
    case g1 => k_mem
    case g8 => assumption
    case g10 => rfl
    · intro q hq
      simp only [List.mem_cons, List.not_mem_nil, or_false] at hq
      rcases hq with rfl | rfl | rfl | rfl <;> exact Nat.ne_of_lt (by omega)
    · intro v hv
      simp only [List.mem_cons, List.not_mem_nil, or_false] at hv
      rcases hv with rfl | rfl | rfl | rfl | rfl | rfl | rfl | rfl | rfl | rfl | rfl | rfl | rfl | rfl | rfl | rfl <;> exact ⟨_, _, rfl, by decide⟩
  rintro _ ⟨h2, tk2, pl, cl, dl, o1, o2, pcs, ws, td, K, rfl, F2, N2, mcl, mpl, mc2, mc1, ndl, e1, e2, iw, spc, lpc⟩
  clear F1 N d1' d0' hI hL em
  dsimp only [List.drop]

  with_reducible refine execs_split 1 (MidB s1 m1 dl cl K) ?_ ?_
  · dsimp only [List.take]
    clear hret hE
    k_steps
    refine Hold.mk ?_
    with_reducible refine' ListComp_L F2 ?kcl ?kce ?kki ?kna ?kx ?kh ?_ ?khs
    case khs => exact fun _ => rfl
    case kcl => with_unfolding_all rfl
    case kce => decide
    case kki => rfl
    case kna => decide
    case kx => rfl
    case kh => rfl
    k_steps
    rename_i qk0 ek0 r rt td1 h3 tk3 r0 r1 F3 N3 h4 tk4 t4 u4 v4 hr F4 N4 kp
    clear kp N3 F3
    refine ⟨_, 0, r, _, _, _, r.toNat, _, InvT dl cl K, rfl, F4, N4, hr, small_one (by omega) (by omega) (by omega) (by omega), by rw [rangeSize_nat, Int.sub_zero], by unfold sizeLine; omega, ⟨_, _, rfl, rfl, fun y hy => nomatch hy⟩, ?_, ?_⟩
    · clear_value qk ek
      intro g t I oI C oC D m₂ h5 tk5 E' ys news hlt hinv hC hm2 F5 N5 off ne
      obtain ⟨t', td', rfl, et, ha⟩ := hinv
      obtain ⟨full, KB, NF, mdl, sKB, nKB, sK, sF, mC, back⟩ := openT N5 off ndl
      clear N5 F4 N4 hr
      have q2 := sF _ mc2
      have qc := sK _ mcl
      try dsimp only
      k_steps
      rename_i r3 rt3 td3 h6 tk6 r30 r31 F6 N6
      refine ⟨_, _, (dl, drO cl (t' + 1) td3 0) :: K, rfl, F6, back _ _ N6, ⟨off.1, off.2⟩, _, _, rfl, ?_, fun y hy => ?_⟩
      · rw [List.length_append, List.length_singleton]; omega
      · rcases List.mem_append.mp hy with hy | hy
        · exact ha y hy
        · rw [List.mem_singleton.mp hy]
          exact ⟨_, _, rfl, Int.natCast_nonneg _, by exact_mod_cast (UInt8.toNat_lt _)⟩
    · intro ys news' D h5 tk5 hlen hinv F5 N5 off
      obtain ⟨t', td', rfl, et, ha⟩ := hinv
      obtain ⟨ks, iks, hks, lks⟩ := ints_of ha
      clear F4 N4 hr
      dsimp only [qk]
      clear_value ek
      clear qk
      k_steps
      rename_i h6 tt6 k6 kin6 h7 F7 N7
      refine' CutQ.next ⟨_, _, _, t', td', _, _, rfl, F7, cb_drop N7 fun q hq => List.Mem.tail _ hq, rfl, ?_, ?_, ?_⟩
      · rw [byteArr_size]; omega
      · omega
      · omega
  rintro _ ⟨h3, tk3, m3, t3, td3, tt, tx, rfl, F3, N3, etx, lx, t30, t36⟩
  clear F2 N2
  dsimp only [List.drop]

  with_reducible refine execs_split 1 (MidC s1 m3 tx tt dl cl K) ?_ ?_
  · dsimp only [List.take]
    clear hret hE
    k_steps
    refine Hold.mk ?_
    with_reducible refine' ListComp_L F3 ?kcl ?kce ?kki ?kna ?kx ?kh ?_ ?khs
    case khs => exact fun _ => rfl
    case kcl => with_unfolding_all rfl
    case kce => decide
    case kki => rfl
    case kna => decide
    case kx => rfl
    case kh => rfl
    k_steps
    rename_i qk0 ek0 r rt td4 h4 tk4 r0 r1 F4 N4 h5 tk5 t5 u5 v5 hr F5 N5 kp
    clear kp N4 F4
    refine ⟨_, 0, 1 + r, _, _, _, (1 + r).toNat, _, InvP dl cl t3 K, rfl, F5, N5, hr, small_one (by omega) (by omega) (by omega) (by omega), by rw [rangeSize_nat, Int.sub_zero], by unfold sizeLine; omega, ⟨_, _, rfl, (Int.add_zero _).symm, fun y hy => nomatch hy⟩, ?_, ?_⟩
    · clear_value qk ek
      intro g t I oI C oC D m₂ h6 tk6 E' ys news hlt hinv hC hm2 F6 N6 off ne
      obtain ⟨t', td', rfl, et, ha⟩ := hinv
      obtain ⟨full, KB, NF, mdl, sKB, nKB, sK, sF, mC, back⟩ := openT N6 off ndl
      clear N6 F5 N5 hr
      have q1 := sF _ mc1
      have q2 := sF _ mc2
      have qp := sK _ mpl
      have qc := sK _ mcl
      try dsimp only
      k_steps
      rename_i r6 rt6 td6 h7 tk7 r60 r61 F7 N7 b7 t7 hb7
      refine ⟨_, _, (dl, drO cl (t' + 1) td6 0) :: K, rfl, F7, back _ _ N7, ⟨off.1, off.2⟩, _, _, rfl, ?_, fun y hy => ?_⟩
      · rw [List.length_append, List.length_singleton]; omega
      · rcases List.mem_append.mp hy with hy | hy
        · exact ha y hy
        · rw [List.mem_singleton.mp hy]
          exact ⟨_, _, rfl, hb7⟩
    · intro ys news' D h6 tk6 hlen hinv F6 N6 off
      obtain ⟨t', td', rfl, et, ha⟩ := hinv
      clear F5 N5 hr
      dsimp only [qk]
      clear_value ek
      clear qk
      have lys : ys.length ≤ 5 := by omega
      k_steps
      rename_i pt tp7 k7 hp7 h7 F7 N7
      refine' CutQ.next ⟨_, _, _, t', td', _, _, rfl, F7, cb_drop N7 fun q hq => List.Mem.tail _ hq, etx, rfl, hp7, ?_, ?_⟩
      · omega
      · omega
  rintro _ ⟨h4, tk4, m4, t4, td4, tp, pt, rfl, F4, N4, etx4, ept4, lp4, t40, t412⟩
  clear F3 N3 etx
  dsimp only [List.drop]

  with_reducible refine execs_split 1 (MidD w s1 tx pt tt tp dl cl t4 K) ?_ ?_
  · dsimp only [List.take]
    clear hret hE
    k_steps
    all_goals first | exact Value.none | exact (Str.ofString "x") | exact (0 : Addr) | skip
    rename_i x dx c core7 h7 tk7 hxd ec1 ec2 M7 off7 h8 F8 N8
    obtain ⟨tdp, tl, l1, l2, mx, md⟩ := M7.at
    refine' CutQ.next ⟨_, _, _, td4, x, dx, c, tdp, tl, l1, l2, (x, instObj 253 dx) :: K, rfl, F8, cb_drop N8 ?_, fun q hq => List.Mem.tail _ hq, List.Mem.head _, ?_, ?_, ?_, hxd, ec1, ec2, etx4, ept4, rfl⟩
    · intro q hq
      rcases List.mem_cons.mp hq with rfl | hq
      · exact List.mem_append_right _ (.head _)
      rcases List.mem_cons.mp hq with rfl | hq
      · exact List.mem_append_left _ md
      rcases List.mem_cons.mp hq with rfl | hq
      · exact List.mem_append_left _ mx
      · exact List.mem_append_right _ (.tail _ hq)
    · intro q hq
      rcases List.mem_cons.mp hq with rfl | hq
      · exact off7 _ mx _ (.head _)
      · exact ndl q hq
    · intro q hq
      rcases List.mem_cons.mp hq with rfl | hq
      · exact hxd
      · exact fun e => off7 _ md _ (.tail _ hq) e.symm
    · exact fun e => off7 _ md _ (.head _) e.symm
  rintro _ ⟨h5, tk5, m5, td5, x, dx, c, tdp, tl, l1, l2, KK, rfl, F5, N5, sK, mx, ndlK, ndxK, ndd, hxd, ec1, ec2, etx5, ept5, eus5⟩
  have mclK := sK _ mcl
  have mc2K := sK _ mc2
  have lpp : (KBw.bInts (patF pt)).length ≤ 25 := by rw [KBw.ints_length]; exact Nat.le_trans (patF_size pt) lp4
  have lxx : (KBw.bInts tx).length ≤ 5 := by rw [KBw.ints_length]; exact lx
  obtain ⟨txt, htx⟩ : ∃ txt, KBw.bInts tx = txt := ⟨_, rfl⟩
  obtain ⟨pat, hpat⟩ : ∃ pat, KBw.bInts (patF pt) = pat := ⟨_, rfl⟩
  rw [htx] at lxx
  rw [hpat] at lpp
  have O : CfOk c txt pat := ⟨by rw [ec1]; exact htx, by rw [ec2]; exact hpat, by omega, by omega⟩
  clear F4 N4 etx4 ept4 mcl mpl mc2 mc1 ndl sK e1 spc lpc
  dsimp only [List.drop]

  with_reducible refine execs_split 1 (MidE s1) ?_ ?_
  · dsimp only [List.take]
    clear hret
    obtain ⟨KB, NB, mclB, mc2B, ndlB, eKB⟩ : ∃ KB : Core, News s1.heap s1.heap.objs.size h5 ((dl, drO cl t4 td5 0) :: KB) ∧ (cl, listOf ws.toArray 0) ∈ KB ∧ (s1.heap.objs.size + 1 + 1, o2) ∈ KB ∧ (∀ q ∈ KB, q.1 ≠ dl) ∧ KB = (dx, MD w c 0 tdp 0 tl l1 l2) :: KK :=
      ⟨_, N5, .tail _ mclK, .tail _ mc2K, fun q hq => (List.mem_cons.mp hq).elim (fun e => e ▸ Ne.symm ndd) (ndlK q), rfl⟩
    clear N5
    k_steps
    refine Hold.mk ?_
    with_reducible refine' For_L s1.heap ?kx ?kp ?kh ?kE ?_ ?khs
    case khs => exact fun _ => rfl
    case kx => rfl
    case kp => rfl
    case kh => rfl
    case kE => exact hE
    clear hE
    k_steps
    rename_i qk0 ek0 r rt td6 h6 tk6 r0 r1 F6 N6 h7 tk7 t7 u7 v7 hr F7 N7 kp
    clear kp N6 F6
    refine ⟨_, 0, 2 + r, _, _, _, (2 + r).toNat, _, _, JL w tx pt tt tp dl cl x dx c KK (t4 + 1), rfl, F7, N7, hr, small_one (by omega) (by omega) (by omega) (by omega), by rw [rangeSize_nat, Int.sub_zero], ⟨td6, 0, tdp, 0, tl, l1, l2, ?_, etx5, ept5, eus5⟩, ?_, ?_⟩
    · rw [eKB, show t4 + 1 + 4 * ((0 : Nat) : Int) = t4 + 1 by omega]
    · clear_value qk ek
      clear N7 F7 hr etx5 ept5 eus5 mclB mc2B ndlB eKB
      intro i t m₁ news₁ h8 tk8 I oI hi hJ hI F8 N8
      obtain ⟨td8, dep8, tdp8, lev8, tl8, l18, l28, rfl, etx8, ept8, eus8⟩ := hJ
      obtain ⟨KI, NI, mclI, mc2I, mxI, ndlI, ndxI, backI⟩ := openI (cl := (cl, listOf ws.toArray 0)) (cc := (s1.heap.objs.size + 1 + 1, o2)) (xx := (x, instObj 253 dx)) N8 hI mclK mc2K mx ndlK ndxK
      clear N8
      obtain ⟨m8, F9, etx9, ept9, eus9⟩ : ∃ m8 : Str → Option Value, Fr s1.heap s1.heap.objs.size h8 m8 ∧ m8 "text" = some (.bytes tx tt) ∧ m8 "pattern" = some (.bytes pt tp) ∧ m8 "used" = some (.ref x) := ⟨_, F8, etx8, ept8, eus8⟩
      clear F8
      clear etx8 ept8 eus8
      generalize ht8 : t4 + 1 + 4 * (i : Int) = t8 at NI backI
      have t80 : 0 ≤ t8 := by omega
      have t81 : t8 ≤ 100 := by omega
      try dsimp only
      with_reducible refine execs_split 1 (MidT1 w s1 tx pt tt tp x dl cl dx c dep8 tdp8 lev8 tl8 l18 l28 KI t8 txt) ?_ ?_
      · dsimp only [List.take]
        obtain ⟨KB, NB, mclB, mc2B, ndlB, eKB⟩ : ∃ KB : Core, News s1.heap s1.heap.objs.size h8 ((dl, drO cl t8 td8 0) :: KB) ∧ (cl, listOf ws.toArray 0) ∈ KB ∧ (s1.heap.objs.size + 1 + 1, o2) ∈ KB ∧ (∀ q ∈ KB, q.1 ≠ dl) ∧ KB = (dx, MD w c dep8 tdp8 lev8 tl8 l18 l28) :: KI :=
          ⟨_, NI, .tail _ mclI, .tail _ mc2I, fun q hq => (List.mem_cons.mp hq).elim (fun e => e ▸ Ne.symm ndd) (ndlI q), rfl⟩
        clear NI
        k_steps
        all_goals first | exact Value.none | exact (Str.ofString "x") | exact (0 : Addr) | skip
        rename_i D10 h10 l10 h11 F10 N10
        rw [show t8 + 1 + 1 + 1 = t8 + 3 by omega, eKB] at N10
        exact CutQ.next (t1_end F10 N10 (by assumption) (by omega) rfl etx9 ept9 eus9)
      rintro _ ⟨h10, tk10, m10, td10, ak, oa, kind, place, b, ta, tb, rfl, F10, N10, htup, hoc, p0, p1, eak, etx10, ept10, eus10⟩
      clear F9 NI etx9 ept9 eus9
      dsimp only [List.drop]
      with_reducible refine execs_split 1 (MidT2 w s1 tx pt tt tp x dl cl dx c dep8 tdp8 lev8 tl8 l18 l28 KI t8 td10 txt pat ak oa kind place b) ?_ ?_
      · dsimp only [List.take]
        obtain ⟨G1, NG1, eG1⟩ : ∃ G1 : Core, News s1.heap s1.heap.objs.size h10 G1 ∧ G1 = (ak, oa) :: (dl, drO cl (t8 + 3) td10 0) :: (dx, MD w c dep8 tdp8 lev8 tl8 l18 l28) :: KI := ⟨_, N10, rfl⟩
        have hak : (ak, oa) ∈ G1 := by rw [eG1]; exact .head _
        clear N10
        k_steps
        all_goals first | exact Value.none | exact (Str.ofString "x") | exact (0 : Addr) | skip
        rename_i y dy c2 core2 h12 tk12 hyd ec12 ec22 M12 F12 N12 off12
        obtain ⟨tdy, tly, ly1, ly2, my, mdy⟩ := M12.at
        have O2 : CfOk c2 txt pat := ⟨by rw [ec12]; exact htx, by rw [ec22]; exact hpat, by omega, by omega⟩
        refine Hold.mk ?_
        with_reducible refine' ask (K := G1) O2 lpp hyd p0 p1 (List.mem_append_left _ my) (List.mem_append_left _ mdy) ?gK ?gn (List.mem_append_right _ hak) ?gy ?gd htup B0 F12 KX N12 T ?gk ?gdp ?gun ?_
        case gK => exact fun q hq => List.mem_append_right _ hq
        case gn => exact fun q hq e => off12 _ mdy _ hq e.symm
        case gy => exact fun e => off12 _ my _ hak e.symm
        case gd => exact fun e => off12 _ mdy _ hak e.symm
        case gk => exact rfl
        case gdp => decide
        case gun => decide
        intro vd core3 h13 tk13 dep3 tdp3 lev3 tl3 l13 l23 hdat mx3 md3 F13 N13 z13
        have z13' : ∀ q ∈ core3, ∀ p ∈ G1, q.1 ≠ p.1 := fun q hq p hp => by
          rcases z13 q hq with e | e | e
          · rw [e]; exact off12 _ my _ hp
          · rw [e]; exact off12 _ mdy _ hp
          · exact e p (List.mem_append_right _ hp)
        clear F12 N12 z13
        k_steps
        all_goals first | exact Value.none | exact (Str.ofString "x") | exact (0 : Addr) | skip
        rename_i h14 F14 N14
        rw [ec12] at hdat
        refine CutQ.next ⟨_, _, _, vd, core3 ++ KI, rfl, F14, cb_drop N14 ?_, fun q hq => List.mem_append_right _ hq, ?_, hdat.mono fun q hq => List.mem_append_left _ hq, rfl, eak, etx10, ept10, eus10⟩
        · intro q hq
          rw [eG1]
          rcases List.mem_cons.mp hq with rfl | hq
          · exact List.mem_append_right _ (.head _)
          rcases List.mem_cons.mp hq with rfl | hq
          · exact List.mem_append_right _ (.tail _ (.head _))
          rcases List.mem_cons.mp hq with rfl | hq
          · exact List.mem_append_right _ (.tail _ (.tail _ (.head _)))
          rcases List.mem_append.mp hq with hq | hq
          · exact List.mem_append_left _ hq
          · exact List.mem_append_right _ (.tail _ (.tail _ (.tail _ hq)))
        · intro q hq
          rcases List.mem_append.mp hq with hq | hq
          · exact z13' q hq (dx, MD w c dep8 tdp8 lev8 tl8 l18 l28) (by rw [eG1]; exact .tail _ (.tail _ (.head _)))
          · exact ndxI q hq
      rintro _ ⟨h14, tk14, m14, vd, K2, rfl, F14, N14, sI2, ndx2, hdat, edu, eak, etx14, ept14, eus14⟩
      clear F10 N10 etx10 ept10 eus10
      dsimp only [List.drop]
      with_reducible refine execs_split 1 (MidT3 w s1 tx pt tt tp x dl cl dx c KI t8 td10) ?_ ?_
      · dsimp only [List.take]
        have had : @Ne Nat ak dx := news_ne N14 (.head _) (.tail _ (.tail _ (.head _))) fun e => by rw [e] at hoc; injection hoc with z; exact absurd z (by decide)
        have hax : @Ne Nat ak x := news_ne N14 (.head _) (.tail _ (.tail _ (.tail _ (sI2 _ mxI)))) fun e => by rw [e] at hoc; cases hoc
        obtain ⟨KH, eKH⟩ : ∃ KH : Core, KH = (ak, oa) :: (dl, drO cl (t8 + 3) td10 0) :: K2 := ⟨_, rfl⟩
        have hdd : @Ne Nat dl dx := ndd
        have ndxH : ∀ q ∈ KH, q.1 ≠ dx := by
          intro q hq
          rw [eKH] at hq
          rcases List.mem_cons.mp hq with rfl | hq
          · exact had
          rcases List.mem_cons.mp hq with rfl | hq
          · exact hdd
          · exact ndx2 q hq
        obtain ⟨G1, NG1, mG1, dG1, sHG⟩ : ∃ G1 : Core, News s1.heap s1.heap.objs.size h14 G1 ∧ (x, instObj 253 dx) ∈ G1 ∧ (dx, MD w c dep8 tdp8 lev8 tl8 l18 l28) ∈ G1 ∧ ∀ q ∈ KH, q ∈ G1 := by
          refine ⟨_, N14, .tail _ (.tail _ (.tail _ (sI2 _ mxI))), .tail _ (.tail _ (.head _)), fun q hq => ?_⟩
          rw [eKH] at hq
          rcases List.mem_cons.mp hq with rfl | hq
          · exact .head _
          rcases List.mem_cons.mp hq with rfl | hq
          · exact .tail _ (.head _)
          · exact .tail _ (.tail _ (.tail _ hq))
        have hak : (ak, oa) ∈ KH := by rw [eKH]; exact .head _
        have hdatH : DatIn KH vd (ansF tx txt pat kind place b) := hdat.mono fun q hq => by rw [eKH]; exact .tail _ (.tail _ hq)
        clear N14
        k_steps
        all_goals first | exact Value.none | exact (Str.ofString "x") | exact (0 : Addr) | skip
        obtain ⟨hok, hsh⟩ := ansF_ok (tx := tx) (txt := txt) (pat := pat) (kind := kind) (place := place) (b := b)
        refine Hold.mk ?_
        with_reducible refine' ask (K := KH) O lpp hxd p0 p1 mG1 dG1 sHG ndxH (sHG _ hak) hax had htup B0 F14 KX NG1 T ?gk ?gdp ?gun ?_
        case gk => exact rfl
        case gdp => decide
        case gun => decide
        intro v1 core1 h15 tk15 dep1 tdp1 lev1 tl1 l11 l21 hd1 mx1 md1 F15 N15 _
        rw [ec1] at hd1
        have hd1' : DatIn (core1 ++ KH) v1 (ansF tx txt pat kind place b) := hd1.mono fun q hq => List.mem_append_left _ hq
        have hdu1 : DatIn (core1 ++ KH) vd (ansF tx txt pat kind place b) := hdatH.mono fun q hq => List.mem_append_right _ hq
        clear F14 NG1
        k_steps
        all_goals first | exact Value.none | exact (Str.ofString "x") | exact (0 : Addr) | skip
        refine Hold.mk ?_
        with_reducible refine' ask (K := KH) O lpp hxd p0 p1 (List.mem_append_left _ mx1) (List.mem_append_left _ md1) ?gK ndxH (List.mem_append_right _ hak) hax had htup B0 F15 KX N15 T ?gk ?gdp ?gun ?_
        case gK => exact fun q hq => List.mem_append_right _ hq
        case gk => exact rfl
        case gdp => decide
        case gun => decide
        intro v2 core2 h16 tk16 dep2 tdp2 lev2 tl2 l12 l22 hd2 mx2 md2 F16 N16 _
        rw [ec1] at hd2
        have hd2' : DatIn (core2 ++ KH) v2 (ansF tx txt pat kind place b) := hd2.mono fun q hq => List.mem_append_left _ hq
        have hdu2 : DatIn (core2 ++ KH) vd (ansF tx txt pat kind place b) := hdatH.mono fun q hq => List.mem_append_right _ hq
        clear F15 N15
        k_steps
        all_goals first | exact Value.none | exact (Str.ofString "x") | exact (0 : Addr) | skip
        refine CutQ.next ⟨_, _, _, dep2, tdp2, lev2, tl2, l12, l22, rfl, F16, cb_drop N16 ?_, etx14, ept14, eus14⟩
        intro q hq
        rcases List.mem_cons.mp hq with rfl | hq
        · exact List.mem_append_right _ (by rw [eKH]; exact .tail _ (.head _))
        rcases List.mem_cons.mp hq with rfl | hq
        · exact List.mem_append_left _ md2
        · exact List.mem_append_right _ (by rw [eKH]; exact .tail _ (.tail _ (sI2 _ hq)))
      rintro _ ⟨h17, tk17, m17, dep4, tdp4, lev4, tl4, l14, l24, rfl, F17, N17, etx17, ept17, eus17⟩
      clear F14 N14 edu eak etx14 ept14 eus14 hdat sI2 ndx2
      dsimp only [List.drop]
      obtain ⟨KB, NB, mclB, mc2B, mxB, mdB, ndlB, eKB⟩ : ∃ KB : Core, News s1.heap s1.heap.objs.size h17 ((dl, drO cl (t8 + 3) td10 0) :: KB) ∧ (cl, listOf ws.toArray 0) ∈ KB ∧ (s1.heap.objs.size + 1 + 1, o2) ∈ KB ∧ (x, instObj 253 dx) ∈ KB ∧ (dx, MD w c dep4 tdp4 lev4 tl4 l14 l24) ∈ KB ∧ (∀ q ∈ KB, q.1 ≠ dl) ∧ KB = (dx, MD w c dep4 tdp4 lev4 tl4 l14 l24) :: KI :=
        ⟨_, N17, .tail _ mclI, .tail _ mc2I, .tail _ mxI, .head _, fun q hq => (List.mem_cons.mp hq).elim (fun e => e ▸ Ne.symm ndd) (ndlI q), rfl⟩
      clear N17
      k_steps
      all_goals first | exact Value.none | exact (Str.ofString "x") | exact (0 : Addr) | skip
      · rename_i r9 rt9 td9 h19 tk19 r90 r91 F19 N19 z9
        obtain ⟨KR, eKR⟩ : ∃ KR : Core, KR = (dl, drO cl (t8 + 3 + 1) td9 0) :: KI := ⟨_, rfl⟩
        have ndxR : ∀ q ∈ KR, q.1 ≠ dx := by
          intro q hq
          rw [eKR] at hq
          rcases List.mem_cons.mp hq with rfl | hq
          · exact ndd
          · exact ndxI q hq
        obtain ⟨G2, NG2, mxG, mdG, sRG⟩ : ∃ G2 : Core, News s1.heap s1.heap.objs.size h19 G2 ∧ (x, instObj 253 dx) ∈ G2 ∧ (dx, MD w c dep4 tdp4 lev4 tl4 l14 l24) ∈ G2 ∧ ∀ q ∈ KR, q ∈ G2 := by
          refine ⟨_, N19, .tail _ mxB, .tail _ mdB, fun q hq => ?_⟩
          rw [eKR] at hq
          rw [eKB]
          rcases List.mem_cons.mp hq with rfl | hq
          · exact .head _
          · exact .tail _ (.tail _ hq)
        clear N19
        refine Hold.mk ?_
        with_reducible refine' wpAny_Expr_any ?_ ?hi ?hs
        case hi => rfl
        case hs => rfl
        k_steps
        all_goals first | exact Value.none | exact (Str.ofString "x") | exact (0 : Addr) | skip
        refine Hold.mk ?_
        k_dflt (refine' Ctr.useK (K := KR) (keep := [(x, instObj 253 dx)]) (reset_ok hxd) B0 F19 KX NG2 T ?gk ?gdp ?gun ?g1 sRG ?g2 ?g3 ?g4 ?_)
        case gk => exact rfl
        case gdp => decide
        case gun => decide
        case g1 =>
          intro q hq
          rcases List.mem_cons.mp hq with rfl | hq
          · exact mxG
          · rw [List.mem_singleton.mp hq]; exact mdG
        case g2 => intro q hq; rw [List.mem_singleton.mp hq]; exact mxG
        case g3 =>
          intro q hq z
          rcases List.mem_cons.mp z with z | z
          · exact z ▸ .head _
          · exact absurd (List.mem_singleton.mp z) (ndxR q hq)
        case g4 =>
          rintro v c' ⟨_, M⟩ q hq
          rw [List.mem_singleton.mp hq]
          obtain ⟨_, _, _, _, y, _⟩ := M.at
          exact y
        rintro v core5 h20 tk20 ⟨rfl, M20⟩ F20 N20 _
        obtain ⟨td20, tl20, l20, l21, vs1, vs2, n1, n2, mx20, md20, S20⟩ := M20.openF ⟨by decide, by decide, rfl, by decide⟩
        clear F19 NG2
        obtain ⟨G5, NG5, mxG5, mdG5, SG5, sRG5⟩ : ∃ G5 : Core, News s1.heap s1.heap.objs.size h20 G5 ∧ (x, instObj 253 dx) ∈ G5 ∧ (dx, MD w c 0 td20 0 tl20 l20 l21) ∈ G5 ∧ Lst G5 l20 l21 vs1 vs2 n1 n2 [] [] 0 ∧ ∀ q ∈ KR, q ∈ G5 :=
          ⟨_, N20, List.mem_append_left _ mx20, List.mem_append_left _ md20, ⟨List.mem_append_left _ S20.m1, List.mem_append_left _ S20.m2, S20.i1, S20.i2, S20.h0, S20.h1, S20.h2, S20.h3, S20.h4⟩, fun q hq => List.mem_append_right _ hq⟩
        clear N20 M20 mx20 md20 S20
        try dsimp only
        k_steps
        all_goals first | exact Value.none | exact (Str.ofString "x") | exact (0 : Addr) | skip
        refine Hold.mk ?_
        k_dflt (refine' Ctr.use (captures_ok O mxG5 mdG5 SG5) B0 F20 KX NG5 T ?gk ?gdp ?gun ?gr ?ge)
        case gk => exact rfl
        case gdp => decide
        case gun => decide
        case ge =>
          rintro e core' g h' tk' ⟨rfl, hbad⟩ _ _ _ _
          rw [caps0] at hbad
          cases hbad
        rintro v core' h21 tk21 ⟨D, ys, ds, rfl, rfl, hcs, ca⟩ F21 N21 _ _
        rw [caps0] at hcs
        cases hcs
        cases ca
        obtain ⟨G6, NG6, mDG6, sG6⟩ : ∃ G6 : Core, News s1.heap s1.heap.objs.size h21 G6 ∧ (D, LCg.lst []) ∈ G6 ∧ ∀ q ∈ G5, q ∈ G6 := ⟨_, N21, .head _, fun q hq => .tail _ hq⟩
        clear F20 NG5 N21
        try dsimp only
        k_steps
        all_goals first | exact Value.none | exact (Str.ofString "x") | exact (0 : Addr) | skip
        rename_i l22 h22 F22 N22 l1'
        refine CutQ.next (t4_end (td := td9) (dep := 0) (tdp := td20) (lev := 0) (tl := tl20) (l1 := l20) (l2 := l21) F22 (cb_drop N22 ?_) backI ht8 hI etx17 ept17 eus17)
        intro q hq
        rcases List.mem_cons.mp hq with rfl | hq
        · exact .tail _ (sG6 _ (sRG5 _ (by rw [eKR]; exact .head _)))
        rcases List.mem_cons.mp hq with rfl | hq
        · exact .tail _ (sG6 _ mdG5)
        · exact .tail _ (sG6 _ (sRG5 _ (by rw [eKR]; exact .tail _ hq)))
      · rename_i r9 rt9 td9 h19 tk19 r90 r91 F19 N19 z9
        rw [eKB] at N19
        exact CutQ.next (t4_end F19 N19 backI ht8 hI etx17 ept17 eus17)
    · intro h8 tk8 m8 news8 F8 N8 hJ
      clear F7 N7 hr
      dsimp only [qk]
      clear_value ek
      clear qk
      k_steps
      all_goals exact CutQ.next ⟨_, _, _, rfl, by k_asm⟩
  · rintro _ ⟨h6, tk6, m6, rfl, F6⟩
    dsimp only [List.drop]
    have N6 : News s1.heap s1.heap.objs.size h6 [] := News.nil
    clear F5 N5
    k_steps
    all_goals exact hret _ _ _ (by k_asm)
end
end Mine
set_option maxRecDepth 100000 in
theorem PySem.Challenge.cw_sm0059_01_holds : PySem.Challenge.rw_sm0059_01.Holds :=
  Mine.law_walk
