import PyProof.Rows.All
import Wide.All
import OpenK.AllK
import Wide.FinOn
import PySem.Challenge.RW_nt0633_01
open PySem PySem.W PyProof.Rows
set_option Elab.async false
set_option maxRecDepth 100000
set_option maxHeartbeats 8000000
set_option linter.all false
namespace Mine
-- the top: its run cut in seven between spelled states, the looks in seven checks, the hook apart
set_option maxHeartbeats 0
def kp : List Nat := [1, 2, 3, 4, 5, 6, 7, 8, 9, 10, 11, 12, 13, 14, 15, 16, 17, 18, 19, 20, 21, 22, 23, 24, 25, 26, 27, 28, 29, 30, 31, 32, 33, 34, 35, 36, 37, 38, 39, 40, 41, 42, 43, 44, 45, 46, 47, 48, 49, 50, 51, 52, 53, 54, 56, 57, 58, 59, 60, 61, 62, 63, 64, 65]
def vw : Program := view PySem.Challenge.rw_nt0633_01.row.prog kp
namespace Hv
section
open PySem.Calls
abbrev pq : Program := PySem.Challenge.rw_nt0633_01.row.prog
def env0 : Env := { scope := pq.main.scope, locals := mainNs, globals := mainNs, cells := [], code := .ref 13, frame := some 14 }
def bd0 : List Stmt := behindTheImports pq
def cd0 : Code := .body bd0 env0
def ps0 : Pos := ⟨0, 0, 0, 0⟩
noncomputable def an0 (w : World) : Option Value := (boot_heap w.params).nsMap mainGlobals (Str.ofString "__annotations__")
noncomputable def S0 (w : World) (os : OsState) : Shared := ⟨boot_heap w.params, Array.mk [], boot_drawn, boot_toks, os⟩
noncomputable def Sa (w : World) (os : OsState) : Shared := match topGo treeTable pq w 11 (an0 w) 12 (S0 w os) (topStub pq) with
  | some (s, _) => s
  | none => S0 w os
noncomputable def bt : List Obj → Nat → BT → BT
  | [], _, t => t
  | o :: r, n, t => bt r (n + 1) (t.ins n o)
noncomputable def Ta (w : World) (os : OsState) : SharedT := match Sa w os with
  | ⟨⟨⟨l⟩, life⟩, gens, drawn, toks, os'⟩ => ⟨bt l 0 .nil, 15, life, gens, drawn, toks, os'⟩
theorem pre_run (w : World) (os : OsState) : topGo treeTable pq w 11 (an0 w) 12 (S0 w os) (topStub pq) = some (Sa w os, ⟨denote treeTable cd0, cd0, ps0, [topFrame ps0]⟩) := by kernel_rfl
theorem block_run (w : World) (os : OsState) : segRun treeTable pq w 11 (an0 w) 1 1 (Sa w os) (blockOf bd0 env0 cd0 ps0 [topFrame ps0]) = some (.next, Sa w os, cd0, ps0) := by kernel_rfl
theorem ta_abs (w : World) (os : OsState) : (Ta w os).abs = Sa w os := by kernel_rfl
theorem open_is : opening pq = plainProg pq.main.scope.names := by kernel_rfl
theorem fence_is (s : Shared) : fenceModules? pq s = some s := by kernel_rfl
theorem boot_ns (w : World) : ((boot_heap w.params).isNs mainGlobals && (Array.mk [] : Array GenState).size == 0) = true := by kernel_rfl
theorem boot_size (w : World) : (boot_heap w.params).objs.size = 11 := by kernel_rfl
def st0 : List Stmt := bd0.drop 28
def ts0 : List PySem.Expr := match st0 with | .Assign ts _ _ :: _ => ts | _ => []
def vl0 : PySem.Expr := match st0 with | .Assign _ v _ :: _ => v | _ => .Constant .none 0 ps0
def es0 : List PySem.Expr := match vl0 with | .List es _ => es | _ => []
def rs0 : List Stmt := bd0.drop 29
def lp0 : Pos := ⟨30, 11, 30, 1230⟩
noncomputable def nest : List Value → Sem (List Value) → Sem (List Value)
  | [], x => x
  | v :: vs, x => do return [v] ++ (← holding [v] (nest vs x))
noncomputable def zx (x : Sem (List Value)) : Sem Fin :=
  ((do
    let v ← (x >>= newList)
    assignStores env0 v (← swappedStores ts0 vl0 env0) ((assignEach ts0 env0).map (·.2))) >>= fun f => match f with
    | .next => execs rs0 env0
    | f => pure f : Sem Flow).wrap doneF deadEnd id id
noncomputable def valsFrom : Nat → List Int → List Value
  | _, [] => []
  | t, v :: r => .int v t :: valsFrom (t + 19) r
def mvs : List Int := [96, 113, 84, 96, 80, 113, 108, 49, 16, 60, 84, 108, 124, 124, 124, 124, 124, 124, 96, 96, 96, 104, 34, 188, 188, 188, 228, 228, 84, 84, 16, 98, 98, 132, 20, 0, 81, 80]
noncomputable def trees (k : Nat) : List (Bool × Sem Value) := backTo lp0 (starEach (es0.drop k) env0)
noncomputable def tx (k : Nat) (p : Pos) : Thread := ⟨zx (nest (valsFrom 326 (mvs.take k)) (spliced (trees k))), cd0, p, [topFrame ps0]⟩
def frm (P : Params) (t : Nat) (a b c d f : Int) (tc td tf : Nat) : Obj := { cls := .type "frame", data := .dict #[
  { hash := PyData.keyHash P (Str.ofString "is_test"), key := .str (Str.ofString "is_test") (t + 2), val := .int a t },
  { hash := PyData.keyHash P (Str.ofString "sets_a"), key := .str (Str.ofString "sets_a") (t + 3), val := .int b (t + 1) },
  { hash := PyData.keyHash P (Str.ofString "b"), key := .str (Str.ofString "b") (t + 4), val := .int c tc },
  { hash := PyData.keyHash P (Str.ofString "c"), key := .str (Str.ofString "c") (t + 5), val := .int d td },
  { hash := PyData.keyHash P (Str.ofString "form"), key := .str (Str.ofString "form") (t + 6), val := .int f tf }] 5 }
def fl (P : Params) : List Obj := [
  frm P 308 0 1 2 0 0 252 248 242,
  frm P 327 0 1 3 0 1 254 248 244,
  frm P 346 0 1 1 1 0 250 250 242,
  frm P 365 0 1 2 0 0 252 248 242,
  frm P 384 0 1 1 0 0 250 248 242,
  frm P 403 0 1 3 0 1 254 248 244,
  frm P 422 0 1 2 3 0 252 254 242,
  frm P 441 0 0 3 0 1 254 248 244,
  frm P 460 0 0 1 0 0 250 248 242,
  frm P 479 0 0 3 3 0 254 254 242,
  frm P 498 0 1 1 1 0 250 250 242,
  frm P 517 0 1 2 3 0 252 254 242,
  frm P 536 0 1 3 3 0 254 254 242,
  frm P 555 0 1 3 3 0 254 254 242,
  frm P 574 0 1 3 3 0 254 254 242,
  frm P 593 0 1 3 3 0 254 254 242,
  frm P 612 0 1 3 3 0 254 254 242,
  frm P 631 0 1 3 3 0 254 254 242,
  frm P 650 0 1 2 0 0 252 248 242,
  frm P 669 0 1 2 0 0 252 248 242,
  frm P 688 0 1 2 0 0 252 248 242,
  frm P 707 0 1 2 2 0 252 252 242,
  frm P 726 0 0 2 0 2 252 248 246,
  frm P 745 1 0 3 3 0 254 254 242,
  frm P 764 1 0 3 3 0 254 254 242,
  frm P 783 1 0 3 3 0 254 254 242,
  frm P 802 1 1 2 1 0 252 250 242,
  frm P 821 1 1 2 1 0 252 250 242,
  frm P 840 0 1 1 1 0 250 250 242,
  frm P 859 0 1 1 1 0 250 250 242,
  frm P 878 0 0 1 0 0 250 248 242,
  frm P 897 0 1 2 0 2 252 248 246,
  frm P 916 0 1 2 0 2 252 248 246,
  frm P 935 1 0 0 1 0 248 250 242,
  frm P 954 0 0 1 1 0 250 250 242,
  frm P 973 0 0 0 0 0 248 248 242,
  frm P 992 0 1 1 0 1 250 248 244,
  frm P 1011 0 1 1 0 0 250 248 242]
abbrev p0 : Thread := piecesOf bd0 env0 cd0 ps0 [topFrame ps0]
def pa (k : Nat) : Arguments := match bd0.drop k with | .FunctionDef _ a _ _ _ _ _ _ _ _ :: _ => a | _ => ⟨[], [], none, [], [], none, []⟩
def bo (k : Nat) : List Stmt := match bd0.drop k with | .FunctionDef _ _ b _ _ _ _ _ _ _ :: _ => b | _ => []
def so (k : Nat) : Scope := match bd0.drop k with | .FunctionDef _ _ _ _ _ _ sc _ _ _ :: _ => sc | _ => pq.main.scope
noncomputable def lb (P : Params) : List Obj := [
  boot_o_0 P,
  boot_o_1 P,
  boot_o_2 P,
  { cls := Value.type "dict", data := Data.dict #[{ hash := PyData.keyHash P (Str.ofString "__name__"), key := Value.str (Str.ofString "__name__") 165, val := Value.str (Str.ofString "lua.opcodes") 187 }, { hash := PyData.keyHash P (Str.ofString "__doc__"), key := Value.str (Str.ofString "__doc__") 166, val := Value.none }, { hash := PyData.keyHash P (Str.ofString "__package__"), key := Value.str (Str.ofString "__package__") 167, val := Value.none }, { hash := PyData.keyHash P (Str.ofString "__loader__"), key := Value.str (Str.ofString "__loader__") 168, val := Value.builtin "__main__.__loader__#opaque" }, { hash := PyData.keyHash P (Str.ofString "__spec__"), key := Value.str (Str.ofString "__spec__") 169, val := Value.none }, { hash := PyData.keyHash P (Str.ofString "__annotations__"), key := Value.str (Str.ofString "__annotations__") 170, val := Value.ref 6 }, { hash := PyData.keyHash P (Str.ofString "__builtins__"), key := Value.str (Str.ofString "__builtins__") 171, val := Value.ref 4 }, { hash := PyData.keyHash P (Str.ofString "__file__"), key := Value.str (Str.ofString "__file__") 173, val := Value.str (Str.ofString "/claim/cut.py") 172 }, { hash := PyData.keyHash P (Str.ofString "__cached__"), key := Value.str (Str.ofString "__cached__") 174, val := Value.none }, { hash := PyData.keyHash P (Str.ofString "SIZE_OP"), key := Value.str (Str.ofString "SIZE_OP") 190, val := Value.int 6 189 }, { hash := PyData.keyHash P (Str.ofString "SIZE_A"), key := Value.str (Str.ofString "SIZE_A") 192, val := Value.int 8 191 }, { hash := PyData.keyHash P (Str.ofString "SIZE_B"), key := Value.str (Str.ofString "SIZE_B") 194, val := Value.int 9 193 }, { hash := PyData.keyHash P (Str.ofString "SIZE_C"), key := Value.str (Str.ofString "SIZE_C") 196, val := Value.int 9 195 }, { hash := PyData.keyHash P (Str.ofString "SIZE_BX"), key := Value.str (Str.ofString "SIZE_BX") 198, val := Value.int 18 197 }, { hash := PyData.keyHash P (Str.ofString "POS_OP"), key := Value.str (Str.ofString "POS_OP") 200, val := Value.int 0 199 }, { hash := PyData.keyHash P (Str.ofString "POS_A"), key := Value.str (Str.ofString "POS_A") 202, val := Value.int 6 201 }, { hash := PyData.keyHash P (Str.ofString "POS_C"), key := Value.str (Str.ofString "POS_C") 204, val := Value.int 14 203 }, { hash := PyData.keyHash P (Str.ofString "POS_B"), key := Value.str (Str.ofString "POS_B") 206, val := Value.int 23 205 }, { hash := PyData.keyHash P (Str.ofString "POS_BX"), key := Value.str (Str.ofString "POS_BX") 207, val := Value.int 14 203 }, { hash := PyData.keyHash P (Str.ofString "MAXARG_A"), key := Value.str (Str.ofString "MAXARG_A") 212, val := Value.int 255 211 }, { hash := PyData.keyHash P (Str.ofString "MAXARG_B"), key := Value.str (Str.ofString "MAXARG_B") 217, val := Value.int 511 216 }, { hash := PyData.keyHash P (Str.ofString "MAXARG_C"), key := Value.str (Str.ofString "MAXARG_C") 222, val := Value.int 511 221 }, { hash := PyData.keyHash P (Str.ofString "MAXARG_BX"), key := Value.str (Str.ofString "MAXARG_BX") 227, val := Value.int 262143 226 }, { hash := PyData.keyHash P (Str.ofString "MAXARG_SBX"), key := Value.str (Str.ofString "MAXARG_SBX") 230, val := Value.int 131071 229 }, { hash := PyData.keyHash P (Str.ofString "MAX_WORD"), key := Value.str (Str.ofString "MAX_WORD") 236, val := Value.int 4294967295 235 }, { hash := PyData.keyHash P (Str.ofString "BITRK"), key := Value.str (Str.ofString "BITRK") 241, val := Value.int 256 240 }, { hash := PyData.keyHash P (Str.ofString "iABC"), key := Value.str (Str.ofString "iABC") 243, val := Value.int 0 242 }, { hash := PyData.keyHash P (Str.ofString "iABx"), key := Value.str (Str.ofString "iABx") 245, val := Value.int 1 244 }, { hash := PyData.keyHash P (Str.ofString "iAsBx"), key := Value.str (Str.ofString "iAsBx") 247, val := Value.int 2 246 }, { hash := PyData.keyHash P (Str.ofString "ARG_N"), key := Value.str (Str.ofString "ARG_N") 249, val := Value.int 0 248 }, { hash := PyData.keyHash P (Str.ofString "ARG_U"), key := Value.str (Str.ofString "ARG_U") 251, val := Value.int 1 250 }, { hash := PyData.keyHash P (Str.ofString "ARG_R"), key := Value.str (Str.ofString "ARG_R") 253, val := Value.int 2 252 }, { hash := PyData.keyHash P (Str.ofString "ARG_K"), key := Value.str (Str.ofString "ARG_K") 255, val := Value.int 3 254 }, { hash := PyData.keyHash P (Str.ofString "NUM_OPCODES"), key := Value.str (Str.ofString "NUM_OPCODES") 257, val := Value.int 38 256 }, { hash := PyData.keyHash P (Str.ofString "OP_NAMES"), key := Value.str (Str.ofString "OP_NAMES") 296, val := Value.ref 15 }, { hash := PyData.keyHash P (Str.ofString "mode"), key := Value.str (Str.ofString "mode") 307, val := Value.ref 22 }] 36 },
  boot_o_4 P,
  boot_o_5 P,
  boot_o_6 P,
  boot_o_7 P,
  boot_o_8 P,
  boot_o_9 P,
  boot_o_10 P,
  { cls := Value.type "tuple", data := Data.seq #[] },
  { cls := Value.none, data := Data.fields #[Value.int 28 0, Value.int 0 0, Value.ref 21] },
  { cls := Value.type "code", data := Data.fields #[Value.str (Str.ofString "<module>") 182, Value.str (Str.ofString "<module>") 183, Value.str (Str.ofString "/claim/cut.py") 184, Value.int 1 0, Value.int 0 0, Value.int 0 0, Value.int 0 0, Value.int 0 0, Value.ref 11, Value.bool false, Value.int 181 0, Value.ref 12, Value.none, Value.none, Value.none, Value.none, Value.int 185 0, Value.int 1 0, Value.str (Str.ofString "/claim/cut.py") 186] },
  { cls := Value.type "frame", slots := #[some (Value.ref 13), some (Value.ref 3), some (Value.ref 3), none, some (Value.str (Str.ofString "__main__") 164), none, some (Value.ref 0)] },
  { cls := Value.type "list", data := Data.seq #[Value.bytes #[77, 79, 86, 69] 258, Value.bytes #[76, 79, 65, 68, 75] 259, Value.bytes #[76, 79, 65, 68, 66, 79, 79, 76] 260, Value.bytes #[76, 79, 65, 68, 78, 73, 76] 261, Value.bytes #[71, 69, 84, 85, 80, 86, 65, 76] 262, Value.bytes #[71, 69, 84, 71, 76, 79, 66, 65, 76] 263, Value.bytes #[71, 69, 84, 84, 65, 66, 76, 69] 264, Value.bytes #[83, 69, 84, 71, 76, 79, 66, 65, 76] 265, Value.bytes #[83, 69, 84, 85, 80, 86, 65, 76] 266, Value.bytes #[83, 69, 84, 84, 65, 66, 76, 69] 267, Value.bytes #[78, 69, 87, 84, 65, 66, 76, 69] 268, Value.bytes #[83, 69, 76, 70] 269, Value.bytes #[65, 68, 68] 270, Value.bytes #[83, 85, 66] 271, Value.bytes #[77, 85, 76] 272, Value.bytes #[68, 73, 86] 273, Value.bytes #[77, 79, 68] 274, Value.bytes #[80, 79, 87] 275, Value.bytes #[85, 78, 77] 276, Value.bytes #[78, 79, 84] 277, Value.bytes #[76, 69, 78] 278, Value.bytes #[67, 79, 78, 67, 65, 84] 279, Value.bytes #[74, 77, 80] 280, Value.bytes #[69, 81] 281, Value.bytes #[76, 84] 282, Value.bytes #[76, 69] 283, Value.bytes #[84, 69, 83, 84] 284, Value.bytes #[84, 69, 83, 84, 83, 69, 84] 285, Value.bytes #[67, 65, 76, 76] 286, Value.bytes #[84, 65, 73, 76, 67, 65, 76, 76] 287, Value.bytes #[82, 69, 84, 85, 82, 78] 288, Value.bytes #[70, 79, 82, 76, 79, 79, 80] 289, Value.bytes #[70, 79, 82, 80, 82, 69, 80] 290, Value.bytes #[84, 70, 79, 82, 76, 79, 79, 80] 291, Value.bytes #[83, 69, 84, 76, 73, 83, 84] 292, Value.bytes #[67, 76, 79, 83, 69] 293, Value.bytes #[67, 76, 79, 83, 85, 82, 69] 294, Value.bytes #[86, 65, 82, 65, 82, 71] 295] },
  { cls := Value.type "tuple", data := Data.seq #[] },
  { cls := Value.none, data := Data.fields #[] },
  { cls := Value.type "tuple", data := Data.seq #[Value.str (Str.ofString "is_test") 300, Value.str (Str.ofString "sets_a") 301, Value.str (Str.ofString "b") 302, Value.str (Str.ofString "c") 303, Value.str (Str.ofString "form") 304] },
  { cls := Value.type "tuple", data := Data.seq #[] },
  { cls := Value.none, data := Data.func { name := Str.ofString "mode", qualname := Str.ofString "mode", params := pa 27, body := FuncBody.stmts (bo 27), scope := so 27, globals := 0, closure := [], defaults := Value.none, kwdefaults := Value.none } },
  { cls := Value.type "code", data := Data.fields #[Value.str (Str.ofString "mode") 297, Value.str (Str.ofString "mode") 298, Value.str (Str.ofString "/claim/cut.py") 299, Value.int 28 0, Value.int 5 0, Value.int 0 0, Value.int 0 0, Value.int 3 0, Value.ref 16, Value.bool true, Value.int 181 0, Value.ref 17, Value.none, Value.ref 18, Value.ref 19, Value.ref 20, Value.int 305 0, Value.int 28 0, Value.str (Str.ofString "/claim/cut.py") 306] },
  { cls := Value.type "function", data := Data.func { name := Str.ofString "mode", qualname := Str.ofString "mode", params := pa 27, body := FuncBody.stmts (bo 27), scope := so 27, globals := 3, closure := [], defaults := Value.none, kwdefaults := Value.none, pyModule := Value.str (Str.ofString "lua.opcodes") 187, code := Value.ref 21 } }]
noncomputable def sk (k : Nat) (w : World) (os : OsState) : SharedT := ⟨bt ((fl w.params).take k) 23 (bt (lb w.params) 0 .nil), 23 + k, {}, Array.mk [], {}, 308 + 19 * k, os⟩
theorem to_list (w : World) (os : OsState) : segGoT treeTable pq w 11 (an0 w) 1 434 (Ta w os) p0 = some (sk 0 w os, tx 0 ⟨30, 11, 30, 1230⟩) := by
  rw [PySem.W.Fast.te10295753902157049106]
  kernel_rfl
theorem to_8 (w : World) (os : OsState) : segGoT treeTable pq w 11 (an0 w) 1 791 (sk 0 w os) (tx 0 ⟨30, 11, 30, 1230⟩) = some (sk 8 w os, tx 8 ⟨30, 236, 30, 266⟩) := by
  rw [PySem.W.Fast.te10295753902157049106]
  kernel_rfl
theorem to_16 (w : World) (os : OsState) : segGoT treeTable pq w 11 (an0 w) 1 787 (sk 8 w os) (tx 8 ⟨30, 236, 30, 266⟩) = some (sk 16 w os, tx 16 ⟨30, 492, 30, 522⟩) := by
  rw [PySem.W.Fast.te10295753902157049106]
  kernel_rfl
theorem to_24 (w : World) (os : OsState) : segGoT treeTable pq w 11 (an0 w) 1 789 (sk 16 w os) (tx 16 ⟨30, 492, 30, 522⟩) = some (sk 24 w os, tx 24 ⟨30, 749, 30, 779⟩) := by
  rw [PySem.W.Fast.te10295753902157049106]
  kernel_rfl
theorem to_31 (w : World) (os : OsState) : segGoT treeTable pq w 11 (an0 w) 1 686 (sk 24 w os) (tx 24 ⟨30, 749, 30, 779⟩) = some (sk 31 w os, tx 31 ⟨30, 973, 30, 1003⟩) := by
  rw [PySem.W.Fast.te10295753902157049106]
  kernel_rfl
theorem to_38 (w : World) (os : OsState) : segGoT treeTable pq w 11 (an0 w) 1 695 (sk 31 w os) (tx 31 ⟨30, 973, 30, 1003⟩) = some (sk 38 w os, tx 38 ⟨30, 1199, 30, 1229⟩) := by
  rw [PySem.W.Fast.te10295753902157049106]
  kernel_rfl
noncomputable def lf1 (P : Params) : List Obj := [
  boot_o_0 P,
  boot_o_1 P,
  boot_o_2 P,
  { cls := Value.type "dict", data := Data.dict #[{ hash := PyData.keyHash P (Str.ofString "__name__"), key := Value.str (Str.ofString "__name__") 165, val := Value.str (Str.ofString "law_nt0633_01") 1232 }, { hash := PyData.keyHash P (Str.ofString "__doc__"), key := Value.str (Str.ofString "__doc__") 166, val := Value.none }, { hash := PyData.keyHash P (Str.ofString "__package__"), key := Value.str (Str.ofString "__package__") 167, val := Value.none }, { hash := PyData.keyHash P (Str.ofString "__loader__"), key := Value.str (Str.ofString "__loader__") 168, val := Value.builtin "__main__.__loader__#opaque" }, { hash := PyData.keyHash P (Str.ofString "__spec__"), key := Value.str (Str.ofString "__spec__") 169, val := Value.none }, { hash := PyData.keyHash P (Str.ofString "__annotations__"), key := Value.str (Str.ofString "__annotations__") 170, val := Value.ref 6 }, { hash := PyData.keyHash P (Str.ofString "__builtins__"), key := Value.str (Str.ofString "__builtins__") 171, val := Value.ref 4 }, { hash := PyData.keyHash P (Str.ofString "__file__"), key := Value.str (Str.ofString "__file__") 173, val := Value.str (Str.ofString "/claim/cut.py") 172 }, { hash := PyData.keyHash P (Str.ofString "__cached__"), key := Value.str (Str.ofString "__cached__") 174, val := Value.none }, { hash := PyData.keyHash P (Str.ofString "SIZE_OP"), key := Value.str (Str.ofString "SIZE_OP") 190, val := Value.int 6 189 }, { hash := PyData.keyHash P (Str.ofString "SIZE_A"), key := Value.str (Str.ofString "SIZE_A") 192, val := Value.int 8 191 }, { hash := PyData.keyHash P (Str.ofString "SIZE_B"), key := Value.str (Str.ofString "SIZE_B") 194, val := Value.int 9 193 }, { hash := PyData.keyHash P (Str.ofString "SIZE_C"), key := Value.str (Str.ofString "SIZE_C") 196, val := Value.int 9 195 }, { hash := PyData.keyHash P (Str.ofString "SIZE_BX"), key := Value.str (Str.ofString "SIZE_BX") 198, val := Value.int 18 197 }, { hash := PyData.keyHash P (Str.ofString "POS_OP"), key := Value.str (Str.ofString "POS_OP") 200, val := Value.int 0 199 }, { hash := PyData.keyHash P (Str.ofString "POS_A"), key := Value.str (Str.ofString "POS_A") 202, val := Value.int 6 201 }, { hash := PyData.keyHash P (Str.ofString "POS_C"), key := Value.str (Str.ofString "POS_C") 204, val := Value.int 14 203 }, { hash := PyData.keyHash P (Str.ofString "POS_B"), key := Value.str (Str.ofString "POS_B") 206, val := Value.int 23 205 }, { hash := PyData.keyHash P (Str.ofString "POS_BX"), key := Value.str (Str.ofString "POS_BX") 207, val := Value.int 14 203 }, { hash := PyData.keyHash P (Str.ofString "MAXARG_A"), key := Value.str (Str.ofString "MAXARG_A") 212, val := Value.int 255 211 }, { hash := PyData.keyHash P (Str.ofString "MAXARG_B"), key := Value.str (Str.ofString "MAXARG_B") 217, val := Value.int 511 216 }, { hash := PyData.keyHash P (Str.ofString "MAXARG_C"), key := Value.str (Str.ofString "MAXARG_C") 222, val := Value.int 511 221 }, { hash := PyData.keyHash P (Str.ofString "MAXARG_BX"), key := Value.str (Str.ofString "MAXARG_BX") 227, val := Value.int 262143 226 }, { hash := PyData.keyHash P (Str.ofString "MAXARG_SBX"), key := Value.str (Str.ofString "MAXARG_SBX") 230, val := Value.int 131071 229 }, { hash := PyData.keyHash P (Str.ofString "MAX_WORD"), key := Value.str (Str.ofString "MAX_WORD") 236, val := Value.int 4294967295 235 }, { hash := PyData.keyHash P (Str.ofString "BITRK"), key := Value.str (Str.ofString "BITRK") 241, val := Value.int 256 240 }, { hash := PyData.keyHash P (Str.ofString "iABC"), key := Value.str (Str.ofString "iABC") 243, val := Value.int 0 242 }, { hash := PyData.keyHash P (Str.ofString "iABx"), key := Value.str (Str.ofString "iABx") 245, val := Value.int 1 244 }, { hash := PyData.keyHash P (Str.ofString "iAsBx"), key := Value.str (Str.ofString "iAsBx") 247, val := Value.int 2 246 }, { hash := PyData.keyHash P (Str.ofString "ARG_N"), key := Value.str (Str.ofString "ARG_N") 249, val := Value.int 0 248 }, { hash := PyData.keyHash P (Str.ofString "ARG_U"), key := Value.str (Str.ofString "ARG_U") 251, val := Value.int 1 250 }, { hash := PyData.keyHash P (Str.ofString "ARG_R"), key := Value.str (Str.ofString "ARG_R") 253, val := Value.int 2 252 }, { hash := PyData.keyHash P (Str.ofString "ARG_K"), key := Value.str (Str.ofString "ARG_K") 255, val := Value.int 3 254 }, { hash := PyData.keyHash P (Str.ofString "NUM_OPCODES"), key := Value.str (Str.ofString "NUM_OPCODES") 257, val := Value.int 38 256 }, { hash := PyData.keyHash P (Str.ofString "OP_NAMES"), key := Value.str (Str.ofString "OP_NAMES") 296, val := Value.ref 15 }, { hash := PyData.keyHash P (Str.ofString "mode"), key := Value.str (Str.ofString "mode") 307, val := Value.ref 22 }, { hash := PyData.keyHash P (Str.ofString "OP_MODES"), key := Value.str (Str.ofString "OP_MODES") 1030, val := Value.ref 61 }, { hash := PyData.keyHash P (Str.ofString "op_mode"), key := Value.str (Str.ofString "op_mode") 1037, val := Value.ref 68 }, { hash := PyData.keyHash P (Str.ofString "b_mode"), key := Value.str (Str.ofString "b_mode") 1044, val := Value.ref 75 }, { hash := PyData.keyHash P (Str.ofString "c_mode"), key := Value.str (Str.ofString "c_mode") 1051, val := Value.ref 82 }, { hash := PyData.keyHash P (Str.ofString "test_a"), key := Value.str (Str.ofString "test_a") 1058, val := Value.ref 89 }, { hash := PyData.keyHash P (Str.ofString "test_t"), key := Value.str (Str.ofString "test_t") 1065, val := Value.ref 96 }, { hash := PyData.keyHash P (Str.ofString "field"), key := Value.str (Str.ofString "field") 1074, val := Value.ref 103 }, { hash := PyData.keyHash P (Str.ofString "with_field"), key := Value.str (Str.ofString "with_field") 1085, val := Value.ref 110 }, { hash := PyData.keyHash P (Str.ofString "create_abc"), key := Value.str (Str.ofString "create_abc") 1095, val := Value.ref 117 }, { hash := PyData.keyHash P (Str.ofString "create_abx"), key := Value.str (Str.ofString "create_abx") 1104, val := Value.ref 124 }, { hash := PyData.keyHash P (Str.ofString "create_asbx"), key := Value.str (Str.ofString "create_asbx") 1113, val := Value.ref 131 }, { hash := PyData.keyHash P (Str.ofString "get_op"), key := Value.str (Str.ofString "get_op") 1120, val := Value.ref 138 }, { hash := PyData.keyHash P (Str.ofString "get_a"), key := Value.str (Str.ofString "get_a") 1127, val := Value.ref 145 }, { hash := PyData.keyHash P (Str.ofString "get_b"), key := Value.str (Str.ofString "get_b") 1134, val := Value.ref 152 }, { hash := PyData.keyHash P (Str.ofString "get_c"), key := Value.str (Str.ofString "get_c") 1141, val := Value.ref 159 }, { hash := PyData.keyHash P (Str.ofString "get_bx"), key := Value.str (Str.ofString "get_bx") 1148, val := Value.ref 166 }, { hash := PyData.keyHash P (Str.ofString "get_sbx"), key := Value.str (Str.ofString "get_sbx") 1155, val := Value.ref 173 }, { hash := PyData.keyHash P (Str.ofString "set_op"), key := Value.str (Str.ofString "set_op") 1163, val := Value.ref 180 }, { hash := PyData.keyHash P (Str.ofString "set_a"), key := Value.str (Str.ofString "set_a") 1171, val := Value.ref 187 }, { hash := PyData.keyHash P (Str.ofString "set_b"), key := Value.str (Str.ofString "set_b") 1179, val := Value.ref 194 }, { hash := PyData.keyHash P (Str.ofString "set_c"), key := Value.str (Str.ofString "set_c") 1187, val := Value.ref 201 }, { hash := PyData.keyHash P (Str.ofString "set_bx"), key := Value.str (Str.ofString "set_bx") 1195, val := Value.ref 208 }, { hash := PyData.keyHash P (Str.ofString "set_sbx"), key := Value.str (Str.ofString "set_sbx") 1203, val := Value.ref 215 }, { hash := PyData.keyHash P (Str.ofString "is_k"), key := Value.str (Str.ofString "is_k") 1210, val := Value.ref 222 }, { hash := PyData.keyHash P (Str.ofString "index_k"), key := Value.str (Str.ofString "index_k") 1217, val := Value.ref 229 }, { hash := PyData.keyHash P (Str.ofString "rk_as_k"), key := Value.str (Str.ofString "rk_as_k") 1224, val := Value.ref 236 }, { hash := PyData.keyHash P (Str.ofString "is_word"), key := Value.str (Str.ofString "is_word") 1231, val := Value.ref 243 }, { hash := PyData.keyHash P (Str.ofString "_law_table"), key := Value.str (Str.ofString "_law_table") 1239, val := Value.ref 248 }, { hash := PyData.keyHash P (Str.ofString "_law_table_right"), key := Value.str (Str.ofString "_law_table_right") 1245, val := Value.ref 253 }, { hash := PyData.keyHash P (Str.ofString "_law_draw"), key := Value.str (Str.ofString "_law_draw") 1253, val := Value.ref 260 }, { hash := PyData.keyHash P (Str.ofString "_law_operand"), key := Value.str (Str.ofString "_law_operand") 1262, val := Value.ref 267 }, { hash := PyData.keyHash P (Str.ofString "_law_fields"), key := Value.str (Str.ofString "_law_fields") 1270, val := Value.ref 274 }, { hash := PyData.keyHash P (Str.ofString "_law_told"), key := Value.str (Str.ofString "_law_told") 1277, val := Value.ref 281 }, { hash := PyData.keyHash P (Str.ofString "_law_packed_right"), key := Value.str (Str.ofString "_law_packed_right") 1288, val := Value.ref 288 }, { hash := PyData.keyHash P (Str.ofString "_law_set_right"), key := Value.str (Str.ofString "_law_set_right") 1294, val := Value.ref 293 }, { hash := PyData.keyHash P (Str.ofString "_law_operands_right"), key := Value.str (Str.ofString "_law_operands_right") 1301, val := Value.ref 300 }, { hash := PyData.keyHash P (Str.ofString "law"), key := Value.str (Str.ofString "law") 1307, val := Value.ref 305 }] 73 },
  boot_o_4 P,
  boot_o_5 P,
  boot_o_6 P,
  boot_o_7 P,
  boot_o_8 P,
  boot_o_9 P,
  boot_o_10 P,
  { cls := Value.type "tuple", data := Data.seq #[] },
  { cls := Value.none, data := Data.fields #[Value.int 28 0, Value.int 0 0, Value.ref 21, Value.int 31 0, Value.int 0 0, Value.ref 67, Value.int 33 0, Value.int 0 0, Value.ref 74, Value.int 35 0, Value.int 0 0, Value.ref 81, Value.int 37 0, Value.int 0 0, Value.ref 88, Value.int 39 0, Value.int 0 0, Value.ref 95, Value.int 41 0, Value.int 0 0, Value.ref 102, Value.int 43 0, Value.int 0 0, Value.ref 109, Value.int 46 0, Value.int 0 0, Value.ref 116, Value.int 48 0, Value.int 0 0, Value.ref 123, Value.int 50 0, Value.int 0 0, Value.ref 130, Value.int 52 0, Value.int 0 0, Value.ref 137, Value.int 54 0, Value.int 0 0, Value.ref 144, Value.int 56 0, Value.int 0 0, Value.ref 151, Value.int 58 0, Value.int 0 0, Value.ref 158, Value.int 60 0, Value.int 0 0, Value.ref 165, Value.int 62 0, Value.int 0 0, Value.ref 172, Value.int 64 0, Value.int 0 0, Value.ref 179, Value.int 66 0, Value.int 0 0, Value.ref 186, Value.int 68 0, Value.int 0 0, Value.ref 193, Value.int 70 0, Value.int 0 0, Value.ref 200, Value.int 72 0, Value.int 0 0, Value.ref 207, Value.int 74 0, Value.int 0 0, Value.ref 214, Value.int 76 0, Value.int 0 0, Value.ref 221, Value.int 78 0, Value.int 0 0, Value.ref 228, Value.int 80 0, Value.int 0 0, Value.ref 235, Value.int 82 0, Value.int 0 0, Value.ref 242, Value.int 85 0, Value.int 0 0, Value.ref 247, Value.int 95 0, Value.int 0 0, Value.ref 252, Value.int 107 0, Value.int 0 0, Value.ref 259, Value.int 113 0, Value.int 0 0, Value.ref 266, Value.int 116 0, Value.int 0 0, Value.ref 273, Value.int 119 0, Value.int 0 0, Value.ref 280, Value.int 121 0, Value.int 0 0, Value.ref 287, Value.int 127 0, Value.int 0 0, Value.ref 292, Value.int 135 0, Value.int 0 0, Value.ref 299, Value.int 139 0, Value.int 0 0, Value.ref 304] },
  { cls := Value.type "code", data := Data.fields #[Value.str (Str.ofString "<module>") 182, Value.str (Str.ofString "<module>") 183, Value.str (Str.ofString "/claim/cut.py") 184, Value.int 1 0, Value.int 0 0, Value.int 0 0, Value.int 0 0, Value.int 0 0, Value.ref 11, Value.bool false, Value.int 181 0, Value.ref 12, Value.none, Value.none, Value.none, Value.none, Value.int 185 0, Value.int 1 0, Value.str (Str.ofString "/claim/cut.py") 186] },
  { cls := Value.type "frame", slots := #[some (Value.ref 13), some (Value.ref 3), some (Value.ref 3), none, some (Value.str (Str.ofString "__main__") 164), none, some (Value.ref 0)] },
  { cls := Value.type "list", data := Data.seq #[Value.bytes #[77, 79, 86, 69] 258, Value.bytes #[76, 79, 65, 68, 75] 259, Value.bytes #[76, 79, 65, 68, 66, 79, 79, 76] 260, Value.bytes #[76, 79, 65, 68, 78, 73, 76] 261, Value.bytes #[71, 69, 84, 85, 80, 86, 65, 76] 262, Value.bytes #[71, 69, 84, 71, 76, 79, 66, 65, 76] 263, Value.bytes #[71, 69, 84, 84, 65, 66, 76, 69] 264, Value.bytes #[83, 69, 84, 71, 76, 79, 66, 65, 76] 265, Value.bytes #[83, 69, 84, 85, 80, 86, 65, 76] 266, Value.bytes #[83, 69, 84, 84, 65, 66, 76, 69] 267, Value.bytes #[78, 69, 87, 84, 65, 66, 76, 69] 268, Value.bytes #[83, 69, 76, 70] 269, Value.bytes #[65, 68, 68] 270, Value.bytes #[83, 85, 66] 271, Value.bytes #[77, 85, 76] 272, Value.bytes #[68, 73, 86] 273, Value.bytes #[77, 79, 68] 274, Value.bytes #[80, 79, 87] 275, Value.bytes #[85, 78, 77] 276, Value.bytes #[78, 79, 84] 277, Value.bytes #[76, 69, 78] 278, Value.bytes #[67, 79, 78, 67, 65, 84] 279, Value.bytes #[74, 77, 80] 280, Value.bytes #[69, 81] 281, Value.bytes #[76, 84] 282, Value.bytes #[76, 69] 283, Value.bytes #[84, 69, 83, 84] 284, Value.bytes #[84, 69, 83, 84, 83, 69, 84] 285, Value.bytes #[67, 65, 76, 76] 286, Value.bytes #[84, 65, 73, 76, 67, 65, 76, 76] 287, Value.bytes #[82, 69, 84, 85, 82, 78] 288, Value.bytes #[70, 79, 82, 76, 79, 79, 80] 289, Value.bytes #[70, 79, 82, 80, 82, 69, 80] 290, Value.bytes #[84, 70, 79, 82, 76, 79, 79, 80] 291, Value.bytes #[83, 69, 84, 76, 73, 83, 84] 292, Value.bytes #[67, 76, 79, 83, 69] 293, Value.bytes #[67, 76, 79, 83, 85, 82, 69] 294, Value.bytes #[86, 65, 82, 65, 82, 71] 295] },
  { cls := Value.type "tuple", data := Data.seq #[] },
  { cls := Value.none, data := Data.fields #[] },
  { cls := Value.type "tuple", data := Data.seq #[Value.str (Str.ofString "is_test") 300, Value.str (Str.ofString "sets_a") 301, Value.str (Str.ofString "b") 302, Value.str (Str.ofString "c") 303, Value.str (Str.ofString "form") 304] },
  { cls := Value.type "tuple", data := Data.seq #[] },
  { cls := Value.none, data := Data.func { name := Str.ofString "mode", qualname := Str.ofString "mode", params := pa 27, body := FuncBody.stmts (bo 27), scope := so 27, globals := 0, closure := [], defaults := Value.none, kwdefaults := Value.none } },
  { cls := Value.type "code", data := Data.fields #[Value.str (Str.ofString "mode") 297, Value.str (Str.ofString "mode") 298, Value.str (Str.ofString "/claim/cut.py") 299, Value.int 28 0, Value.int 5 0, Value.int 0 0, Value.int 0 0, Value.int 3 0, Value.ref 16, Value.bool true, Value.int 181 0, Value.ref 17, Value.none, Value.ref 18, Value.ref 19, Value.ref 20, Value.int 305 0, Value.int 28 0, Value.str (Str.ofString "/claim/cut.py") 306] },
  { cls := Value.type "function", data := Data.func { name := Str.ofString "mode", qualname := Str.ofString "mode", params := pa 27, body := FuncBody.stmts (bo 27), scope := so 27, globals := 3, closure := [], defaults := Value.none, kwdefaults := Value.none, pyModule := Value.str (Str.ofString "lua.opcodes") 187, code := Value.ref 21 } }]
noncomputable def lf2 (P : Params) : List Obj := [
  { cls := Value.type "list", data := Data.seq #[Value.int 96 326, Value.int 113 345, Value.int 84 364, Value.int 96 383, Value.int 80 402, Value.int 113 421, Value.int 108 440, Value.int 49 459, Value.int 16 478, Value.int 60 497, Value.int 84 516, Value.int 108 535, Value.int 124 554, Value.int 124 573, Value.int 124 592, Value.int 124 611, Value.int 124 630, Value.int 124 649, Value.int 96 668, Value.int 96 687, Value.int 96 706, Value.int 104 725, Value.int 34 744, Value.int 188 763, Value.int 188 782, Value.int 188 801, Value.int 228 820, Value.int 228 839, Value.int 84 858, Value.int 84 877, Value.int 16 896, Value.int 98 915, Value.int 98 934, Value.int 132 953, Value.int 20 972, Value.int 0 991, Value.int 81 1010, Value.int 80 1029] },
  { cls := Value.type "tuple", data := Data.seq #[] },
  { cls := Value.none, data := Data.fields #[] },
  { cls := Value.type "tuple", data := Data.seq #[Value.str (Str.ofString "op") 1034] },
  { cls := Value.type "tuple", data := Data.seq #[] },
  { cls := Value.none, data := Data.func { name := Str.ofString "op_mode", qualname := Str.ofString "op_mode", params := pa 29, body := FuncBody.stmts (bo 29), scope := so 29, globals := 0, closure := [], defaults := Value.none, kwdefaults := Value.none } },
  { cls := Value.type "code", data := Data.fields #[Value.str (Str.ofString "op_mode") 1031, Value.str (Str.ofString "op_mode") 1032, Value.str (Str.ofString "/claim/cut.py") 1033, Value.int 31 0, Value.int 1 0, Value.int 0 0, Value.int 0 0, Value.int 3 0, Value.ref 62, Value.bool true, Value.int 181 0, Value.ref 63, Value.none, Value.ref 64, Value.ref 65, Value.ref 66, Value.int 1035 0, Value.int 31 0, Value.str (Str.ofString "/claim/cut.py") 1036] },
  { cls := Value.type "function", data := Data.func { name := Str.ofString "op_mode", qualname := Str.ofString "op_mode", params := pa 29, body := FuncBody.stmts (bo 29), scope := so 29, globals := 3, closure := [], defaults := Value.none, kwdefaults := Value.none, pyModule := Value.str (Str.ofString "lua.opcodes") 187, code := Value.ref 67 } },
  { cls := Value.type "tuple", data := Data.seq #[] },
  { cls := Value.none, data := Data.fields #[] },
  { cls := Value.type "tuple", data := Data.seq #[Value.str (Str.ofString "op") 1041] },
  { cls := Value.type "tuple", data := Data.seq #[] },
  { cls := Value.none, data := Data.func { name := Str.ofString "b_mode", qualname := Str.ofString "b_mode", params := pa 30, body := FuncBody.stmts (bo 30), scope := so 29, globals := 0, closure := [], defaults := Value.none, kwdefaults := Value.none } },
  { cls := Value.type "code", data := Data.fields #[Value.str (Str.ofString "b_mode") 1038, Value.str (Str.ofString "b_mode") 1039, Value.str (Str.ofString "/claim/cut.py") 1040, Value.int 33 0, Value.int 1 0, Value.int 0 0, Value.int 0 0, Value.int 3 0, Value.ref 69, Value.bool true, Value.int 181 0, Value.ref 70, Value.none, Value.ref 71, Value.ref 72, Value.ref 73, Value.int 1042 0, Value.int 33 0, Value.str (Str.ofString "/claim/cut.py") 1043] },
  { cls := Value.type "function", data := Data.func { name := Str.ofString "b_mode", qualname := Str.ofString "b_mode", params := pa 30, body := FuncBody.stmts (bo 30), scope := so 29, globals := 3, closure := [], defaults := Value.none, kwdefaults := Value.none, pyModule := Value.str (Str.ofString "lua.opcodes") 187, code := Value.ref 74 } },
  { cls := Value.type "tuple", data := Data.seq #[] },
  { cls := Value.none, data := Data.fields #[] },
  { cls := Value.type "tuple", data := Data.seq #[Value.str (Str.ofString "op") 1048] },
  { cls := Value.type "tuple", data := Data.seq #[] },
  { cls := Value.none, data := Data.func { name := Str.ofString "c_mode", qualname := Str.ofString "c_mode", params := pa 31, body := FuncBody.stmts (bo 31), scope := so 29, globals := 0, closure := [], defaults := Value.none, kwdefaults := Value.none } },
  { cls := Value.type "code", data := Data.fields #[Value.str (Str.ofString "c_mode") 1045, Value.str (Str.ofString "c_mode") 1046, Value.str (Str.ofString "/claim/cut.py") 1047, Value.int 35 0, Value.int 1 0, Value.int 0 0, Value.int 0 0, Value.int 3 0, Value.ref 76, Value.bool true, Value.int 181 0, Value.ref 77, Value.none, Value.ref 78, Value.ref 79, Value.ref 80, Value.int 1049 0, Value.int 35 0, Value.str (Str.ofString "/claim/cut.py") 1050] },
  { cls := Value.type "function", data := Data.func { name := Str.ofString "c_mode", qualname := Str.ofString "c_mode", params := pa 31, body := FuncBody.stmts (bo 31), scope := so 29, globals := 3, closure := [], defaults := Value.none, kwdefaults := Value.none, pyModule := Value.str (Str.ofString "lua.opcodes") 187, code := Value.ref 81 } },
  { cls := Value.type "tuple", data := Data.seq #[] },
  { cls := Value.none, data := Data.fields #[] },
  { cls := Value.type "tuple", data := Data.seq #[Value.str (Str.ofString "op") 1055] },
  { cls := Value.type "tuple", data := Data.seq #[] },
  { cls := Value.none, data := Data.func { name := Str.ofString "test_a", qualname := Str.ofString "test_a", params := pa 32, body := FuncBody.stmts (bo 32), scope := so 29, globals := 0, closure := [], defaults := Value.none, kwdefaults := Value.none } },
  { cls := Value.type "code", data := Data.fields #[Value.str (Str.ofString "test_a") 1052, Value.str (Str.ofString "test_a") 1053, Value.str (Str.ofString "/claim/cut.py") 1054, Value.int 37 0, Value.int 1 0, Value.int 0 0, Value.int 0 0, Value.int 3 0, Value.ref 83, Value.bool true, Value.int 181 0, Value.ref 84, Value.none, Value.ref 85, Value.ref 86, Value.ref 87, Value.int 1056 0, Value.int 37 0, Value.str (Str.ofString "/claim/cut.py") 1057] },
  { cls := Value.type "function", data := Data.func { name := Str.ofString "test_a", qualname := Str.ofString "test_a", params := pa 32, body := FuncBody.stmts (bo 32), scope := so 29, globals := 3, closure := [], defaults := Value.none, kwdefaults := Value.none, pyModule := Value.str (Str.ofString "lua.opcodes") 187, code := Value.ref 88 } },
  { cls := Value.type "tuple", data := Data.seq #[] },
  { cls := Value.none, data := Data.fields #[] },
  { cls := Value.type "tuple", data := Data.seq #[Value.str (Str.ofString "op") 1062] },
  { cls := Value.type "tuple", data := Data.seq #[] },
  { cls := Value.none, data := Data.func { name := Str.ofString "test_t", qualname := Str.ofString "test_t", params := pa 33, body := FuncBody.stmts (bo 33), scope := so 29, globals := 0, closure := [], defaults := Value.none, kwdefaults := Value.none } },
  { cls := Value.type "code", data := Data.fields #[Value.str (Str.ofString "test_t") 1059, Value.str (Str.ofString "test_t") 1060, Value.str (Str.ofString "/claim/cut.py") 1061, Value.int 39 0, Value.int 1 0, Value.int 0 0, Value.int 0 0, Value.int 3 0, Value.ref 90, Value.bool true, Value.int 181 0, Value.ref 91, Value.none, Value.ref 92, Value.ref 93, Value.ref 94, Value.int 1063 0, Value.int 39 0, Value.str (Str.ofString "/claim/cut.py") 1064] },
  { cls := Value.type "function", data := Data.func { name := Str.ofString "test_t", qualname := Str.ofString "test_t", params := pa 33, body := FuncBody.stmts (bo 33), scope := so 29, globals := 3, closure := [], defaults := Value.none, kwdefaults := Value.none, pyModule := Value.str (Str.ofString "lua.opcodes") 187, code := Value.ref 95 } },
  { cls := Value.type "tuple", data := Data.seq #[] },
  { cls := Value.none, data := Data.fields #[] },
  { cls := Value.type "tuple", data := Data.seq #[Value.str (Str.ofString "word") 1069, Value.str (Str.ofString "pos") 1070, Value.str (Str.ofString "size") 1071] },
  { cls := Value.type "tuple", data := Data.seq #[] },
  { cls := Value.none, data := Data.func { name := Str.ofString "field", qualname := Str.ofString "field", params := pa 34, body := FuncBody.stmts (bo 34), scope := so 34, globals := 0, closure := [], defaults := Value.none, kwdefaults := Value.none } },
  { cls := Value.type "code", data := Data.fields #[Value.str (Str.ofString "field") 1066, Value.str (Str.ofString "field") 1067, Value.str (Str.ofString "/claim/cut.py") 1068, Value.int 41 0, Value.int 3 0, Value.int 0 0, Value.int 0 0, Value.int 3 0, Value.ref 97, Value.bool true, Value.int 181 0, Value.ref 98, Value.none, Value.ref 99, Value.ref 100, Value.ref 101, Value.int 1072 0, Value.int 41 0, Value.str (Str.ofString "/claim/cut.py") 1073] },
  { cls := Value.type "function", data := Data.func { name := Str.ofString "field", qualname := Str.ofString "field", params := pa 34, body := FuncBody.stmts (bo 34), scope := so 34, globals := 3, closure := [], defaults := Value.none, kwdefaults := Value.none, pyModule := Value.str (Str.ofString "lua.opcodes") 187, code := Value.ref 102 } },
  { cls := Value.type "tuple", data := Data.seq #[] },
  { cls := Value.none, data := Data.fields #[] },
  { cls := Value.type "tuple", data := Data.seq #[Value.str (Str.ofString "word") 1078, Value.str (Str.ofString "value") 1079, Value.str (Str.ofString "pos") 1080, Value.str (Str.ofString "size") 1081, Value.str (Str.ofString "mask") 1082] },
  { cls := Value.type "tuple", data := Data.seq #[] },
  { cls := Value.none, data := Data.func { name := Str.ofString "with_field", qualname := Str.ofString "with_field", params := pa 35, body := FuncBody.stmts (bo 35), scope := so 35, globals := 0, closure := [], defaults := Value.none, kwdefaults := Value.none } },
  { cls := Value.type "code", data := Data.fields #[Value.str (Str.ofString "with_field") 1075, Value.str (Str.ofString "with_field") 1076, Value.str (Str.ofString "/claim/cut.py") 1077, Value.int 43 0, Value.int 4 0, Value.int 0 0, Value.int 0 0, Value.int 3 0, Value.ref 104, Value.bool true, Value.int 181 0, Value.ref 105, Value.none, Value.ref 106, Value.ref 107, Value.ref 108, Value.int 1083 0, Value.int 43 0, Value.str (Str.ofString "/claim/cut.py") 1084] },
  { cls := Value.type "function", data := Data.func { name := Str.ofString "with_field", qualname := Str.ofString "with_field", params := pa 35, body := FuncBody.stmts (bo 35), scope := so 35, globals := 3, closure := [], defaults := Value.none, kwdefaults := Value.none, pyModule := Value.str (Str.ofString "lua.opcodes") 187, code := Value.ref 109 } },
  { cls := Value.type "tuple", data := Data.seq #[] },
  { cls := Value.none, data := Data.fields #[] },
  { cls := Value.type "tuple", data := Data.seq #[Value.str (Str.ofString "op") 1089, Value.str (Str.ofString "a") 1090, Value.str (Str.ofString "b") 1091, Value.str (Str.ofString "c") 1092] },
  { cls := Value.type "tuple", data := Data.seq #[] },
  { cls := Value.none, data := Data.func { name := Str.ofString "create_abc", qualname := Str.ofString "create_abc", params := pa 36, body := FuncBody.stmts (bo 36), scope := so 36, globals := 0, closure := [], defaults := Value.none, kwdefaults := Value.none } },
  { cls := Value.type "code", data := Data.fields #[Value.str (Str.ofString "create_abc") 1086, Value.str (Str.ofString "create_abc") 1087, Value.str (Str.ofString "/claim/cut.py") 1088, Value.int 46 0, Value.int 4 0, Value.int 0 0, Value.int 0 0, Value.int 3 0, Value.ref 111, Value.bool true, Value.int 181 0, Value.ref 112, Value.none, Value.ref 113, Value.ref 114, Value.ref 115, Value.int 1093 0, Value.int 46 0, Value.str (Str.ofString "/claim/cut.py") 1094] },
  { cls := Value.type "function", data := Data.func { name := Str.ofString "create_abc", qualname := Str.ofString "create_abc", params := pa 36, body := FuncBody.stmts (bo 36), scope := so 36, globals := 3, closure := [], defaults := Value.none, kwdefaults := Value.none, pyModule := Value.str (Str.ofString "lua.opcodes") 187, code := Value.ref 116 } },
  { cls := Value.type "tuple", data := Data.seq #[] },
  { cls := Value.none, data := Data.fields #[] },
  { cls := Value.type "tuple", data := Data.seq #[Value.str (Str.ofString "op") 1099, Value.str (Str.ofString "a") 1100, Value.str (Str.ofString "bx") 1101] },
  { cls := Value.type "tuple", data := Data.seq #[] },
  { cls := Value.none, data := Data.func { name := Str.ofString "create_abx", qualname := Str.ofString "create_abx", params := pa 37, body := FuncBody.stmts (bo 37), scope := so 37, globals := 0, closure := [], defaults := Value.none, kwdefaults := Value.none } },
  { cls := Value.type "code", data := Data.fields #[Value.str (Str.ofString "create_abx") 1096, Value.str (Str.ofString "create_abx") 1097, Value.str (Str.ofString "/claim/cut.py") 1098, Value.int 48 0, Value.int 3 0, Value.int 0 0, Value.int 0 0, Value.int 3 0, Value.ref 118, Value.bool true, Value.int 181 0, Value.ref 119, Value.none, Value.ref 120, Value.ref 121, Value.ref 122, Value.int 1102 0, Value.int 48 0, Value.str (Str.ofString "/claim/cut.py") 1103] },
  { cls := Value.type "function", data := Data.func { name := Str.ofString "create_abx", qualname := Str.ofString "create_abx", params := pa 37, body := FuncBody.stmts (bo 37), scope := so 37, globals := 3, closure := [], defaults := Value.none, kwdefaults := Value.none, pyModule := Value.str (Str.ofString "lua.opcodes") 187, code := Value.ref 123 } },
  { cls := Value.type "tuple", data := Data.seq #[] },
  { cls := Value.none, data := Data.fields #[] },
  { cls := Value.type "tuple", data := Data.seq #[Value.str (Str.ofString "op") 1108, Value.str (Str.ofString "a") 1109, Value.str (Str.ofString "sbx") 1110] },
  { cls := Value.type "tuple", data := Data.seq #[] },
  { cls := Value.none, data := Data.func { name := Str.ofString "create_asbx", qualname := Str.ofString "create_asbx", params := pa 38, body := FuncBody.stmts (bo 38), scope := so 38, globals := 0, closure := [], defaults := Value.none, kwdefaults := Value.none } },
  { cls := Value.type "code", data := Data.fields #[Value.str (Str.ofString "create_asbx") 1105, Value.str (Str.ofString "create_asbx") 1106, Value.str (Str.ofString "/claim/cut.py") 1107, Value.int 50 0, Value.int 3 0, Value.int 0 0, Value.int 0 0, Value.int 3 0, Value.ref 125, Value.bool true, Value.int 181 0, Value.ref 126, Value.none, Value.ref 127, Value.ref 128, Value.ref 129, Value.int 1111 0, Value.int 50 0, Value.str (Str.ofString "/claim/cut.py") 1112] },
  { cls := Value.type "function", data := Data.func { name := Str.ofString "create_asbx", qualname := Str.ofString "create_asbx", params := pa 38, body := FuncBody.stmts (bo 38), scope := so 38, globals := 3, closure := [], defaults := Value.none, kwdefaults := Value.none, pyModule := Value.str (Str.ofString "lua.opcodes") 187, code := Value.ref 130 } },
  { cls := Value.type "tuple", data := Data.seq #[] },
  { cls := Value.none, data := Data.fields #[] },
  { cls := Value.type "tuple", data := Data.seq #[Value.str (Str.ofString "word") 1117] },
  { cls := Value.type "tuple", data := Data.seq #[] },
  { cls := Value.none, data := Data.func { name := Str.ofString "get_op", qualname := Str.ofString "get_op", params := pa 39, body := FuncBody.stmts (bo 39), scope := so 39, globals := 0, closure := [], defaults := Value.none, kwdefaults := Value.none } },
  { cls := Value.type "code", data := Data.fields #[Value.str (Str.ofString "get_op") 1114, Value.str (Str.ofString "get_op") 1115, Value.str (Str.ofString "/claim/cut.py") 1116, Value.int 52 0, Value.int 1 0, Value.int 0 0, Value.int 0 0, Value.int 3 0, Value.ref 132, Value.bool true, Value.int 181 0, Value.ref 133, Value.none, Value.ref 134, Value.ref 135, Value.ref 136, Value.int 1118 0, Value.int 52 0, Value.str (Str.ofString "/claim/cut.py") 1119] },
  { cls := Value.type "function", data := Data.func { name := Str.ofString "get_op", qualname := Str.ofString "get_op", params := pa 39, body := FuncBody.stmts (bo 39), scope := so 39, globals := 3, closure := [], defaults := Value.none, kwdefaults := Value.none, pyModule := Value.str (Str.ofString "lua.opcodes") 187, code := Value.ref 137 } },
  { cls := Value.type "tuple", data := Data.seq #[] },
  { cls := Value.none, data := Data.fields #[] },
  { cls := Value.type "tuple", data := Data.seq #[Value.str (Str.ofString "word") 1124] },
  { cls := Value.type "tuple", data := Data.seq #[] },
  { cls := Value.none, data := Data.func { name := Str.ofString "get_a", qualname := Str.ofString "get_a", params := pa 40, body := FuncBody.stmts (bo 40), scope := so 40, globals := 0, closure := [], defaults := Value.none, kwdefaults := Value.none } },
  { cls := Value.type "code", data := Data.fields #[Value.str (Str.ofString "get_a") 1121, Value.str (Str.ofString "get_a") 1122, Value.str (Str.ofString "/claim/cut.py") 1123, Value.int 54 0, Value.int 1 0, Value.int 0 0, Value.int 0 0, Value.int 3 0, Value.ref 139, Value.bool true, Value.int 181 0, Value.ref 140, Value.none, Value.ref 141, Value.ref 142, Value.ref 143, Value.int 1125 0, Value.int 54 0, Value.str (Str.ofString "/claim/cut.py") 1126] },
  { cls := Value.type "function", data := Data.func { name := Str.ofString "get_a", qualname := Str.ofString "get_a", params := pa 40, body := FuncBody.stmts (bo 40), scope := so 40, globals := 3, closure := [], defaults := Value.none, kwdefaults := Value.none, pyModule := Value.str (Str.ofString "lua.opcodes") 187, code := Value.ref 144 } },
  { cls := Value.type "tuple", data := Data.seq #[] },
  { cls := Value.none, data := Data.fields #[] },
  { cls := Value.type "tuple", data := Data.seq #[Value.str (Str.ofString "word") 1131] },
  { cls := Value.type "tuple", data := Data.seq #[] },
  { cls := Value.none, data := Data.func { name := Str.ofString "get_b", qualname := Str.ofString "get_b", params := pa 41, body := FuncBody.stmts (bo 41), scope := so 41, globals := 0, closure := [], defaults := Value.none, kwdefaults := Value.none } },
  { cls := Value.type "code", data := Data.fields #[Value.str (Str.ofString "get_b") 1128, Value.str (Str.ofString "get_b") 1129, Value.str (Str.ofString "/claim/cut.py") 1130, Value.int 56 0, Value.int 1 0, Value.int 0 0, Value.int 0 0, Value.int 3 0, Value.ref 146, Value.bool true, Value.int 181 0, Value.ref 147, Value.none, Value.ref 148, Value.ref 149, Value.ref 150, Value.int 1132 0, Value.int 56 0, Value.str (Str.ofString "/claim/cut.py") 1133] },
  { cls := Value.type "function", data := Data.func { name := Str.ofString "get_b", qualname := Str.ofString "get_b", params := pa 41, body := FuncBody.stmts (bo 41), scope := so 41, globals := 3, closure := [], defaults := Value.none, kwdefaults := Value.none, pyModule := Value.str (Str.ofString "lua.opcodes") 187, code := Value.ref 151 } },
  { cls := Value.type "tuple", data := Data.seq #[] },
  { cls := Value.none, data := Data.fields #[] },
  { cls := Value.type "tuple", data := Data.seq #[Value.str (Str.ofString "word") 1138] },
  { cls := Value.type "tuple", data := Data.seq #[] },
  { cls := Value.none, data := Data.func { name := Str.ofString "get_c", qualname := Str.ofString "get_c", params := pa 42, body := FuncBody.stmts (bo 42), scope := so 42, globals := 0, closure := [], defaults := Value.none, kwdefaults := Value.none } },
  { cls := Value.type "code", data := Data.fields #[Value.str (Str.ofString "get_c") 1135, Value.str (Str.ofString "get_c") 1136, Value.str (Str.ofString "/claim/cut.py") 1137, Value.int 58 0, Value.int 1 0, Value.int 0 0, Value.int 0 0, Value.int 3 0, Value.ref 153, Value.bool true, Value.int 181 0, Value.ref 154, Value.none, Value.ref 155, Value.ref 156, Value.ref 157, Value.int 1139 0, Value.int 58 0, Value.str (Str.ofString "/claim/cut.py") 1140] },
  { cls := Value.type "function", data := Data.func { name := Str.ofString "get_c", qualname := Str.ofString "get_c", params := pa 42, body := FuncBody.stmts (bo 42), scope := so 42, globals := 3, closure := [], defaults := Value.none, kwdefaults := Value.none, pyModule := Value.str (Str.ofString "lua.opcodes") 187, code := Value.ref 158 } },
  { cls := Value.type "tuple", data := Data.seq #[] },
  { cls := Value.none, data := Data.fields #[] },
  { cls := Value.type "tuple", data := Data.seq #[Value.str (Str.ofString "word") 1145] },
  { cls := Value.type "tuple", data := Data.seq #[] },
  { cls := Value.none, data := Data.func { name := Str.ofString "get_bx", qualname := Str.ofString "get_bx", params := pa 43, body := FuncBody.stmts (bo 43), scope := so 43, globals := 0, closure := [], defaults := Value.none, kwdefaults := Value.none } },
  { cls := Value.type "code", data := Data.fields #[Value.str (Str.ofString "get_bx") 1142, Value.str (Str.ofString "get_bx") 1143, Value.str (Str.ofString "/claim/cut.py") 1144, Value.int 60 0, Value.int 1 0, Value.int 0 0, Value.int 0 0, Value.int 3 0, Value.ref 160, Value.bool true, Value.int 181 0, Value.ref 161, Value.none, Value.ref 162, Value.ref 163, Value.ref 164, Value.int 1146 0, Value.int 60 0, Value.str (Str.ofString "/claim/cut.py") 1147] },
  { cls := Value.type "function", data := Data.func { name := Str.ofString "get_bx", qualname := Str.ofString "get_bx", params := pa 43, body := FuncBody.stmts (bo 43), scope := so 43, globals := 3, closure := [], defaults := Value.none, kwdefaults := Value.none, pyModule := Value.str (Str.ofString "lua.opcodes") 187, code := Value.ref 165 } },
  { cls := Value.type "tuple", data := Data.seq #[] },
  { cls := Value.none, data := Data.fields #[] },
  { cls := Value.type "tuple", data := Data.seq #[Value.str (Str.ofString "word") 1152] },
  { cls := Value.type "tuple", data := Data.seq #[] },
  { cls := Value.none, data := Data.func { name := Str.ofString "get_sbx", qualname := Str.ofString "get_sbx", params := pa 44, body := FuncBody.stmts (bo 44), scope := so 44, globals := 0, closure := [], defaults := Value.none, kwdefaults := Value.none } },
  { cls := Value.type "code", data := Data.fields #[Value.str (Str.ofString "get_sbx") 1149, Value.str (Str.ofString "get_sbx") 1150, Value.str (Str.ofString "/claim/cut.py") 1151, Value.int 62 0, Value.int 1 0, Value.int 0 0, Value.int 0 0, Value.int 3 0, Value.ref 167, Value.bool true, Value.int 181 0, Value.ref 168, Value.none, Value.ref 169, Value.ref 170, Value.ref 171, Value.int 1153 0, Value.int 62 0, Value.str (Str.ofString "/claim/cut.py") 1154] },
  { cls := Value.type "function", data := Data.func { name := Str.ofString "get_sbx", qualname := Str.ofString "get_sbx", params := pa 44, body := FuncBody.stmts (bo 44), scope := so 44, globals := 3, closure := [], defaults := Value.none, kwdefaults := Value.none, pyModule := Value.str (Str.ofString "lua.opcodes") 187, code := Value.ref 172 } },
  { cls := Value.type "tuple", data := Data.seq #[] },
  { cls := Value.none, data := Data.fields #[] },
  { cls := Value.type "tuple", data := Data.seq #[Value.str (Str.ofString "word") 1159, Value.str (Str.ofString "op") 1160] },
  { cls := Value.type "tuple", data := Data.seq #[] },
  { cls := Value.none, data := Data.func { name := Str.ofString "set_op", qualname := Str.ofString "set_op", params := pa 45, body := FuncBody.stmts (bo 45), scope := so 45, globals := 0, closure := [], defaults := Value.none, kwdefaults := Value.none } },
  { cls := Value.type "code", data := Data.fields #[Value.str (Str.ofString "set_op") 1156, Value.str (Str.ofString "set_op") 1157, Value.str (Str.ofString "/claim/cut.py") 1158, Value.int 64 0, Value.int 2 0, Value.int 0 0, Value.int 0 0, Value.int 3 0, Value.ref 174, Value.bool true, Value.int 181 0, Value.ref 175, Value.none, Value.ref 176, Value.ref 177, Value.ref 178, Value.int 1161 0, Value.int 64 0, Value.str (Str.ofString "/claim/cut.py") 1162] },
  { cls := Value.type "function", data := Data.func { name := Str.ofString "set_op", qualname := Str.ofString "set_op", params := pa 45, body := FuncBody.stmts (bo 45), scope := so 45, globals := 3, closure := [], defaults := Value.none, kwdefaults := Value.none, pyModule := Value.str (Str.ofString "lua.opcodes") 187, code := Value.ref 179 } },
  { cls := Value.type "tuple", data := Data.seq #[] },
  { cls := Value.none, data := Data.fields #[] },
  { cls := Value.type "tuple", data := Data.seq #[Value.str (Str.ofString "word") 1167, Value.str (Str.ofString "a") 1168] },
  { cls := Value.type "tuple", data := Data.seq #[] },
  { cls := Value.none, data := Data.func { name := Str.ofString "set_a", qualname := Str.ofString "set_a", params := pa 46, body := FuncBody.stmts (bo 46), scope := so 46, globals := 0, closure := [], defaults := Value.none, kwdefaults := Value.none } },
  { cls := Value.type "code", data := Data.fields #[Value.str (Str.ofString "set_a") 1164, Value.str (Str.ofString "set_a") 1165, Value.str (Str.ofString "/claim/cut.py") 1166, Value.int 66 0, Value.int 2 0, Value.int 0 0, Value.int 0 0, Value.int 3 0, Value.ref 181, Value.bool true, Value.int 181 0, Value.ref 182, Value.none, Value.ref 183, Value.ref 184, Value.ref 185, Value.int 1169 0, Value.int 66 0, Value.str (Str.ofString "/claim/cut.py") 1170] },
  { cls := Value.type "function", data := Data.func { name := Str.ofString "set_a", qualname := Str.ofString "set_a", params := pa 46, body := FuncBody.stmts (bo 46), scope := so 46, globals := 3, closure := [], defaults := Value.none, kwdefaults := Value.none, pyModule := Value.str (Str.ofString "lua.opcodes") 187, code := Value.ref 186 } },
  { cls := Value.type "tuple", data := Data.seq #[] },
  { cls := Value.none, data := Data.fields #[] },
  { cls := Value.type "tuple", data := Data.seq #[Value.str (Str.ofString "word") 1175, Value.str (Str.ofString "b") 1176] },
  { cls := Value.type "tuple", data := Data.seq #[] },
  { cls := Value.none, data := Data.func { name := Str.ofString "set_b", qualname := Str.ofString "set_b", params := pa 47, body := FuncBody.stmts (bo 47), scope := so 47, globals := 0, closure := [], defaults := Value.none, kwdefaults := Value.none } },
  { cls := Value.type "code", data := Data.fields #[Value.str (Str.ofString "set_b") 1172, Value.str (Str.ofString "set_b") 1173, Value.str (Str.ofString "/claim/cut.py") 1174, Value.int 68 0, Value.int 2 0, Value.int 0 0, Value.int 0 0, Value.int 3 0, Value.ref 188, Value.bool true, Value.int 181 0, Value.ref 189, Value.none, Value.ref 190, Value.ref 191, Value.ref 192, Value.int 1177 0, Value.int 68 0, Value.str (Str.ofString "/claim/cut.py") 1178] },
  { cls := Value.type "function", data := Data.func { name := Str.ofString "set_b", qualname := Str.ofString "set_b", params := pa 47, body := FuncBody.stmts (bo 47), scope := so 47, globals := 3, closure := [], defaults := Value.none, kwdefaults := Value.none, pyModule := Value.str (Str.ofString "lua.opcodes") 187, code := Value.ref 193 } },
  { cls := Value.type "tuple", data := Data.seq #[] },
  { cls := Value.none, data := Data.fields #[] },
  { cls := Value.type "tuple", data := Data.seq #[Value.str (Str.ofString "word") 1183, Value.str (Str.ofString "c") 1184] },
  { cls := Value.type "tuple", data := Data.seq #[] },
  { cls := Value.none, data := Data.func { name := Str.ofString "set_c", qualname := Str.ofString "set_c", params := pa 48, body := FuncBody.stmts (bo 48), scope := so 48, globals := 0, closure := [], defaults := Value.none, kwdefaults := Value.none } },
  { cls := Value.type "code", data := Data.fields #[Value.str (Str.ofString "set_c") 1180, Value.str (Str.ofString "set_c") 1181, Value.str (Str.ofString "/claim/cut.py") 1182, Value.int 70 0, Value.int 2 0, Value.int 0 0, Value.int 0 0, Value.int 3 0, Value.ref 195, Value.bool true, Value.int 181 0, Value.ref 196, Value.none, Value.ref 197, Value.ref 198, Value.ref 199, Value.int 1185 0, Value.int 70 0, Value.str (Str.ofString "/claim/cut.py") 1186] },
  { cls := Value.type "function", data := Data.func { name := Str.ofString "set_c", qualname := Str.ofString "set_c", params := pa 48, body := FuncBody.stmts (bo 48), scope := so 48, globals := 3, closure := [], defaults := Value.none, kwdefaults := Value.none, pyModule := Value.str (Str.ofString "lua.opcodes") 187, code := Value.ref 200 } },
  { cls := Value.type "tuple", data := Data.seq #[] },
  { cls := Value.none, data := Data.fields #[] },
  { cls := Value.type "tuple", data := Data.seq #[Value.str (Str.ofString "word") 1191, Value.str (Str.ofString "bx") 1192] },
  { cls := Value.type "tuple", data := Data.seq #[] },
  { cls := Value.none, data := Data.func { name := Str.ofString "set_bx", qualname := Str.ofString "set_bx", params := pa 49, body := FuncBody.stmts (bo 49), scope := so 49, globals := 0, closure := [], defaults := Value.none, kwdefaults := Value.none } },
  { cls := Value.type "code", data := Data.fields #[Value.str (Str.ofString "set_bx") 1188, Value.str (Str.ofString "set_bx") 1189, Value.str (Str.ofString "/claim/cut.py") 1190, Value.int 72 0, Value.int 2 0, Value.int 0 0, Value.int 0 0, Value.int 3 0, Value.ref 202, Value.bool true, Value.int 181 0, Value.ref 203, Value.none, Value.ref 204, Value.ref 205, Value.ref 206, Value.int 1193 0, Value.int 72 0, Value.str (Str.ofString "/claim/cut.py") 1194] },
  { cls := Value.type "function", data := Data.func { name := Str.ofString "set_bx", qualname := Str.ofString "set_bx", params := pa 49, body := FuncBody.stmts (bo 49), scope := so 49, globals := 3, closure := [], defaults := Value.none, kwdefaults := Value.none, pyModule := Value.str (Str.ofString "lua.opcodes") 187, code := Value.ref 207 } },
  { cls := Value.type "tuple", data := Data.seq #[] },
  { cls := Value.none, data := Data.fields #[] },
  { cls := Value.type "tuple", data := Data.seq #[Value.str (Str.ofString "word") 1199, Value.str (Str.ofString "sbx") 1200] },
  { cls := Value.type "tuple", data := Data.seq #[] },
  { cls := Value.none, data := Data.func { name := Str.ofString "set_sbx", qualname := Str.ofString "set_sbx", params := pa 50, body := FuncBody.stmts (bo 50), scope := so 50, globals := 0, closure := [], defaults := Value.none, kwdefaults := Value.none } },
  { cls := Value.type "code", data := Data.fields #[Value.str (Str.ofString "set_sbx") 1196, Value.str (Str.ofString "set_sbx") 1197, Value.str (Str.ofString "/claim/cut.py") 1198, Value.int 74 0, Value.int 2 0, Value.int 0 0, Value.int 0 0, Value.int 3 0, Value.ref 209, Value.bool true, Value.int 181 0, Value.ref 210, Value.none, Value.ref 211, Value.ref 212, Value.ref 213, Value.int 1201 0, Value.int 74 0, Value.str (Str.ofString "/claim/cut.py") 1202] },
  { cls := Value.type "function", data := Data.func { name := Str.ofString "set_sbx", qualname := Str.ofString "set_sbx", params := pa 50, body := FuncBody.stmts (bo 50), scope := so 50, globals := 3, closure := [], defaults := Value.none, kwdefaults := Value.none, pyModule := Value.str (Str.ofString "lua.opcodes") 187, code := Value.ref 214 } },
  { cls := Value.type "tuple", data := Data.seq #[] },
  { cls := Value.none, data := Data.fields #[] },
  { cls := Value.type "tuple", data := Data.seq #[Value.str (Str.ofString "operand") 1207] },
  { cls := Value.type "tuple", data := Data.seq #[] },
  { cls := Value.none, data := Data.func { name := Str.ofString "is_k", qualname := Str.ofString "is_k", params := pa 51, body := FuncBody.stmts (bo 51), scope := so 51, globals := 0, closure := [], defaults := Value.none, kwdefaults := Value.none } },
  { cls := Value.type "code", data := Data.fields #[Value.str (Str.ofString "is_k") 1204, Value.str (Str.ofString "is_k") 1205, Value.str (Str.ofString "/claim/cut.py") 1206, Value.int 76 0, Value.int 1 0, Value.int 0 0, Value.int 0 0, Value.int 3 0, Value.ref 216, Value.bool true, Value.int 181 0, Value.ref 217, Value.none, Value.ref 218, Value.ref 219, Value.ref 220, Value.int 1208 0, Value.int 76 0, Value.str (Str.ofString "/claim/cut.py") 1209] },
  { cls := Value.type "function", data := Data.func { name := Str.ofString "is_k", qualname := Str.ofString "is_k", params := pa 51, body := FuncBody.stmts (bo 51), scope := so 51, globals := 3, closure := [], defaults := Value.none, kwdefaults := Value.none, pyModule := Value.str (Str.ofString "lua.opcodes") 187, code := Value.ref 221 } },
  { cls := Value.type "tuple", data := Data.seq #[] },
  { cls := Value.none, data := Data.fields #[] },
  { cls := Value.type "tuple", data := Data.seq #[Value.str (Str.ofString "operand") 1214] },
  { cls := Value.type "tuple", data := Data.seq #[] },
  { cls := Value.none, data := Data.func { name := Str.ofString "index_k", qualname := Str.ofString "index_k", params := pa 52, body := FuncBody.stmts (bo 52), scope := so 51, globals := 0, closure := [], defaults := Value.none, kwdefaults := Value.none } },
  { cls := Value.type "code", data := Data.fields #[Value.str (Str.ofString "index_k") 1211, Value.str (Str.ofString "index_k") 1212, Value.str (Str.ofString "/claim/cut.py") 1213, Value.int 78 0, Value.int 1 0, Value.int 0 0, Value.int 0 0, Value.int 3 0, Value.ref 223, Value.bool true, Value.int 181 0, Value.ref 224, Value.none, Value.ref 225, Value.ref 226, Value.ref 227, Value.int 1215 0, Value.int 78 0, Value.str (Str.ofString "/claim/cut.py") 1216] },
  { cls := Value.type "function", data := Data.func { name := Str.ofString "index_k", qualname := Str.ofString "index_k", params := pa 52, body := FuncBody.stmts (bo 52), scope := so 51, globals := 3, closure := [], defaults := Value.none, kwdefaults := Value.none, pyModule := Value.str (Str.ofString "lua.opcodes") 187, code := Value.ref 228 } },
  { cls := Value.type "tuple", data := Data.seq #[] },
  { cls := Value.none, data := Data.fields #[] },
  { cls := Value.type "tuple", data := Data.seq #[Value.str (Str.ofString "index") 1221] },
  { cls := Value.type "tuple", data := Data.seq #[] },
  { cls := Value.none, data := Data.func { name := Str.ofString "rk_as_k", qualname := Str.ofString "rk_as_k", params := pa 53, body := FuncBody.stmts (bo 53), scope := so 53, globals := 0, closure := [], defaults := Value.none, kwdefaults := Value.none } },
  { cls := Value.type "code", data := Data.fields #[Value.str (Str.ofString "rk_as_k") 1218, Value.str (Str.ofString "rk_as_k") 1219, Value.str (Str.ofString "/claim/cut.py") 1220, Value.int 80 0, Value.int 1 0, Value.int 0 0, Value.int 0 0, Value.int 3 0, Value.ref 230, Value.bool true, Value.int 181 0, Value.ref 231, Value.none, Value.ref 232, Value.ref 233, Value.ref 234, Value.int 1222 0, Value.int 80 0, Value.str (Str.ofString "/claim/cut.py") 1223] },
  { cls := Value.type "function", data := Data.func { name := Str.ofString "rk_as_k", qualname := Str.ofString "rk_as_k", params := pa 53, body := FuncBody.stmts (bo 53), scope := so 53, globals := 3, closure := [], defaults := Value.none, kwdefaults := Value.none, pyModule := Value.str (Str.ofString "lua.opcodes") 187, code := Value.ref 235 } },
  { cls := Value.type "tuple", data := Data.seq #[] },
  { cls := Value.none, data := Data.fields #[] },
  { cls := Value.type "tuple", data := Data.seq #[Value.str (Str.ofString "value") 1228] },
  { cls := Value.type "tuple", data := Data.seq #[] },
  { cls := Value.none, data := Data.func { name := Str.ofString "is_word", qualname := Str.ofString "is_word", params := pa 54, body := FuncBody.stmts (bo 54), scope := so 54, globals := 0, closure := [], defaults := Value.none, kwdefaults := Value.none } },
  { cls := Value.type "code", data := Data.fields #[Value.str (Str.ofString "is_word") 1225, Value.str (Str.ofString "is_word") 1226, Value.str (Str.ofString "/claim/cut.py") 1227, Value.int 82 0, Value.int 1 0, Value.int 0 0, Value.int 0 0, Value.int 3 0, Value.ref 237, Value.bool true, Value.int 181 0, Value.ref 238, Value.none, Value.ref 239, Value.ref 240, Value.ref 241, Value.int 1229 0, Value.int 82 0, Value.str (Str.ofString "/claim/cut.py") 1230] },
  { cls := Value.type "function", data := Data.func { name := Str.ofString "is_word", qualname := Str.ofString "is_word", params := pa 54, body := FuncBody.stmts (bo 54), scope := so 54, globals := 3, closure := [], defaults := Value.none, kwdefaults := Value.none, pyModule := Value.str (Str.ofString "lua.opcodes") 187, code := Value.ref 242 } },
  { cls := Value.type "tuple", data := Data.seq #[] },
  { cls := Value.none, data := Data.fields #[] },
  { cls := Value.none, data := Data.func { name := Str.ofString "_law_table", qualname := Str.ofString "_law_table", params := pa 56, body := FuncBody.stmts (bo 56), scope := so 56, globals := 0, closure := [], defaults := Value.none, kwdefaults := Value.none } },
  { cls := Value.type "code", data := Data.fields #[Value.str (Str.ofString "_law_table") 1234, Value.str (Str.ofString "_law_table") 1235, Value.str (Str.ofString "/claim/cut.py") 1236, Value.int 85 0, Value.int 0 0, Value.int 0 0, Value.int 0 0, Value.int 3 0, Value.ref 244, Value.bool true, Value.int 181 0, Value.ref 245, Value.none, Value.none, Value.none, Value.ref 246, Value.int 1237 0, Value.int 85 0, Value.str (Str.ofString "/claim/cut.py") 1238] },
  { cls := Value.type "function", data := Data.func { name := Str.ofString "_law_table", qualname := Str.ofString "_law_table", params := pa 56, body := FuncBody.stmts (bo 56), scope := so 56, globals := 3, closure := [], defaults := Value.none, kwdefaults := Value.none, pyModule := Value.str (Str.ofString "law_nt0633_01") 1232, code := Value.ref 247 } },
  { cls := Value.type "tuple", data := Data.seq #[] },
  { cls := Value.none, data := Data.fields #[] },
  { cls := Value.none, data := Data.func { name := Str.ofString "_law_table_right", qualname := Str.ofString "_law_table_right", params := pa 56, body := FuncBody.stmts (bo 57), scope := so 57, globals := 0, closure := [], defaults := Value.none, kwdefaults := Value.none } },
  { cls := Value.type "code", data := Data.fields #[Value.str (Str.ofString "_law_table_right") 1240, Value.str (Str.ofString "_law_table_right") 1241, Value.str (Str.ofString "/claim/cut.py") 1242, Value.int 95 0, Value.int 0 0, Value.int 0 0, Value.int 0 0, Value.int 3 0, Value.ref 249, Value.bool true, Value.int 181 0, Value.ref 250, Value.none, Value.none, Value.none, Value.ref 251, Value.int 1243 0, Value.int 95 0, Value.str (Str.ofString "/claim/cut.py") 1244] },
  { cls := Value.type "function", data := Data.func { name := Str.ofString "_law_table_right", qualname := Str.ofString "_law_table_right", params := pa 56, body := FuncBody.stmts (bo 57), scope := so 57, globals := 3, closure := [], defaults := Value.none, kwdefaults := Value.none, pyModule := Value.str (Str.ofString "law_nt0633_01") 1232, code := Value.ref 252 } },
  { cls := Value.type "tuple", data := Data.seq #[] },
  { cls := Value.none, data := Data.fields #[] },
  { cls := Value.type "tuple", data := Data.seq #[Value.str (Str.ofString "box") 1249, Value.str (Str.ofString "many") 1250] },
  { cls := Value.type "tuple", data := Data.seq #[] },
  { cls := Value.none, data := Data.func { name := Str.ofString "_law_draw", qualname := Str.ofString "_law_draw", params := pa 58, body := FuncBody.stmts (bo 58), scope := so 58, globals := 0, closure := [], defaults := Value.none, kwdefaults := Value.none } },
  { cls := Value.type "code", data := Data.fields #[Value.str (Str.ofString "_law_draw") 1246, Value.str (Str.ofString "_law_draw") 1247, Value.str (Str.ofString "/claim/cut.py") 1248, Value.int 107 0, Value.int 2 0, Value.int 0 0, Value.int 0 0, Value.int 3 0, Value.ref 254, Value.bool true, Value.int 181 0, Value.ref 255, Value.none, Value.ref 256, Value.ref 257, Value.ref 258, Value.int 1251 0, Value.int 107 0, Value.str (Str.ofString "/claim/cut.py") 1252] },
  { cls := Value.type "function", data := Data.func { name := Str.ofString "_law_draw", qualname := Str.ofString "_law_draw", params := pa 58, body := FuncBody.stmts (bo 58), scope := so 58, globals := 3, closure := [], defaults := Value.none, kwdefaults := Value.none, pyModule := Value.str (Str.ofString "law_nt0633_01") 1232, code := Value.ref 259 } },
  { cls := Value.type "tuple", data := Data.seq #[] },
  { cls := Value.none, data := Data.fields #[] },
  { cls := Value.type "tuple", data := Data.seq #[Value.str (Str.ofString "box") 1257, Value.str (Str.ofString "most") 1258, Value.str (Str.ofString "form") 1259] },
  { cls := Value.type "tuple", data := Data.seq #[] },
  { cls := Value.none, data := Data.func { name := Str.ofString "_law_operand", qualname := Str.ofString "_law_operand", params := pa 59, body := FuncBody.stmts (bo 59), scope := so 59, globals := 0, closure := [], defaults := Value.none, kwdefaults := Value.none } },
  { cls := Value.type "code", data := Data.fields #[Value.str (Str.ofString "_law_operand") 1254, Value.str (Str.ofString "_law_operand") 1255, Value.str (Str.ofString "/claim/cut.py") 1256, Value.int 113 0, Value.int 2 0, Value.int 0 0, Value.int 0 0, Value.int 3 0, Value.ref 261, Value.bool true, Value.int 181 0, Value.ref 262, Value.none, Value.ref 263, Value.ref 264, Value.ref 265, Value.int 1260 0, Value.int 113 0, Value.str (Str.ofString "/claim/cut.py") 1261] },
  { cls := Value.type "function", data := Data.func { name := Str.ofString "_law_operand", qualname := Str.ofString "_law_operand", params := pa 59, body := FuncBody.stmts (bo 59), scope := so 59, globals := 3, closure := [], defaults := Value.none, kwdefaults := Value.none, pyModule := Value.str (Str.ofString "law_nt0633_01") 1232, code := Value.ref 266 } },
  { cls := Value.type "tuple", data := Data.seq #[] },
  { cls := Value.none, data := Data.fields #[] },
  { cls := Value.type "tuple", data := Data.seq #[Value.str (Str.ofString "word") 1266, Value.str (Str.ofString "bx") 1267] },
  { cls := Value.type "tuple", data := Data.seq #[] },
  { cls := Value.none, data := Data.func { name := Str.ofString "_law_fields", qualname := Str.ofString "_law_fields", params := pa 60, body := FuncBody.stmts (bo 60), scope := so 60, globals := 0, closure := [], defaults := Value.none, kwdefaults := Value.none } },
  { cls := Value.type "code", data := Data.fields #[Value.str (Str.ofString "_law_fields") 1263, Value.str (Str.ofString "_law_fields") 1264, Value.str (Str.ofString "/claim/cut.py") 1265, Value.int 116 0, Value.int 1 0, Value.int 0 0, Value.int 0 0, Value.int 3 0, Value.ref 268, Value.bool true, Value.int 181 0, Value.ref 269, Value.none, Value.ref 270, Value.ref 271, Value.ref 272, Value.int 1268 0, Value.int 116 0, Value.str (Str.ofString "/claim/cut.py") 1269] },
  { cls := Value.type "function", data := Data.func { name := Str.ofString "_law_fields", qualname := Str.ofString "_law_fields", params := pa 60, body := FuncBody.stmts (bo 60), scope := so 60, globals := 3, closure := [], defaults := Value.none, kwdefaults := Value.none, pyModule := Value.str (Str.ofString "law_nt0633_01") 1232, code := Value.ref 273 } },
  { cls := Value.type "tuple", data := Data.seq #[] },
  { cls := Value.none, data := Data.fields #[] },
  { cls := Value.type "tuple", data := Data.seq #[Value.str (Str.ofString "word") 1274] },
  { cls := Value.type "tuple", data := Data.seq #[] },
  { cls := Value.none, data := Data.func { name := Str.ofString "_law_told", qualname := Str.ofString "_law_told", params := pa 61, body := FuncBody.stmts (bo 61), scope := so 61, globals := 0, closure := [], defaults := Value.none, kwdefaults := Value.none } },
  { cls := Value.type "code", data := Data.fields #[Value.str (Str.ofString "_law_told") 1271, Value.str (Str.ofString "_law_told") 1272, Value.str (Str.ofString "/claim/cut.py") 1273, Value.int 119 0, Value.int 1 0, Value.int 0 0, Value.int 0 0, Value.int 3 0, Value.ref 275, Value.bool true, Value.int 181 0, Value.ref 276, Value.none, Value.ref 277, Value.ref 278, Value.ref 279, Value.int 1275 0, Value.int 119 0, Value.str (Str.ofString "/claim/cut.py") 1276] },
  { cls := Value.type "function", data := Data.func { name := Str.ofString "_law_told", qualname := Str.ofString "_law_told", params := pa 61, body := FuncBody.stmts (bo 61), scope := so 61, globals := 3, closure := [], defaults := Value.none, kwdefaults := Value.none, pyModule := Value.str (Str.ofString "law_nt0633_01") 1232, code := Value.ref 280 } },
  { cls := Value.type "tuple", data := Data.seq #[] },
  { cls := Value.none, data := Data.fields #[] },
  { cls := Value.type "tuple", data := Data.seq #[Value.str (Str.ofString "op") 1281, Value.str (Str.ofString "a") 1282, Value.str (Str.ofString "b") 1283, Value.str (Str.ofString "c") 1284, Value.str (Str.ofString "bx") 1285] },
  { cls := Value.type "tuple", data := Data.seq #[] },
  { cls := Value.none, data := Data.func { name := Str.ofString "_law_packed_right", qualname := Str.ofString "_law_packed_right", params := pa 62, body := FuncBody.stmts (bo 62), scope := so 62, globals := 0, closure := [], defaults := Value.none, kwdefaults := Value.none } },
  { cls := Value.type "code", data := Data.fields #[Value.str (Str.ofString "_law_packed_right") 1278, Value.str (Str.ofString "_law_packed_right") 1279, Value.str (Str.ofString "/claim/cut.py") 1280, Value.int 121 0, Value.int 5 0, Value.int 0 0, Value.int 0 0, Value.int 3 0, Value.ref 282, Value.bool true, Value.int 181 0, Value.ref 283, Value.none, Value.ref 284, Value.ref 285, Value.ref 286, Value.int 1286 0, Value.int 121 0, Value.str (Str.ofString "/claim/cut.py") 1287] },
  { cls := Value.type "function", data := Data.func { name := Str.ofString "_law_packed_right", qualname := Str.ofString "_law_packed_right", params := pa 62, body := FuncBody.stmts (bo 62), scope := so 62, globals := 3, closure := [], defaults := Value.none, kwdefaults := Value.none, pyModule := Value.str (Str.ofString "law_nt0633_01") 1232, code := Value.ref 287 } },
  { cls := Value.type "tuple", data := Data.seq #[] },
  { cls := Value.none, data := Data.fields #[] },
  { cls := Value.none, data := Data.func { name := Str.ofString "_law_set_right", qualname := Str.ofString "_law_set_right", params := pa 63, body := FuncBody.stmts (bo 63), scope := so 63, globals := 0, closure := [], defaults := Value.none, kwdefaults := Value.none } },
  { cls := Value.type "code", data := Data.fields #[Value.str (Str.ofString "_law_set_right") 1289, Value.str (Str.ofString "_law_set_right") 1290, Value.str (Str.ofString "/claim/cut.py") 1291, Value.int 127 0, Value.int 6 0, Value.int 0 0, Value.int 0 0, Value.int 3 0, Value.ref 289, Value.bool true, Value.int 181 0, Value.ref 290, Value.none, Value.none, Value.none, Value.ref 291, Value.int 1292 0, Value.int 127 0, Value.str (Str.ofString "/claim/cut.py") 1293] },
  { cls := Value.type "function", data := Data.func { name := Str.ofString "_law_set_right", qualname := Str.ofString "_law_set_right", params := pa 63, body := FuncBody.stmts (bo 63), scope := so 63, globals := 3, closure := [], defaults := Value.none, kwdefaults := Value.none, pyModule := Value.str (Str.ofString "law_nt0633_01") 1232, code := Value.ref 292 } },
  { cls := Value.type "tuple", data := Data.seq #[] },
  { cls := Value.none, data := Data.fields #[] },
  { cls := Value.type "tuple", data := Data.seq #[Value.str (Str.ofString "value") 1298] },
  { cls := Value.type "tuple", data := Data.seq #[] },
  { cls := Value.none, data := Data.func { name := Str.ofString "_law_operands_right", qualname := Str.ofString "_law_operands_right", params := pa 64, body := FuncBody.stmts (bo 64), scope := so 64, globals := 0, closure := [], defaults := Value.none, kwdefaults := Value.none } },
  { cls := Value.type "code", data := Data.fields #[Value.str (Str.ofString "_law_operands_right") 1295, Value.str (Str.ofString "_law_operands_right") 1296, Value.str (Str.ofString "/claim/cut.py") 1297, Value.int 135 0, Value.int 1 0, Value.int 0 0, Value.int 0 0, Value.int 3 0, Value.ref 294, Value.bool true, Value.int 181 0, Value.ref 295, Value.none, Value.ref 296, Value.ref 297, Value.ref 298, Value.int 1299 0, Value.int 135 0, Value.str (Str.ofString "/claim/cut.py") 1300] },
  { cls := Value.type "function", data := Data.func { name := Str.ofString "_law_operands_right", qualname := Str.ofString "_law_operands_right", params := pa 64, body := FuncBody.stmts (bo 64), scope := so 64, globals := 3, closure := [], defaults := Value.none, kwdefaults := Value.none, pyModule := Value.str (Str.ofString "law_nt0633_01") 1232, code := Value.ref 299 } },
  { cls := Value.type "tuple", data := Data.seq #[] },
  { cls := Value.none, data := Data.fields #[] },
  { cls := Value.none, data := Data.func { name := Str.ofString "law", qualname := Str.ofString "law", params := pa 65, body := FuncBody.stmts (bo 65), scope := so 65, globals := 0, closure := [], defaults := Value.none, kwdefaults := Value.none } },
  { cls := Value.type "code", data := Data.fields #[Value.str (Str.ofString "law") 1302, Value.str (Str.ofString "law") 1303, Value.str (Str.ofString "/claim/cut.py") 1304, Value.int 139 0, Value.int 1 0, Value.int 0 0, Value.int 0 0, Value.int 3 0, Value.ref 301, Value.bool true, Value.int 181 0, Value.ref 302, Value.none, Value.none, Value.none, Value.ref 303, Value.int 1305 0, Value.int 139 0, Value.str (Str.ofString "/claim/cut.py") 1306] },
  { cls := Value.type "function", data := Data.func { name := Str.ofString "law", qualname := Str.ofString "law", params := pa 65, body := FuncBody.stmts (bo 65), scope := so 65, globals := 3, closure := [], defaults := Value.none, kwdefaults := Value.none, pyModule := Value.str (Str.ofString "law_nt0633_01") 1232, code := Value.ref 304 } }]
noncomputable def lf (P : Params) : List Obj := lf1 P ++ (fl P ++ lf2 P)
noncomputable def hf (P : Params) : Heap := ⟨⟨lf P⟩, {}⟩
noncomputable def Tf (w : World) (os : OsState) : SharedT := ⟨bt (lf w.params) 0 .nil, 306, {}, Array.mk [], {}, 1308, os⟩
noncomputable def Sf (w : World) (os : OsState) : Shared := ⟨hf w.params, Array.mk [], {}, 1308, os⟩
theorem to_end (w : World) (os : OsState) : segRunT treeTable pq w 11 (an0 w) 1 1077 (sk 38 w os) (tx 38 ⟨30, 1199, 30, 1229⟩) = some (.next, Tf w os, cd0, ⟨139, 0, 156, 15⟩) := by
  rw [PySem.W.Fast.te10110043849684766642]
  kernel_rfl
theorem tf_abs (w : World) (os : OsState) : (Tf w os).abs = Sf w os := by kernel_rfl
theorem fin_run (w : World) (os : OsState) : topRun treeTable pq w 11 (an0 w) 2 (Sf w os) ⟨doneF .next, cd0, ⟨139, 0, 156, 15⟩, [topFrame ps0]⟩ = some (Sf w os) := by kernel_rfl
end
section
open PySem.Calls
theorem whole_run (w : World) (os : OsState) : segRun treeTable pq w 11 (an0 w) 1 5259 (Ta w os).abs p0 = some (.next, Sf w os, cd0, ⟨139, 0, 156, 15⟩) := by
  have g := segRun_of (to_end w os)
  rw [tf_abs] at g
  have g := seg_go (segGo_of (to_38 w os)) g
  have g := seg_go (segGo_of (to_31 w os)) g
  have g := seg_go (segGo_of (to_24 w os)) g
  have g := seg_go (segGo_of (to_16 w os)) g
  have g := seg_go (segGo_of (to_8 w os)) g
  have g := seg_go (segGo_of (to_list w os)) g
  rw [show 434 + (791 + (787 + (789 + (686 + (695 + (1077)))))) = 5259 from by decide] at g
  exact g
theorem top_glue {p : Program} {w : World} {N : Nat} {s0 sf : Shared} {n0 : Nat} {ann : Option Value}
    (h1 : (s0.heap.isNs mainGlobals && s0.gens.size == 0) = true) (h2 : s0.heap.objs.size = n0) (h3 : s0.heap.nsMap mainGlobals (Str.ofString "__annotations__") = ann)
    (h4 : topRun treeTable p w n0 ann N s0 (topStub p) = some sf)
    (h5 : (staticsOk (importedModules p.main.body) s0.heap sf.heap && namesBound p sf.heap && gensDone sf && laidKept s0.heap sf.heap) = true) :
    topFrom treeTable p w N s0 = some sf := by
  subst h2 h3
  unfold topFrom
  rw [h1]
  dsimp only
  rw [h4]
  dsimp only [Option.bind]
  rw [h5]
theorem left_glue {p q : Program} {loose : List Str} {Xt : Shared → Bool} {α : Type} {Yf : Shared → α} {Ya : World → α} {N : Nat} {H₀ : Params → Heap} {gs₀ : Array GenState} {d₀ : Drawn} {k₀ n0 : Nat} {ann : World → Option Value} {fin : World → OsState → Shared}
    (open_ : ∀ w : World, (fencedOpening treeTable p w N).map (fun s => (s.heap, s.gens, s.drawn, s.toks)) = some (H₀ w.params, gs₀, d₀, k₀))
    (h1 : ∀ w : World, ((H₀ w.params).isNs mainGlobals && gs₀.size == 0) = true) (h2 : ∀ w : World, (H₀ w.params).objs.size = n0) (h3 : ∀ w : World, (H₀ w.params).nsMap mainGlobals (Str.ofString "__annotations__") = ann w)
    (run : ∀ w os, topRun treeTable p w n0 (ann w) N ⟨H₀ w.params, gs₀, d₀, k₀, os⟩ (topStub p) = some (fin w os))
    (stat : ∀ w os, (staticsOk (importedModules p.main.body) (H₀ w.params) (fin w os).heap && namesBound p (fin w os).heap && gensDone (fin w os) && laidKept (H₀ w.params) (fin w os).heap) = true)
    (seen_ : ∀ w os, openSeen q loose (importedModules p.main.body) Xt true (fin w os) = openGood q loose)
    (hook : ∀ w os, Yf (fin w os) = Ya w) : LeftO p q loose Xt Yf Ya N := fun w => by
  obtain ⟨⟨h, gs, d, k, os⟩, e, e'⟩ := Option.map_eq_some_iff.mp (open_ w)
  obtain ⟨rfl, rfl, rfl, rfl⟩ : h = H₀ w.params ∧ gs = gs₀ ∧ d = d₀ ∧ k = k₀ := by simpa only [Prod.mk.injEq] using e'
  have t := top_glue (h1 w) (h2 w) (h3 w) (run w os) (stat w os)
  unfold openEnds
  rw [e]
  dsimp only [Option.bind]
  rw [t]
  exact congrArg some (Prod.ext (seen_ w os) (hook w os))
def ls : List PySem.Str := [Str.ofString "SIZE_BX", Str.ofString "POS_A", Str.ofString "POS_C", Str.ofString "POS_B", Str.ofString "POS_BX", Str.ofString "MAXARG_A", Str.ofString "MAXARG_B", Str.ofString "MAXARG_C", Str.ofString "MAXARG_BX", Str.ofString "MAXARG_SBX", Str.ofString "MAX_WORD", Str.ofString "BITRK", Str.ofString "OP_NAMES", Str.ofString "OP_MODES"]
def lv : List (PySem.Str × WData) := [(Str.ofString "SIZE_BX", .int 18), (Str.ofString "POS_A", .int 6), (Str.ofString "POS_C", .int 14), (Str.ofString "POS_B", .int 23), (Str.ofString "POS_BX", .int 14), (Str.ofString "MAXARG_A", .int 255), (Str.ofString "MAXARG_B", .int 511), (Str.ofString "MAXARG_C", .int 511), (Str.ofString "MAXARG_BX", .int 262143), (Str.ofString "MAXARG_SBX", .int 131071), (Str.ofString "MAX_WORD", .int 4294967295), (Str.ofString "BITRK", .int 256)]
abbrev xt (s : Shared) : Bool := xlAt vw lv s && recOk (RowW.records PySem.Challenge.rw_nt0633_01.row.toRowW) s
abbrev md : List PySem.Str := importedModules pq.main.body
theorem look_a (w : World) (os : OsState) : ((staticsOk md (boot_heap w.params) (Sf w os).heap && namesBound pq (Sf w os).heap && gensDone (Sf w os) && laidKept (boot_heap w.params) (Sf w os).heap), (Sf w os).heap.bltView, (Sf w os).heap.accountedOkI md, ((Sf w os).gens.size == 0)) = (true, bltViewBooted, true, true) := by kernel_rfl
theorem look_b (w : World) (os : OsState) : (seen ((recsOf vw).map (·.name)) (ownsOf vw) [] { (Sf w os) with gens := #[] }) = (expectedOf vw) := by kernel_rfl
theorem look_c (w : World) (os : OsState) : ((Sf w os).heap.keysOk (looseW vw ls) ((recsOf vw).map (·.name)) ((litsOf vw).map (·.1)) ((clssOf vw (looseW vw ls)).map (·.name))) = (true) := by kernel_rfl
theorem look_d (w : World) (os : OsState) : ((Sf w os).heap.isNs mainGlobals, (Sf w os).heap.isNs builtinsNs, tablesOk vw (Sf w os).heap) = (true, true, true) := by kernel_rfl
theorem look_f (w : World) (os : OsState) : (tabsOk vw (Sf w os)) = (true) := by kernel_rfl
theorem look_g (w : World) (os : OsState) : (wideSeen vw (Sf w os)) = (wideGood vw) := by kernel_rfl
theorem look_e (w : World) (os : OsState) : (xt (Sf w os), pinSeenD vw (drecsOf vw) (Sf w os), plainSeenE vw (looseW vw ls) (Sf w os), plainSeenD vw ls (Sf w os), clsSeenW vw ls (Sf w os)) = (true, pinGoodD (drecsOf vw), plainGoodE vw (looseW vw ls), plainGoodD vw ls, clsGoodW vw ls) := by kernel_rfl
theorem seen_glue {q : Program} {loose mods : List PySem.Str} {Xt : Shared → Bool} {s : Shared}
    (h1 : seen ((recsOf q).map (·.name)) (ownsOf q) [] { s with gens := #[] } = expectedOf q) (h2 : s.heap.bltView = bltViewBooted)
    (h3a : s.heap.keysOk (looseW q loose) ((recsOf q).map (·.name)) ((litsOf q).map (·.1)) ((clssOf q (looseW q loose)).map (·.name)) = true) (h3b : s.heap.accountedOkI mods = true)
    (h3c : s.heap.isNs mainGlobals = true) (h3d : s.heap.isNs builtinsNs = true) (h3e : tablesOk q s.heap = true) (h3f : Xt s = true) (h3g : (s.gens.size == 0) = true)
    (h4 : tabsOk q s = true) (h5 : pinSeenD q (drecsOf q) s = pinGoodD (drecsOf q)) (h6 : plainSeenE q (looseW q loose) s = plainGoodE q (looseW q loose)) (h7 : plainSeenD q loose s = plainGoodD q loose) (h8 : wideSeen q s = wideGood q) (h9 : clsSeenW q loose s = clsGoodW q loose) :
    openSeen q loose mods Xt true s = openGood q loose := by
  unfold openSeen openGood
  rw [h1, h2, h3a, h3b, h3c, h3d, h3e, h3f, if_pos rfl, h3g, h4, h5, h6, h7, h8, h9]
  rfl
theorem seen_all (w : World) (os : OsState) : openSeen vw ls md xt true (Sf w os) = openGood vw ls := by
  obtain ⟨-, a2⟩ := Prod.mk.inj (look_a w os)
  obtain ⟨a2, a3⟩ := Prod.mk.inj a2
  obtain ⟨a3, a4⟩ := Prod.mk.inj a3
  obtain ⟨d1, d2⟩ := Prod.mk.inj (look_d w os)
  obtain ⟨d2, d3⟩ := Prod.mk.inj d2
  obtain ⟨f1, f2⟩ := Prod.mk.inj (look_e w os)
  obtain ⟨f2, f3⟩ := Prod.mk.inj f2
  obtain ⟨f3, f4⟩ := Prod.mk.inj f3
  obtain ⟨f4, f5⟩ := Prod.mk.inj f4
  exact seen_glue (look_b w os) a2 (look_c w os) a3 d1 d2 d3 f1 a4 (look_f w os) f2 f3 f4 (look_g w os) f5
theorem stat_all (w : World) (os : OsState) : (staticsOk md (boot_heap w.params) (Sf w os).heap && namesBound pq (Sf w os).heap && gensDone (Sf w os) && laidKept (boot_heap w.params) (Sf w os).heap) = true := (Prod.mk.inj (look_a w os)).1
theorem run_glue {p : Program} {w : World} {n0 : Nat} {ann : Option Value} {benv : Env} {body : List Stmt} {pos u : Pos} {q : Pos} {s0 sa t : Shared} {sT : SharedT} {s : Shared} {N : Nat}
    (e : sT.abs = sa)
    (g : segRun treeTable p w n0 ann 1 5259 sT.abs (piecesOf body benv (.body body benv) pos [topFrame q]) = some (.next, t, .body body benv, u))
    (c3 : topRun treeTable p w n0 ann 2 t ⟨doneF .next, .body body benv, u, [topFrame q]⟩ = some s)
    (blk : segRun treeTable p w n0 ann 1 1 sa (blockOf body benv (.body body benv) pos [topFrame q]) = some (.next, sa, .body body benv, pos))
    (pre : topGo treeTable p w n0 ann 12 s0 (topStub p) = some (sa, ⟨denote treeTable (.body body benv), .body body benv, pos, [topFrame q]⟩)) (hN : 12 + (1 + (5259 + 2)) + N = 10642) :
    topRun treeTable p w n0 ann 10642 s0 (topStub p) = some s := by
  rw [e] at g
  have r1 := piece_app (rest := []) g (piece_nil c3)
  rw [List.append_nil] at r1
  have r2 := piece_block blk r1
  have r3 := go_top pre r2
  have r4 := topRun_mono N _ _ _ _ r3
  rw [hN] at r4
  exact r4
theorem run_all (w : World) (os : OsState) : topRun treeTable pq w 11 (an0 w) 10642 ⟨boot_heap w.params, Array.mk [], boot_drawn, boot_toks, os⟩ (topStub pq) = some (Sf w os) :=
  run_glue (ta_abs w os) (whole_run w os) (fin_run w os) (block_run w os) (pre_run w os) (N := 5368) rfl
end
end Hv
set_option hygiene false in
local macro_rules | `(tactic| o_head $H) => `(tactic| (
  refine PySem.W.holds_open (q := vw) (loose := [Str.ofString "SIZE_BX", Str.ofString "POS_A", Str.ofString "POS_C", Str.ofString "POS_B", Str.ofString "POS_BX", Str.ofString "MAXARG_A", Str.ofString "MAXARG_B", Str.ofString "MAXARG_C", Str.ofString "MAXARG_BX", Str.ofString "MAXARG_SBX", Str.ofString "MAX_WORD", Str.ofString "BITRK", Str.ofString "OP_NAMES", Str.ofString "OP_MODES"]) (Xt := fun s => xlAt vw [(Str.ofString "SIZE_BX", .int 18), (Str.ofString "POS_A", .int 6), (Str.ofString "POS_C", .int 14), (Str.ofString "POS_B", .int 23), (Str.ofString "POS_BX", .int 14), (Str.ofString "MAXARG_A", .int 255), (Str.ofString "MAXARG_B", .int 511), (Str.ofString "MAXARG_C", .int 511), (Str.ofString "MAXARG_BX", .int 262143), (Str.ofString "MAXARG_SBX", .int 131071), (Str.ofString "MAX_WORD", .int 4294967295), (Str.ofString "BITRK", .int 256)] s && recOk (RowW.records PySem.Challenge.rw_nt0633_01.row.toRowW) s) (XP := XL vw [(Str.ofString "SIZE_BX", .int 18), (Str.ofString "POS_A", .int 6), (Str.ofString "POS_C", .int 14), (Str.ofString "POS_B", .int 23), (Str.ofString "POS_BX", .int 14), (Str.ofString "MAXARG_A", .int 255), (Str.ofString "MAXARG_B", .int 511), (Str.ofString "MAXARG_C", .int 511), (Str.ofString "MAXARG_BX", .int 262143), (Str.ofString "MAXARG_SBX", .int 131071), (Str.ofString "MAX_WORD", .int 4294967295), (Str.ofString "BITRK", .int 256)]) (Yf := Hook.obs $H) (Ya := Hook.val $H) (YP := Hook.says $H) (N := 10642) ?hl (Hook.of $H) (Hook.keeps $H) (fun s e => xl_of s (Bool.and_eq_true_iff.mp e).1) XL.keeps (by rfl) (by rfl) (by rfl) (fun s e => recFacts_of (Bool.and_eq_true_iff.mp e).2) (by first | rfl | fail "A") (by first | assumption | decide +kernel) (by decide +kernel) ⟨rfl, rfl, rfl, rfl, rfl, by decide +kernel⟩ ?hw ?hc
  case hl =>
    exact Hv.left_glue (fin := Hv.Sf) (boot_open Hv.open_is rfl Hv.fence_is) Hv.boot_ns Hv.boot_size (fun w => rfl) Hv.run_all Hv.stat_all Hv.seen_all (fun w os => by kernel_rfl)))
open_top hd for PySem.Challenge.rw_nt0633_01
set_option maxHeartbeats 8000000
section
theorem pw (k : Nat) : (0 : Int) < 2 ^ k := kbt_pos k
theorem bor (u v : Int) : Builtin.bitOr u v = u + v - Builtin.bitAnd u v := by
  have h := bitXor_and u v
  unfold Builtin.bitXor at h
  omega
theorem band_sh (p : Nat) : ∀ u y : Int, Builtin.bitAnd u (y * 2 ^ p) = Builtin.bitAnd (u / 2 ^ p) y * 2 ^ p := by
  induction p with
  | zero => intro u y; simp
  | succ p ih =>
    intro u y
    have e : y * 2 ^ (p + 1) = 2 * (y * 2 ^ p) := by rw [Int.pow_succ]; rw [← Int.mul_assoc, Int.mul_comm]
    rw [e, kbt_halves]
    have h1 : (2 * (y * 2 ^ p)) / 2 = y * 2 ^ p := by omega
    have h2 : ¬ (u % 2 = 1 ∧ (2 * (y * 2 ^ p)) % 2 = 1) := by omega
    rw [if_neg h2, h1, ih]
    have h3 : u / 2 / 2 ^ p = u / 2 ^ (p + 1) := by
      rw [Int.ediv_ediv_of_nonneg (by decide)]
      congr 1
      rw [Int.pow_succ, Int.mul_comm]
    rw [h3, Int.add_zero, Int.pow_succ]
    rw [← Int.mul_assoc, Int.mul_comm 2 (Builtin.bitAnd _ _), Int.mul_assoc, Int.mul_comm 2]
theorem band0 (h : Int) : Builtin.bitAnd 0 h = 0 := by
  have := band_sh 0 h 0
  rw [bitAnd_comm]
  unfold Builtin.bitAnd
  by_cases q : 0 ≤ h
  · simp [q]
  · simp [q]
theorem band_dis (s : Nat) (h y : Int) (h0 : 0 ≤ y) (h1 : y < 2 ^ s) : Builtin.bitAnd (h * 2 ^ s) y = 0 := by
  rw [bitAnd_comm, band_sh, Int.ediv_eq_zero_of_lt h0 h1, band0, Int.zero_mul]
theorem band_not (x y : Int) (hx : 0 ≤ x) (hy : 0 ≤ y) : Builtin.bitAnd x (Builtin.bitNot y) = x - Builtin.bitAnd x y := by
  have h1 : ¬ (0 ≤ Builtin.bitNot y) := by rw [kbt_not]; omega
  have h2 : Builtin.bitNot (Builtin.bitNot y) = y := by rw [kbt_not, kbt_not]; omega
  unfold Builtin.bitAnd
  simp only [hx, hy, h1, decide_true, decide_false, h2]
theorem bor_hi (p : Nat) (x y : Int) (h0 : 0 ≤ x) (h1 : x < 2 ^ p) : Builtin.bitOr x (y * 2 ^ p) = x + y * 2 ^ p := by
  rw [bor, band_sh, Int.ediv_eq_zero_of_lt h0 h1, band0, Int.zero_mul, Int.sub_zero]
theorem field_val (x : Int) (p s : Nat) : Builtin.bitAnd (x.fdiv (2 ^ p)) (1 * 2 ^ s - 1) = x / 2 ^ p % 2 ^ s := by
  rw [Int.one_mul, kbt_mask, Int.fdiv_eq_ediv_of_nonneg _ (Int.le_of_lt (pw p))]
theorem wf_val (x y : Int) (p s : Nat) (hx : 0 ≤ x) (hx2 : x < 4294967296) (hy : 0 ≤ y) (hy2 : y < 2 ^ s) :
    Builtin.bitOr (Builtin.bitAnd (Builtin.bitAnd x (Builtin.bitNot ((1 * 2 ^ s - 1) * 2 ^ p))) 4294967295) (Builtin.bitAnd (y * 2 ^ p) ((1 * 2 ^ s - 1) * 2 ^ p)) = x - x / 2 ^ p % 2 ^ s * 2 ^ p + y * 2 ^ p := by
  have hp := pw p
  have hs := pw s
  have hm : (0 : Int) ≤ (1 * 2 ^ s - 1) * 2 ^ p := Int.mul_nonneg (by omega) (by omega)
  have e1 : ∀ z : Int, Builtin.bitAnd z ((1 * 2 ^ s - 1) * 2 ^ p) = z / 2 ^ p % 2 ^ s * 2 ^ p := fun z => by rw [band_sh, Int.one_mul, kbt_mask]
  rw [band_not x _ hx hm, e1, e1, Int.mul_ediv_cancel _ (by omega), Int.emod_eq_of_lt hy hy2]
  have q0 : 0 ≤ x / 2 ^ p := Int.ediv_nonneg hx (by omega)
  have q1 : x / 2 ^ p * 2 ^ p ≤ x := Int.ediv_mul_le _ (by omega)
  have q2 : x / 2 ^ p % 2 ^ s ≤ x / 2 ^ p := by
    have c := Int.mul_ediv_add_emod (x / 2 ^ p) (2 ^ s)
    have d := Int.mul_nonneg (Int.le_of_lt hs) (Int.ediv_nonneg q0 (Int.le_of_lt hs))
    omega
  have q3 : 0 ≤ x / 2 ^ p % 2 ^ s := Int.emod_nonneg _ (by omega)
  have q4 : x / 2 ^ p % 2 ^ s * 2 ^ p ≤ x / 2 ^ p * 2 ^ p := Int.mul_le_mul_of_nonneg_right q2 (by omega)
  have q5 : 0 ≤ x / 2 ^ p % 2 ^ s * 2 ^ p := Int.mul_nonneg q3 (by omega)
  rw [bitAnd_m32, Int.emod_eq_of_lt (by omega) (by omega), bor, band_sh]
  have h1 : (x - x / 2 ^ p % 2 ^ s * 2 ^ p) / 2 ^ p = x / 2 ^ p / 2 ^ s * 2 ^ s := by
    have a : x - x / 2 ^ p % 2 ^ s * 2 ^ p = x + (-(x / 2 ^ p % 2 ^ s)) * 2 ^ p := by rw [Int.neg_mul]; omega
    rw [a, Int.add_mul_ediv_right _ _ (by omega)]
    have c := Int.mul_ediv_add_emod (x / 2 ^ p) (2 ^ s)
    rw [Int.mul_comm] at c
    omega
  rw [h1, band_dis _ _ _ hy hy2, Int.zero_mul, Int.sub_zero]
theorem abc_val (op a b c : Int) (h1 : 0 ≤ op) (h2 : op < 64) (h3 : 0 ≤ a) (h4 : a < 256) (h5 : 0 ≤ b) (h7 : 0 ≤ c) (h8 : c < 512) :
    Builtin.bitOr (Builtin.bitOr (Builtin.bitOr (op * 2 ^ 0) (a * 2 ^ 6)) (b * 2 ^ 23)) (c * 2 ^ 14) = op + 64 * a + 16384 * c + 8388608 * b := by
  have e0 : op * 2 ^ 0 = op := by rw [Int.pow_zero, Int.mul_one]
  rw [e0, bor_hi 6 op a h1 (by omega), bor_hi 23 _ b (by omega) (by omega), bor, band_sh]
  have e : (op + a * 2 ^ 6 + b * 2 ^ 23) / 2 ^ 14 = b * 2 ^ 9 := by omega
  rw [e, band_dis 9 b c h7 (by omega)]
  omega
theorem abx_val (op a bx : Int) (h1 : 0 ≤ op) (h2 : op < 64) (h3 : 0 ≤ a) (h4 : a < 256) :
    Builtin.bitOr (Builtin.bitOr (op * 2 ^ 0) (a * 2 ^ 6)) (bx * 2 ^ 14) = op + 64 * a + 16384 * bx := by
  have e0 : op * 2 ^ 0 = op := by rw [Int.pow_zero, Int.mul_one]
  rw [e0, bor_hi 6 op a h1 (by omega), bor_hi 14 _ bx (by omega) (by omega)]
  omega
theorem k_val (v : Int) : Builtin.bitAnd v 256 = v / 256 % 2 * 256 := kbt_bit v 8
theorem fd64 (x : Int) : x.fdiv 64 = x / 64 := Int.fdiv_eq_ediv_of_nonneg x (by decide)
theorem fm64 (x : Int) : x.fmod 64 = x % 64 := Int.fmod_eq_emod_of_nonneg x (by decide)
theorem fd256 (x : Int) : x.fdiv 256 = x / 256 := Int.fdiv_eq_ediv_of_nonneg x (by decide)
theorem fm256 (x : Int) : x.fmod 256 = x % 256 := Int.fmod_eq_emod_of_nonneg x (by decide)
theorem fd512 (x : Int) : x.fdiv 512 = x / 512 := Int.fdiv_eq_ediv_of_nonneg x (by decide)
theorem fm512 (x : Int) : x.fmod 512 = x % 512 := Int.fmod_eq_emod_of_nonneg x (by decide)
theorem fd16384 (x : Int) : x.fdiv 16384 = x / 16384 := Int.fdiv_eq_ediv_of_nonneg x (by decide)
theorem fm16384 (x : Int) : x.fmod 16384 = x % 16384 := Int.fmod_eq_emod_of_nonneg x (by decide)
theorem fd8388608 (x : Int) : x.fdiv 8388608 = x / 8388608 := Int.fdiv_eq_ediv_of_nonneg x (by decide)
theorem fm8388608 (x : Int) : x.fmod 8388608 = x % 8388608 := Int.fmod_eq_emod_of_nonneg x (by decide)
end
section
open PySem.Calls
theorem enterS {prog : Program} {w : World} {A₀ A : Around} {s : Shared} {base h₀ : Heap} {outer : List Env} {L : Addr} {m mg mb : Str → Option Value} {env : Env} {news : List (Addr × Obj)} {K : Frag} {p : Program} {loose : List Str} {mean : ExcName → Option Value}
    {R : Result → Shared → Prop} {name qual : Str} {params : Arguments} {body : List Stmt} {scope : Scope} {dV kV doc pm cdv ct oc : Value} {an od : Option Addr} {osl : Array (Option Value)} {f : Addr} {args : Args} {binds : List (Str × Value)}
    (B : Below A₀ base outer h₀) (F : Fr h₀ L s.heap m) (X₀ : K.In h₀) (N : News h₀ L s.heap news) (T : Top p loose mean mg mb h₀) (hA : A.frames = some (env :: outer)) (hf : env.frame = some L) (hke : env.scope.kind = .function)
    (ho : K.lookup f = some ⟨oc, od, .func (fnOf name qual params body scope dV kV doc pm an cdv ct), osl⟩) (hcd : codeIn K cdv qual = true) (hroom : A.depth < recursionLimit)
    (hbind : BindsTo s (fnOf name qual params body scope dV kV doc pm an cdv ct) args binds) (hloc : ∀ y ∈ binds, scope.names.lookup y.1 = some .local)
    (h : ∀ g L' h₁, (∀ b o, s.heap.get? b = some o → b ∉ news.map (·.1) → g.get? b = some o) → Fr h₀ L g m → Fr g L' h₁ (fun y => binds.reverse.lookup y) → News g L' h₁ news → Below A base (env :: outer) g → K.In g → Top p loose mean mg mb g →
      wpAny (model prog w) (A.deeper (envOf qual scope L' f cdv)) (execs body (envOf qual scope L' f cdv))
        (fun fl s' => LeaveK h₀ L m g R (match fl with | .ret v => v | _ => .none) s')
        (fun e s' => wpAny (model prog w) (A.deeper (envOf qual scope L' f cdv)) (leaving (envOf qual scope L' f cdv) e) (fun _ s'' => R (.error e) s'') (fun e' s'' => R (.error e') s'') s')
        { s with heap := h₁, toks := s.toks + binds.length })
    (hco : scope.isCoroutine = false) (hgen : scope.isGenerator = false) (hk : scope.kind = .function)
    (hcell : ∀ x ∈ scope.names, x.2 ≠ .cell) : codeAny (model prog w) A (.call (.ref f) args) R s := by
  obtain ⟨FG, BG, st, lv⟩ := groundX (R := R) B F N hA hf hke
  refine codeAny_call_def (fd := fnOf name qual params body scope dV kV doc pm an cdv ct) (body := body) (binds := binds) hroom ((X₀.keeps F.keep) _ _ ho) rfl (T.nolimit.keeps F.keep) (codeRec_of (X₀.keeps F.keep) hcd) rfl hbind hcell hloc (fun h₁ hns hk₁ => ?_) hco hgen hk
  exact wpAny_mono (h _ s.heap.objs.size h₁ (fun b o e hb => hideAll_get _ e hb) FG ⟨hns, fun b o e => hk₁ b o (of_hideAll _ e), Nat.le_of_eq (hideAll_size _ _)⟩
    (fun q hq => ⟨hk₁ _ _ (N q hq).1, Nat.ne_of_lt (Heap.lt_size (N q hq).1), hideAll_none _ (List.mem_map_of_mem hq)⟩) BG (X₀.keeps st) (T.keeps st)) (fun fl s' hl => lv _ _ hl) fun _ _ y => y
theorem upN {h₀ h g h' : Heap} {L L' : Addr} {m' : Str → Option Value} {news : List (Addr × Obj)} (N : ∀ p ∈ news, h.get? p.1 = some p.2 ∧ p.1 ≠ L ∧ h₀.get? p.1 = none)
    (hg : ∀ b o, h.get? b = some o → b ∉ ([] : List (Addr × Obj)).map (·.1) → g.get? b = some o) (F : Fr g L' h' m') : News h₀ L h' news :=
  fun p hp => ⟨F.keep _ _ (hg _ _ (N p hp).1 (by intro q; simp at q)), (N p hp).2⟩
theorem news0 {h₀ h : Heap} {L : Addr} : News h₀ L h [] := News.nil
structure Sub9 (a b : List (Addr × Obj)) : Prop where
  out : ∀ p ∈ a, p ∈ b
open LCg LCt in
theorem comp_none {prog : Program} {w : World} {A : Around} {h₀ : Heap} {L : Addr} {m : Str → Option Value} {env : Env} {ct elt : PySem.Expr} {x : Str} {scope : Scope} {cl : List (Str × Addr)} {s : Shared} {S : List (Addr × Obj) → Prop}
    {Fin : List Value → List (Addr × Obj) → Prop} {news : List (Addr × Obj)} {vs : List Value} {ns : List Int} (hi : IntsAre vs ns) (hb : ∀ k ∈ ns, 0 ≤ k ∧ k < 4294967296) (hS : S news)
    (turn : ∀ k t I oI C oC D m₂ h tk (E' : Value → Shared → Prop), 0 ≤ k ∧ k < 4294967296 → NsObj oC m₂ → m₂ x = some (.int k t) → Fr h₀ L h m → News h₀ L h ((I, oI) :: (C, oC) :: (D, lst []) :: news) → Off3 I C D news → ((@Ne Nat I C) ∧ (@Ne Nat I D) ∧ (@Ne Nat C D)) →
      wpAny (model prog w) A (isTrue ct (compEnvC scope cl C env) (eval ct (compEnvC scope cl C env))) (fun b s' => if b = true then False
        else CompEnd h₀ L m { s with heap := h, toks := tk } I oI C oC D (lst []) S (fun _ news' => Sub9 news news') Value.none s') E' { s with heap := h, toks := tk })
    (fin : Fin [] news) : CompRestT prog w A h₀ L m env ct elt x scope cl s S (fun i v => vs.toArray[i]? = some v) Fin vs.toArray.size 0 [] news := by
  have key : ∀ j i : Nat, i + j = vs.toArray.size → CompRestT prog w A h₀ L m env ct elt x scope cl s S (fun i v => vs.toArray[i]? = some v) Fin j i [] news := by
    intro j
    induction j with
    | zero => intro i _; exact CompRestT.zero fin
    | succ j ih =>
      intro i hij
      refine CompRestT.succ ?_
      intro v I oI C oC D m₂ h tk E' hv hC hx F N off ne
      obtain ⟨k, t, hv', hk⟩ := IntsAre.at hi i v (by simpa using hv)
      rw [hv'] at hx
      refine wpAny_mono (turn k t I oI C oC D m₂ h tk E' (hb k (List.mem_of_getElem? hk)) hC hx F N off ne) (fun b s₂ hq => ?_) fun _ _ e => e
      cases b with
      | true => exact (hq : False).elim
      | false =>
        obtain ⟨h', tk', nw, e, F', N', off', hS', hn⟩ := hq
        refine ⟨h', tk', news, e, F', fun p hp => N' p ?_, off, hS, ih (i + 1) (by omega)⟩
        rcases List.mem_cons.mp hp with q | hp
        · exact List.mem_cons.mpr (.inl q)
        rcases List.mem_cons.mp hp with q | hp
        · exact List.mem_cons.mpr (.inr (List.mem_cons.mpr (.inl q)))
        rcases List.mem_cons.mp hp with q | hp
        · exact List.mem_cons.mpr (.inr (List.mem_cons.mpr (.inr (List.mem_cons.mpr (.inl q)))))
        · exact List.mem_cons.mpr (.inr (List.mem_cons.mpr (.inr (List.mem_cons.mpr (.inr (hn.out p hp))))))
  exact key _ 0 (by omega)
theorem drop1 {h₀ h : Heap} {L : Addr} {x : Addr × Obj} {r : List (Addr × Obj)} (N : News h₀ L h (x :: r)) : News h₀ L h r := fun p hp => N p (List.mem_cons_of_mem _ hp)
theorem menu2 {v k : Int} (h0 : 0 ≤ v) (h1 : v < 2) (hk : 0 ≤ k) : 0 ≤ [0, k].getD v.toNat 0 ∧ [0, k].getD v.toNat 0 ≤ k := by
  have h : v = 0 ∨ v = 1 := by omega
  rcases h with rfl | rfl
  · exact ⟨Int.le_refl 0, hk⟩
  · exact ⟨hk, Int.le_refl k⟩
theorem allnil : ∀ k ∈ ([] : List Int), 0 ≤ k ∧ k < 4294967296 := fun _ h => nomatch h
end
section
open PySem.Calls PySem.Builtin
theorem enc_entry (x : PySem.Str) (t : Tok) : «str.encode» ⟨[.str x t], []⟩ = ((_codecs.encodeNarrow "str.encode" _codecs.utf8Codec none (.str x t) x >>= fun b => mkBytes b) >>= fun v => ret v) := by kernel_rfl
theorem meets_encode {x : PySem.Str} {t : Tok} {b : Array UInt8} (hb : ∀ self, _codecs.encodeNarrow "str.encode" _codecs.utf8Codec none self x = pure b) :
    Meets («str.encode» ⟨[.str x t], []⟩) (fun _ R s => b.size ≤ sizeLine ∧ ∀ t' k, R (.ok (.ret (.bytes b t'))) { s with toks := k }) := by
  refine .of_wp fun prog w A R s hS => ?_
  obtain ⟨hsz, h⟩ := hS
  rw [enc_entry, hb]
  refine wpAny_bind (wpAny_bind (wpAny_pure ?_))
  exact wpAny_mkBytes (wpAny_pure ⟨_, rfl, h _ _⟩) hsz
theorem encode {prog : Program} {w : World} {A : Around} {E : Value → Shared → Prop} {s : Shared} {x : PySem.Str} {t : Tok} {b : Array UInt8} {Q : Value → Shared → Prop} (hb : ∀ self, _codecs.encodeNarrow "str.encode" _codecs.utf8Codec none self x = pure b) (hsz : b.size ≤ sizeLine) (h : ∀ t' k, Q (.bytes b t') { s with toks := k }) :
    wpAny (model prog w) A (call (.builtin "str.encode") [.str x t]) Q E s :=
  call_meets F.slot_str_encode (typeIs_str _ _ _) F.entry_str_encode (F.args_str_encode_1 _) (meets_encode hb) ⟨hsz, h⟩
end
section
open PySem.Calls PySem.Spec
open LCg
def CompSrcS (prog : Program) (w : World) (A : Around) (h₀ : Heap) (L : Addr) (m : Str → Option Value) (env : Env) (elt : PySem.Expr) (x : Str) (scope : Scope) (cl : List (Str × Addr)) (Q : Value → Shared → Prop) (xv : Value) (s₁ : Shared) : Prop :=
  ∃ r a b st t u v n news, xv = .ref r ∧ A.handled = none ∧ Fr h₀ L s₁.heap m ∧ News h₀ L s₁.heap news ∧ IsRange s₁.heap r a b st t u v ∧ Builtin.Range.small a b st = true ∧ Builtin.Range.rangeSize a b st = ((n : Nat) : Int) ∧ n ≤ sizeLine ∧
      ∀ s₂ : Shared, (∃ h, s₂ = { s₁ with heap := h }) → CompRest prog w A h₀ L m env elt x scope cl s₂ (fun _ => True) (fun i v => ∃ t, v = .int (a + (i : Int) * st) t) (FinE h₀ L m s₂ Q) n 0 [] news
theorem CompSrcS.intro {prog : Program} {w : World} {A : Around} {h₀ : Heap} {L : Addr} {m : Str → Option Value} {env : Env} {elt : PySem.Expr} {x : Str} {scope : Scope} {cl : List (Str × Addr)} {Q : Value → Shared → Prop} {s₁ : Shared} {r : Addr} {a b st : Int} {t u v : Tok} (n : Nat) {news : List (Addr × Obj)}
    (hh : A.handled = none) (F : Fr h₀ L s₁.heap m) (N : News h₀ L s₁.heap news) (hr : IsRange s₁.heap r a b st t u v) (hs : Builtin.Range.small a b st = true) (hn : Builtin.Range.rangeSize a b st = ((n : Nat) : Int)) (hz : n ≤ sizeLine)
    (R : ∀ g, CompRest prog w A h₀ L m env elt x scope cl { s₁ with heap := g } (fun _ => True) (fun i v => ∃ t, v = .int (a + (i : Int) * st) t) (FinE h₀ L m { s₁ with heap := g } Q) n 0 [] news) : CompSrcS prog w A h₀ L m env elt x scope cl Q (.ref r) s₁ :=
  ⟨r, a, b, st, t, u, v, n, news, rfl, hh, F, N, hr, hs, hn, hz, fun _ ⟨g, e⟩ => e ▸ R g⟩
section
variable {prog : Program} {w : World} {A : Around} {E : Value → Shared → Prop} {s : Shared} {h₀ : Heap} {L : Addr} {m : Str → Option Value} {env : Env}
theorem range_walksS {I : Addr} (hh : A.handled = none) (a st : Int) (n : Nat) : Walks prog w A I [I] [I] n (fun i v => ∃ t, v = .int (a + (i : Int) * st) t) (fun i h => IsRangeIter h I (a + (i : Nat) * st) ((n : Int) - (i : Nat)) st) :=
  let W : Walks prog w A I [I] [I] n (fun i v => i < n ∧ ∃ t, v = .int (a + i * st) t) (fun i h => IsRangeIter h I (a + (i : Nat) * st) ((n : Int) - (i : Nat)) st) := (Walks.range hh I a st n).bound
  { sub := W.sub, frame := W.frame, done := W.done, self := W.self,
    item := fun i s Q E hi st hQ => W.item i s Q E hi st fun v h' tk hP => hQ v h' tk (by obtain ⟨_, t, rfl⟩ := hP; exact ⟨t, rfl⟩) }
theorem range_stS {I : Addr} {a st : Int} {n : Nat} : ∀ i (h h' : Heap) (o : Obj) (nw : List (Addr × Obj)), IsRangeIter h I (a + (i : Nat) * st) ((n : Int) - (i : Nat)) st → h.get? I = some o → h'.get? I = some o → (∀ b o, h₀.get? b = some o → h'.get? b = some o) → News h₀ L h' nw → True → IsRangeIter h' I (a + (i : Nat) * st) ((n : Int) - (i : Nat)) st :=
  fun i h h' o nw st e e' _ _ _ => by
    have st' : h.get? I = some _ := st
    show h'.get? I = some _
    rw [e', ← e]; exact st'
theorem ListComp_S {elt iter : PySem.Expr} {x : Str} {px : Pos} {scope : Scope} {cl : List (Str × Addr)} {pos : Pos} {Q : Value → Shared → Prop} (F₀ : Fr h₀ L s.heap m)
    (hclos : closureFor scope env = pure cl) (hcell : ∀ y ∈ scope.names, y.2 ≠ .cell) (hkind : scope.kind = .function)
    (hnames : ∀ y ∈ scope.names, y.2 = .local → scope.names.lookup y.1 = some .local) (hx : scope.names.lookup x = some .local)
    (h : wpAny (model prog w) A (eval iter env) (CompSrcS prog w A h₀ L m env elt x scope cl Q) E s)
    (hs : ∀ x, foldedSetIterable iter env x = pure x := by intro _; rfl) :
    wpAny (model prog w) A (eval (.ListComp elt [⟨.Name x px, iter, [], 0⟩] scope pos) env) Q E s := by
  rw [eval_ListComp]
  refine wpAny_comprehension_free (use := none) rfl hs hclos hkind hnames (wpAny_mono h (fun xv s₁ h₁ => ?_) fun _ _ e => e)
  obtain ⟨r, a, b, st, t, u, v, n, news, rfl, hh, F, N, hr, hsm, hn, hsz, R⟩ := h₁
  refine wpAny_pyIter_range hr hsm ?_
  refine block_U (range_walksS hh a st n) hsz (fun i h st => ⟨_, st⟩) range_stS hcell hkind hx (by show IsRangeIter _ _ _ _ _; rw [hn]; simpa using Heap.get?_push_size _ rfl) (fun b hb => ?_)
    (F.keeps fun _ _ e => Heap.get?_push_of_some _ e) (N.grown fun _ _ e => Heap.get?_push_of_some _ e) (Nat.ne_of_lt F.ns.lt) (next_is_new F) (fun p hp => Nat.ne_of_lt (Heap.lt_size (N p hp).1)) trivial (R _ ⟨_, rfl⟩) ?_
  · rw [List.mem_singleton.mp hb]
    show s₁.heap.objs.size < (s₁.heap.push _).objs.size
    rw [Heap.size_push]; exact Nat.lt_succ_self _
  · intro D C h tk m' ys news' F' N' o1 hn hC₀ hD₀ hCL hDL hCD offC fin
    refine ⟨m', hn, fun h'' hs'' => fin D h'' tk (F'.change hs'' hCL hC₀) (fun p hp => ?_) o1⟩
    refine ⟨hs''.extBut _ _ ?_ (N' p hp).1, (N' p hp).2⟩
    rcases List.mem_cons.mp hp with rfl | hp
    · exact Ne.symm hCD
    · exact offC p hp
/-- what the first i rows of a list of objects are -/
structure RowsUp (R : Nat → Obj → Prop) (i : Nat) (ys : List Value) (ts : List (Addr × Obj)) : Prop where
  len : ys.length = i
  row : ∀ j, j < i → ∃ a o, ys[j]? = some (.ref a) ∧ (a, o) ∈ ts ∧ R j o
theorem RowsUp.nil {R : Nat → Obj → Prop} : RowsUp R 0 [] [] := ⟨rfl, fun _ h => absurd h (Nat.not_lt_zero _)⟩
theorem RowsUp.snoc {R : Nat → Obj → Prop} {i : Nat} {ys : List Value} {ts : List (Addr × Obj)} {a : Addr} {o : Obj} (H : RowsUp R i ys ts) (hr : R i o) : RowsUp R (i + 1) (ys ++ [.ref a]) ((a, o) :: ts) := by
  refine ⟨by rw [List.length_append, H.len]; rfl, fun j hj => ?_⟩
  by_cases e : j = i
  · subst e
    exact ⟨a, o, by rw [List.getElem?_append_right (Nat.le_of_eq H.len), H.len, Nat.sub_self]; rfl, List.mem_cons_self .., hr⟩
  · obtain ⟨b, o', h1, h2, h3⟩ := H.row j (by omega)
    exact ⟨b, o', by rw [List.getElem?_append_left (by rw [H.len]; omega)]; exact h1, List.mem_cons_of_mem _ h2, h3⟩
theorem comp_tab {elt : PySem.Expr} {x : Str} {scope : Scope} {cl : List (Str × Addr)} {P : Nat → Value → Prop} {Fin : List Value → List (Addr × Obj) → Prop} {R : Nat → Obj → Prop} {n : Nat} {p q : Addr × Obj}
    (turn : ∀ (i : Nat) (v : Value) (I : Addr) (oI : Obj) (C : Addr) (oC : Obj) (D : Addr) (ys : List Value) (ts : List (Addr × Obj)) m₂ h tk (E' : Value → Shared → Prop), i < n → P i v → NsObj oC m₂ → m₂ x = some v → Fr h₀ L h m → News h₀ L h ((I, oI) :: (C, oC) :: (D, lst ys) :: p :: q :: ts) → Off3 I C D (p :: q :: ts) → ((@Ne Nat I C) ∧ (@Ne Nat I D) ∧ (@Ne Nat C D)) →
      wpAny (model prog w) A (eval elt (compEnvC scope cl C env)) (CompEnd h₀ L m { s with heap := h, toks := tk } I oI C oC D (lst ys) (fun _ => True) (fun y news' => ∃ a o, y = .ref a ∧ R i o ∧ news' = p :: q :: (a, o) :: ts)) E' { s with heap := h, toks := tk })
    (fin : ∀ ys ts, RowsUp R n ys ts → Fin ys (p :: q :: ts)) : CompRest prog w A h₀ L m env elt x scope cl s (fun _ => True) P Fin n 0 [] (p :: q :: []) := by
  have key : ∀ j i : Nat, i + j = n → ∀ ys ts, RowsUp R i ys ts → CompRest prog w A h₀ L m env elt x scope cl s (fun _ => True) P Fin j i ys (p :: q :: ts) := by
    intro j
    induction j with
    | zero =>
      intro i hi ys ts H
      have e : i = n := by omega
      subst e
      exact CompRest.zero (fin ys ts H)
    | succ j ih =>
      intro i hi ys ts H
      refine CompRest.succ fun v I oI C oC D m₂ h tk E' hv hC hx F N off ne => ?_
      refine wpAny_mono (turn i v I oI C oC D ys ts m₂ h tk E' (by omega) hv hC hx F N off ne) (fun y s₂ hq => ?_) fun _ _ e => e
      obtain ⟨h', tk', nw, e, F', N', off', hS', a, o, rfl, hr, rfl⟩ := hq
      exact ⟨h', tk', _, e, F', N', off', hS', ih (i + 1) (by omega) _ _ (H.snoc hr)⟩
  exact key n 0 (by omega) [] [] RowsUp.nil
end
theorem turn_end {h₀ : Heap} {L I C D d : Addr} {m : Str → Option Value} {s₁ : Shared} {oI oC oD o : Obj} {p q : Addr × Obj} {ts : List (Addr × Obj)} {h' : Heap} {tk : Nat} {R : Nat → Obj → Prop} {i : Nat} {Z : Prop}
    (F : Fr h₀ L h' m) (N : News h₀ L h' ((d, o) :: (I, oI) :: (C, oC) :: (D, oD) :: p :: q :: ts)) (off : (p.1 ≠ I ∧ p.1 ≠ C ∧ p.1 ≠ D) ∧ (q.1 ≠ I ∧ q.1 ≠ C ∧ q.1 ≠ D) ∧ Off3 I C D ts) (l : @LT.lt Nat _ I d ∧ @LT.lt Nat _ C d ∧ @LT.lt Nat _ D d ∧ Z) (hR : R i o) :
    CompEnd h₀ L m s₁ I oI C oC D oD (fun _ => True) (fun y news' => ∃ a o, y = .ref a ∧ R i o ∧ news' = p :: q :: (a, o) :: ts) (.ref d) { s₁ with heap := h', toks := tk } := by
  refine ⟨h', tk, p :: q :: (d, o) :: ts, rfl, F, fun x hx => N x ?_, ⟨off.1, off.2.1, ⟨Ne.symm (Nat.ne_of_lt l.1), Ne.symm (Nat.ne_of_lt l.2.1), Ne.symm (Nat.ne_of_lt l.2.2.1)⟩, off.2.2⟩, trivial, d, o, rfl, hR, rfl⟩
  simp only [List.mem_cons] at hx ⊢
  rcases hx with h | h | h | h | h | h | h
  · exact .inr (.inl h)
  · exact .inr (.inr (.inl h))
  · exact .inr (.inr (.inr (.inl h)))
  · exact .inr (.inr (.inr (.inr (.inl h))))
  · exact .inr (.inr (.inr (.inr (.inr (.inl h)))))
  · exact .inl h
  · exact .inr (.inr (.inr (.inr (.inr (.inr h)))))
end
section
/-- the table's words: a name and what is told of it, by turns -/
def wdL : List Str := [⟨#[77, 79, 86, 69]⟩,
  ⟨#[82, 78, 97, 48]⟩,
  ⟨#[76, 79, 65, 68, 75]⟩,
  ⟨#[75, 78, 97, 49]⟩,
  ⟨#[76, 79, 65, 68, 66, 79, 79, 76]⟩,
  ⟨#[85, 85, 97, 48]⟩,
  ⟨#[76, 79, 65, 68, 78, 73, 76]⟩,
  ⟨#[82, 78, 97, 48]⟩,
  ⟨#[71, 69, 84, 85, 80, 86, 65, 76]⟩,
  ⟨#[85, 78, 97, 48]⟩,
  ⟨#[71, 69, 84, 71, 76, 79, 66, 65, 76]⟩,
  ⟨#[75, 78, 97, 49]⟩,
  ⟨#[71, 69, 84, 84, 65, 66, 76, 69]⟩,
  ⟨#[82, 75, 97, 48]⟩,
  ⟨#[83, 69, 84, 71, 76, 79, 66, 65, 76]⟩,
  ⟨#[75, 78, 49]⟩,
  ⟨#[83, 69, 84, 85, 80, 86, 65, 76]⟩,
  ⟨#[85, 78, 48]⟩,
  ⟨#[83, 69, 84, 84, 65, 66, 76, 69]⟩,
  ⟨#[75, 75, 48]⟩,
  ⟨#[78, 69, 87, 84, 65, 66, 76, 69]⟩,
  ⟨#[85, 85, 97, 48]⟩,
  ⟨#[83, 69, 76, 70]⟩,
  ⟨#[82, 75, 97, 48]⟩,
  ⟨#[65, 68, 68]⟩,
  ⟨#[75, 75, 97, 48]⟩,
  ⟨#[83, 85, 66]⟩,
  ⟨#[75, 75, 97, 48]⟩,
  ⟨#[77, 85, 76]⟩,
  ⟨#[75, 75, 97, 48]⟩,
  ⟨#[68, 73, 86]⟩,
  ⟨#[75, 75, 97, 48]⟩,
  ⟨#[77, 79, 68]⟩,
  ⟨#[75, 75, 97, 48]⟩,
  ⟨#[80, 79, 87]⟩,
  ⟨#[75, 75, 97, 48]⟩,
  ⟨#[85, 78, 77]⟩,
  ⟨#[82, 78, 97, 48]⟩,
  ⟨#[78, 79, 84]⟩,
  ⟨#[82, 78, 97, 48]⟩,
  ⟨#[76, 69, 78]⟩,
  ⟨#[82, 78, 97, 48]⟩,
  ⟨#[67, 79, 78, 67, 65, 84]⟩,
  ⟨#[82, 82, 97, 48]⟩,
  ⟨#[74, 77, 80]⟩,
  ⟨#[82, 78, 50]⟩,
  ⟨#[69, 81]⟩,
  ⟨#[75, 75, 116, 48]⟩,
  ⟨#[76, 84]⟩,
  ⟨#[75, 75, 116, 48]⟩,
  ⟨#[76, 69]⟩,
  ⟨#[75, 75, 116, 48]⟩,
  ⟨#[84, 69, 83, 84]⟩,
  ⟨#[82, 85, 97, 116, 48]⟩,
  ⟨#[84, 69, 83, 84, 83, 69, 84]⟩,
  ⟨#[82, 85, 97, 116, 48]⟩,
  ⟨#[67, 65, 76, 76]⟩,
  ⟨#[85, 85, 97, 48]⟩,
  ⟨#[84, 65, 73, 76, 67, 65, 76, 76]⟩,
  ⟨#[85, 85, 97, 48]⟩,
  ⟨#[82, 69, 84, 85, 82, 78]⟩,
  ⟨#[85, 78, 48]⟩,
  ⟨#[70, 79, 82, 76, 79, 79, 80]⟩,
  ⟨#[82, 78, 97, 50]⟩,
  ⟨#[70, 79, 82, 80, 82, 69, 80]⟩,
  ⟨#[82, 78, 97, 50]⟩,
  ⟨#[84, 70, 79, 82, 76, 79, 79, 80]⟩,
  ⟨#[78, 85, 116, 48]⟩,
  ⟨#[83, 69, 84, 76, 73, 83, 84]⟩,
  ⟨#[85, 85, 48]⟩,
  ⟨#[67, 76, 79, 83, 69]⟩,
  ⟨#[78, 78, 48]⟩,
  ⟨#[67, 76, 79, 83, 85, 82, 69]⟩,
  ⟨#[85, 78, 97, 49]⟩,
  ⟨#[86, 65, 82, 65, 82, 71]⟩,
  ⟨#[85, 78, 97, 48]⟩]
def mdL : List Int := [96, 113, 84, 96, 80, 113, 108, 49, 16, 60, 84, 108, 124, 124, 124, 124, 124, 124, 96, 96, 96, 104, 34, 188, 188, 188, 228, 228, 84, 84, 16, 98, 98, 132, 20, 0, 81, 80]
def nmB : List (Array UInt8) := [#[77, 79, 86, 69],
  #[76, 79, 65, 68, 75],
  #[76, 79, 65, 68, 66, 79, 79, 76],
  #[76, 79, 65, 68, 78, 73, 76],
  #[71, 69, 84, 85, 80, 86, 65, 76],
  #[71, 69, 84, 71, 76, 79, 66, 65, 76],
  #[71, 69, 84, 84, 65, 66, 76, 69],
  #[83, 69, 84, 71, 76, 79, 66, 65, 76],
  #[83, 69, 84, 85, 80, 86, 65, 76],
  #[83, 69, 84, 84, 65, 66, 76, 69],
  #[78, 69, 87, 84, 65, 66, 76, 69],
  #[83, 69, 76, 70],
  #[65, 68, 68],
  #[83, 85, 66],
  #[77, 85, 76],
  #[68, 73, 86],
  #[77, 79, 68],
  #[80, 79, 87],
  #[85, 78, 77],
  #[78, 79, 84],
  #[76, 69, 78],
  #[67, 79, 78, 67, 65, 84],
  #[74, 77, 80],
  #[69, 81],
  #[76, 84],
  #[76, 69],
  #[84, 69, 83, 84],
  #[84, 69, 83, 84, 83, 69, 84],
  #[67, 65, 76, 76],
  #[84, 65, 73, 76, 67, 65, 76, 76],
  #[82, 69, 84, 85, 82, 78],
  #[70, 79, 82, 76, 79, 79, 80],
  #[70, 79, 82, 80, 82, 69, 80],
  #[84, 70, 79, 82, 76, 79, 79, 80],
  #[83, 69, 84, 76, 73, 83, 84],
  #[67, 76, 79, 83, 69],
  #[67, 76, 79, 83, 85, 82, 69],
  #[86, 65, 82, 65, 82, 71]]

abbrev nm (j : Nat) : Str := wdL.getD (2 * j) Str.empty
abbrev td (j : Nat) : Str := wdL.getD (2 * j + 1) Str.empty
def RowIs (j : Nat) (o : Obj) : Prop := o.cls = .type "tuple" ∧ ∃ t t' n, o.data = .seq #[.str (nm j) t, .str (td j) t'] n
theorem strsAre_length {vs : List Value} {ws : List Str} (h : StrsAre vs ws) : vs.length = ws.length := by
  induction h with
  | nil => rfl
  | cons y t _ ih => rw [List.length_cons, List.length_cons, ih]
open PySem.Calls in
theorem split_tab {prog : Program} {w : World} {A : Around} {E : Value → Shared → Prop} {s : Shared} {h₀ : Heap} {L : Addr} {m : PySem.Str → Option Value} {news : List (Addr × Obj)} {x y : PySem.Str} {t u : Tok} {Q : Value → Shared → Prop} (hF : Fr h₀ L s.heap m) (hN : News h₀ L s.heap news) (hy : (y.length == 0) = false) (he : Txt.split x y = wdL)
    (h : ∀ D vs h' k, vs.length = 76 → StrsAre vs wdL → Fr h₀ L h' m → News h₀ L h' ((D, W.listOf vs.toArray 0) :: news) → (∀ p ∈ news, p.1 < D) → Q (.ref D) { s with heap := h', toks := k }) (hsz : x.length + 2 ≤ sizeLine) :
    wpAny (model prog w) A (call (.builtin "str.split") [.str x t, .str y u]) Q E s :=
  KSpl.split1 hF hN hy (fun D l h' k e S F N l1 => by
    have S' : StrsAre (strValues l) wdL := by rw [← he, ← e]; exact S
    exact h D _ h' k (strsAre_length S') S' F N l1) hsz
theorem item_wd {prog : Program} {w : World} {A : Around} {E : Value → Shared → Prop} {s : Shared} {value slice : PySem.Expr} {l : Addr} {vs : List Value} {i : Int} {u : Tok} {Q : Value → Shared → Prop} (k : Nat) (hl : s.heap.IsList l vs.toArray) (hw : StrsAre vs wdL) (hk : i = (k : Int)) (hlt : k < 76) (h : ∀ t', Q (.str (wdL.getD k Str.empty) t') s)
    (hs : subscripted slice false (.ref l) (.int i u) = operate [.ref l, .int i u] (getItem (.ref l) (.int i u)) := by with_unfolding_all rfl) :
    wpAny (model prog w) A (subscriptTail value slice (.ref l) (.int i u)) Q E s := by
  subst hk
  have e : wdL.length = 76 := by decide
  exact KTb.item_list hl hw (by omega) (by rw [e]; omega) (by omega) (fun t' _ => h t') hs
end
section
theorem cut_one {c : Nat} : ∀ {p q s t : List Nat}, c ∉ p → c ∉ q → p ++ c :: s = q ++ c :: t → p = q ∧ s = t
  | [], [], _, _, _, _, h => ⟨rfl, (List.cons.inj h).2⟩
  | [], b :: q, _, _, _, hq, h => absurd ((List.cons.inj h).1 ▸ List.mem_cons_self ..) hq
  | a :: p, [], _, _, hp, _, h => absurd ((List.cons.inj h).1 ▸ List.mem_cons_self ..) hp
  | a :: p, b :: q, _, _, hp, hq, h => by
    obtain ⟨h1, h2⟩ := List.cons.inj h
    obtain ⟨h3, h4⟩ := cut_one (fun x => hp (List.mem_cons_of_mem _ x)) (fun x => hq (List.mem_cons_of_mem _ x)) h2
    exact ⟨by rw [h1, h3], h4⟩
theorem cut_none {c : Nat} {p q t : List Nat} (hp : c ∉ p) (h : p = q ++ c :: t) : False := hp (h ▸ List.mem_append_right _ (List.mem_cons_self ..))
noncomputable def flat : Nat → List PySem.Str → List Nat
  | _, [] => []
  | _, [x] => x.cps.toList
  | c, x :: y :: r => x.cps.toList ++ c :: flat c (y :: r)
theorem join_flat (c : Nat) : ∀ l : List PySem.Str, (Str.join ⟨#[c]⟩ l).cps.toList = flat c l
  | [] => rfl
  | [x] => rfl
  | x :: y :: r => by
    show (x ++ ⟨#[c]⟩ ++ Str.join ⟨#[c]⟩ (y :: r)).cps.toList = _
    rw [Str.cps_append, Str.cps_append, Array.toList_append, Array.toList_append, join_flat c (y :: r), List.append_assoc]
    rfl
theorem str_toList {x y : PySem.Str} (h : x.cps.toList = y.cps.toList) : x = y := Str.ext' (Array.toList_inj.mp h)
theorem flat_one {c : Nat} : ∀ {a b : List PySem.Str}, a ≠ [] → b ≠ [] → (∀ p ∈ a, c ∉ p.cps.toList) → (∀ p ∈ b, c ∉ p.cps.toList) → flat c a = flat c b → a = b
  | [], _, h, _, _, _, _ => absurd rfl h
  | _, [], _, h, _, _, _ => absurd rfl h
  | [x], [y], _, _, _, _, h => by rw [str_toList h]
  | [x], y :: z :: r, _, _, ha, _, h => (cut_none (ha x (List.mem_cons_self ..)) h).elim
  | x :: z :: r, [y], _, _, _, hb, h => (cut_none (hb y (List.mem_cons_self ..)) h.symm).elim
  | x :: z :: r, y :: z' :: r', _, _, ha, hb, h => by
    obtain ⟨h1, h2⟩ := cut_one (ha x (List.mem_cons_self ..)) (hb y (List.mem_cons_self ..)) h
    rw [str_toList h1, flat_one (by simp) (by simp) (fun p hp => ha p (List.mem_cons_of_mem _ hp)) (fun p hp => hb p (List.mem_cons_of_mem _ hp)) h2]
theorem split_is {c : Nat} {x : PySem.Str} {l : List PySem.Str} (hl : l ≠ []) (hx : x.cps.toList = flat c l) (hn : x.cps.toList ≠ []) (hf : l.all (fun p => p.cps.toList.all fun d => !Nat.beq c d) = true) : Txt.split x ⟨#[c]⟩ = l := by
  refine flat_one (c := c) (fun e => hn ?_) hl (StrLaws.split_free x c) (fun p hp hm => ?_) ?_
  · rw [← StrLaws.join_split x ⟨#[c]⟩, e]; rfl
  · have h1 := List.all_eq_true.mp (List.all_eq_true.mp hf p hp) c hm
    rw [Nat.beq_refl] at h1
    exact Bool.noConfusion h1
  · rw [← join_flat, StrLaws.join_split, hx]
theorem lit_is {s : String} {cs : List Char} {ns : List Nat} (h : s = String.ofList cs) (e : cs.map Char.toNat = ns) : (Str.ofString s).cps.toList = ns := by
  rw [h, PySem.W.Fast.ofString_ofList, e]
theorem lit0 : (Str.ofString "MOVE RNa0 LOADK KNa1 LOADBOOL UUa0 LOADNIL RNa0 GETUPVAL UNa0 GETGLOBAL KNa1 GETTABLE RKa0 SETGLOBAL KN1 SETUPVAL UN0 SETTABLE KK0 NEWTABLE UUa0 SELF RKa0 ADD KKa0 SUB KKa0 MUL KKa0 DIV KKa0 MOD KKa0 ").cps.toList = [77, 79, 86, 69, 32, 82, 78, 97, 48, 32, 76, 79, 65, 68, 75, 32, 75, 78, 97, 49, 32, 76, 79, 65, 68, 66, 79, 79, 76, 32, 85, 85, 97, 48, 32, 76, 79, 65, 68, 78, 73, 76, 32, 82, 78, 97, 48, 32, 71, 69, 84, 85, 80, 86, 65, 76, 32, 85, 78, 97, 48, 32, 71, 69, 84, 71, 76, 79, 66, 65, 76, 32, 75, 78, 97, 49, 32, 71, 69, 84, 84, 65, 66, 76, 69, 32, 82, 75, 97, 48, 32, 83, 69, 84, 71, 76, 79, 66, 65, 76, 32, 75, 78, 49, 32, 83, 69, 84, 85, 80, 86, 65, 76, 32, 85, 78, 48, 32, 83, 69, 84, 84, 65, 66, 76, 69, 32, 75, 75, 48, 32, 78, 69, 87, 84, 65, 66, 76, 69, 32, 85, 85, 97, 48, 32, 83, 69, 76, 70, 32, 82, 75, 97, 48, 32, 65, 68, 68, 32, 75, 75, 97, 48, 32, 83, 85, 66, 32, 75, 75, 97, 48, 32, 77, 85, 76, 32, 75, 75, 97, 48, 32, 68, 73, 86, 32, 75, 75, 97, 48, 32, 77, 79, 68, 32, 75, 75, 97, 48, 32] := lit_is (cs := ['M', 'O', 'V', 'E', ' ', 'R', 'N', 'a', '0', ' ', 'L', 'O', 'A', 'D', 'K', ' ', 'K', 'N', 'a', '1', ' ', 'L', 'O', 'A', 'D', 'B', 'O', 'O', 'L', ' ', 'U', 'U', 'a', '0', ' ', 'L', 'O', 'A', 'D', 'N', 'I', 'L', ' ', 'R', 'N', 'a', '0', ' ', 'G', 'E', 'T', 'U', 'P', 'V', 'A', 'L', ' ', 'U', 'N', 'a', '0', ' ', 'G', 'E', 'T', 'G', 'L', 'O', 'B', 'A', 'L', ' ', 'K', 'N', 'a', '1', ' ', 'G', 'E', 'T', 'T', 'A', 'B', 'L', 'E', ' ', 'R', 'K', 'a', '0', ' ', 'S', 'E', 'T', 'G', 'L', 'O', 'B', 'A', 'L', ' ', 'K', 'N', '1', ' ', 'S', 'E', 'T', 'U', 'P', 'V', 'A', 'L', ' ', 'U', 'N', '0', ' ', 'S', 'E', 'T', 'T', 'A', 'B', 'L', 'E', ' ', 'K', 'K', '0', ' ', 'N', 'E', 'W', 'T', 'A', 'B', 'L', 'E', ' ', 'U', 'U', 'a', '0', ' ', 'S', 'E', 'L', 'F', ' ', 'R', 'K', 'a', '0', ' ', 'A', 'D', 'D', ' ', 'K', 'K', 'a', '0', ' ', 'S', 'U', 'B', ' ', 'K', 'K', 'a', '0', ' ', 'M', 'U', 'L', ' ', 'K', 'K', 'a', '0', ' ', 'D', 'I', 'V', ' ', 'K', 'K', 'a', '0', ' ', 'M', 'O', 'D', ' ', 'K', 'K', 'a', '0', ' ']) (by kernel_rfl) (by decide +kernel)
theorem lit1 : (Str.ofString "POW KKa0 UNM RNa0 NOT RNa0 LEN RNa0 CONCAT RRa0 JMP RN2 EQ KKt0 LT KKt0 LE KKt0 TEST RUat0 ").cps.toList = [80, 79, 87, 32, 75, 75, 97, 48, 32, 85, 78, 77, 32, 82, 78, 97, 48, 32, 78, 79, 84, 32, 82, 78, 97, 48, 32, 76, 69, 78, 32, 82, 78, 97, 48, 32, 67, 79, 78, 67, 65, 84, 32, 82, 82, 97, 48, 32, 74, 77, 80, 32, 82, 78, 50, 32, 69, 81, 32, 75, 75, 116, 48, 32, 76, 84, 32, 75, 75, 116, 48, 32, 76, 69, 32, 75, 75, 116, 48, 32, 84, 69, 83, 84, 32, 82, 85, 97, 116, 48, 32] := lit_is (cs := ['P', 'O', 'W', ' ', 'K', 'K', 'a', '0', ' ', 'U', 'N', 'M', ' ', 'R', 'N', 'a', '0', ' ', 'N', 'O', 'T', ' ', 'R', 'N', 'a', '0', ' ', 'L', 'E', 'N', ' ', 'R', 'N', 'a', '0', ' ', 'C', 'O', 'N', 'C', 'A', 'T', ' ', 'R', 'R', 'a', '0', ' ', 'J', 'M', 'P', ' ', 'R', 'N', '2', ' ', 'E', 'Q', ' ', 'K', 'K', 't', '0', ' ', 'L', 'T', ' ', 'K', 'K', 't', '0', ' ', 'L', 'E', ' ', 'K', 'K', 't', '0', ' ', 'T', 'E', 'S', 'T', ' ', 'R', 'U', 'a', 't', '0', ' ']) (by kernel_rfl) (by decide +kernel)
theorem lit2 : (Str.ofString "TESTSET RUat0 CALL UUa0 TAILCALL UUa0 RETURN UN0 FORLOOP RNa2 FORPREP RNa2 TFORLOOP NUt0 ").cps.toList = [84, 69, 83, 84, 83, 69, 84, 32, 82, 85, 97, 116, 48, 32, 67, 65, 76, 76, 32, 85, 85, 97, 48, 32, 84, 65, 73, 76, 67, 65, 76, 76, 32, 85, 85, 97, 48, 32, 82, 69, 84, 85, 82, 78, 32, 85, 78, 48, 32, 70, 79, 82, 76, 79, 79, 80, 32, 82, 78, 97, 50, 32, 70, 79, 82, 80, 82, 69, 80, 32, 82, 78, 97, 50, 32, 84, 70, 79, 82, 76, 79, 79, 80, 32, 78, 85, 116, 48, 32] := lit_is (cs := ['T', 'E', 'S', 'T', 'S', 'E', 'T', ' ', 'R', 'U', 'a', 't', '0', ' ', 'C', 'A', 'L', 'L', ' ', 'U', 'U', 'a', '0', ' ', 'T', 'A', 'I', 'L', 'C', 'A', 'L', 'L', ' ', 'U', 'U', 'a', '0', ' ', 'R', 'E', 'T', 'U', 'R', 'N', ' ', 'U', 'N', '0', ' ', 'F', 'O', 'R', 'L', 'O', 'O', 'P', ' ', 'R', 'N', 'a', '2', ' ', 'F', 'O', 'R', 'P', 'R', 'E', 'P', ' ', 'R', 'N', 'a', '2', ' ', 'T', 'F', 'O', 'R', 'L', 'O', 'O', 'P', ' ', 'N', 'U', 't', '0', ' ']) (by kernel_rfl) (by decide +kernel)
theorem lit3 : (Str.ofString "SETLIST UU0 CLOSE NN0 CLOSURE UNa1 VARARG UNa0").cps.toList = [83, 69, 84, 76, 73, 83, 84, 32, 85, 85, 48, 32, 67, 76, 79, 83, 69, 32, 78, 78, 48, 32, 67, 76, 79, 83, 85, 82, 69, 32, 85, 78, 97, 49, 32, 86, 65, 82, 65, 82, 71, 32, 85, 78, 97, 48] := lit_is (cs := ['S', 'E', 'T', 'L', 'I', 'S', 'T', ' ', 'U', 'U', '0', ' ', 'C', 'L', 'O', 'S', 'E', ' ', 'N', 'N', '0', ' ', 'C', 'L', 'O', 'S', 'U', 'R', 'E', ' ', 'U', 'N', 'a', '1', ' ', 'V', 'A', 'R', 'A', 'R', 'G', ' ', 'U', 'N', 'a', '0']) (by kernel_rfl) (by decide +kernel)
theorem txt_list : (Str.ofString "MOVE RNa0 LOADK KNa1 LOADBOOL UUa0 LOADNIL RNa0 GETUPVAL UNa0 GETGLOBAL KNa1 GETTABLE RKa0 SETGLOBAL KN1 SETUPVAL UN0 SETTABLE KK0 NEWTABLE UUa0 SELF RKa0 ADD KKa0 SUB KKa0 MUL KKa0 DIV KKa0 MOD KKa0 " ++ Str.ofString "POW KKa0 UNM RNa0 NOT RNa0 LEN RNa0 CONCAT RRa0 JMP RN2 EQ KKt0 LT KKt0 LE KKt0 TEST RUat0 " ++ Str.ofString "TESTSET RUat0 CALL UUa0 TAILCALL UUa0 RETURN UN0 FORLOOP RNa2 FORPREP RNa2 TFORLOOP NUt0 " ++ Str.ofString "SETLIST UU0 CLOSE NN0 CLOSURE UNa1 VARARG UNa0").cps.toList = flat 32 wdL := by
  rw [Str.cps_append, Str.cps_append, Str.cps_append, Array.toList_append, Array.toList_append, Array.toList_append, lit0, lit1, lit2, lit3]
  decide +kernel
theorem sp_is : Str.ofString " " = ⟨#[32]⟩ := str_toList (lit_is (cs := [' ']) (by kernel_rfl) (by decide +kernel))
theorem split_words : Txt.split (Str.ofString "MOVE RNa0 LOADK KNa1 LOADBOOL UUa0 LOADNIL RNa0 GETUPVAL UNa0 GETGLOBAL KNa1 GETTABLE RKa0 SETGLOBAL KN1 SETUPVAL UN0 SETTABLE KK0 NEWTABLE UUa0 SELF RKa0 ADD KKa0 SUB KKa0 MUL KKa0 DIV KKa0 MOD KKa0 " ++ Str.ofString "POW KKa0 UNM RNa0 NOT RNa0 LEN RNa0 CONCAT RRa0 JMP RN2 EQ KKt0 LT KKt0 LE KKt0 TEST RUat0 " ++ Str.ofString "TESTSET RUat0 CALL UUa0 TAILCALL UUa0 RETURN UN0 FORLOOP RNa2 FORPREP RNa2 TFORLOOP NUt0 " ++ Str.ofString "SETLIST UU0 CLOSE NN0 CLOSURE UNa1 VARARG UNa0") (Str.ofString " ") = wdL := by
  rw [sp_is]
  refine split_is (by decide) txt_list ?_ (by decide +kernel)
  rw [txt_list]
  exact fun h => (nomatch (show (77 :: _ : List Nat) = [] from h))
end
section
open PySem.Calls PySem.Spec
open LCg
section
variable {prog : Program} {w : World} {A : Around} {E : Value → Shared → Prop} {s : Shared} {env : Env} {h₀ : Heap} {body : List Stmt} {Q : Flow → Shared → Prop}
def TabPost (h₀ : Heap) (L : Addr) (s₁ : Shared) (its news : List (Addr × Obj)) (m₀ : Str → Option Value) (stored : List Str) (Q : Flow → Shared → Prop) (f : Flow) (s₂ : Shared) : Prop :=
  match f with
  | .ret v => Q (.ret v) s₂
  | .brk => Q .next s₂
  | _ => ∃ h' tk m', s₂ = { s₁ with heap := h', toks := tk } ∧ Fr h₀ L h' m' ∧ News h₀ L h' (its ++ news) ∧ ∀ z, stored.contains z = false → m' z = m₀ z
theorem loop_tab {elts : List PySem.Expr} {k : Nat} {pos : Pos} {T : Addr} {kd : Addr × Obj} {vs : List Value} {ts : List (Addr × Obj)} {m₀ : Str → Option Value} (stored : List Str)
    (hh : A.handled = none) (F : Fr h₀ env.locals s.heap m₀) (N : News h₀ env.locals s.heap (kd :: (T, lst vs) :: ts)) (H : RowsUp RowIs 38 vs ts)
    (turn : ∀ (i : Nat) (I a P : Addr) (o : Obj) (n : Nat) (t t₁ t₂ : Tok) (oE oI : Obj) (u : Str → Option Value) (h : Heap) (tk : Nat), i < 38 → (a, o) ∈ ts → o.cls = .type "tuple" → o.data = .seq #[.str (nm i) t₁, .str (td i) t₂] n → IsTup h P #[.int (i : Int) t, .ref a] → (∀ p ∈ kd :: (T, lst vs) :: ts, p.1 < I) →
      Fr h₀ env.locals h (fun y => if stored.contains y then u y else m₀ y) → News h₀ env.locals h ((I + 1, oE) :: (I, oI) :: kd :: (T, lst vs) :: ts) →
      wpAny (model prog w) A (assign (.Tuple elts k pos) env (.ref P)) (fun _ s₂ => wpAny (model prog w) A (execs body env) (TabPost h₀ env.locals { s with heap := h, toks := tk } [(I + 1, oE), (I, oI)] (kd :: (T, lst vs) :: ts) m₀ stored Q) E s₂) E { s with heap := h, toks := tk })
    (done : ∀ (u : Str → Option Value) (h : Heap) (tk : Nat), Fr h₀ env.locals h (fun y => if stored.contains y then u y else m₀ y) → News h₀ env.locals h (kd :: (T, lst vs) :: ts) → Q .next { s with heap := h, toks := tk }) :
    wpAny (model prog w) A (call (.type "enumerate") [.ref T]) (fun xv s₁ => wpAny (model prog w) A (pyIter xv) (fun it s₂ => TurnsAt prog w A h₀ env (.Tuple elts k pos) body Q E it s₂) E s₁) E s := by
  refine ktu_enum (lo := lst vs) (vs := vs) hh F N (List.mem_cons_of_mem _ (List.mem_cons_self ..)) rfl rfl rfl (fun I hI => ?_)
  have mw : ∀ m : Str → Option Value, (∀ z, stored.contains z = false → m z = m₀ z) → (fun y => if stored.contains y then m y else m₀ y) = m := by
    intro m hm
    funext y
    cases e : stored.contains y with
    | true => rfl
    | false => simp only [Bool.false_eq_true, if_false]; exact (hm y e).symm
  have key : ∀ j i : Nat, i + j = 38 → ∀ m : Str → Option Value, (∀ z, stored.contains z = false → m z = m₀ z) →
      ItemsRest prog w A E h₀ env (.Tuple elts k pos) body Q s [(I + 1, "enumerate"), (I, "list_iterator")] [(T, lst vs)] ((enumItems 0 vs).drop i) m (kd :: (T, lst vs) :: ts) := by
    intro j
    induction j with
    | zero =>
      intro i hi m hm
      have e : (enumItems 0 vs).drop i = [] := List.drop_eq_nil_of_le (by rw [enumItems_length, H.len]; omega)
      rw [e]
      refine ItemsRest.zero fun h tk F N => done m h tk ?_ N
      rw [mw m hm]; exact F
    | succ j ih =>
      intro i hi m hm
      obtain ⟨a, o, h1, h2, hc, t₁, t₂, n, hd⟩ := H.row i (by omega)
      have e := enumItems_get vs 0 i h1
      rw [Nat.zero_add] at e
      have hlt : i < (enumItems 0 vs).length := by rw [enumItems_length, H.len]; omega
      have ed : (enumItems 0 vs).drop i = Itm.pair (fun t => Value.int ((i : Nat) : Int) t) (.ref a) :: (enumItems 0 vs).drop (i + 1) := by
        rw [List.drop_eq_getElem_cons hlt]
        congr 1
        exact Option.some.inj ((List.getElem?_eq_getElem hlt).symm.trans e)
      rw [ed]
      refine ItemsRest.pair fun P t h tk hT F => AllObj.cons (fun oE _ => AllObj.cons (fun oI _ => AllObj.nil (fun N' => ?_)))
      have F' : Fr h₀ env.locals h (fun y => if stored.contains y then m y else m₀ y) := by rw [mw m hm]; exact F
      refine wpAny_mono (turn i I a P o n t t₁ t₂ oE oI m h tk (by omega) h2 hc hd hT hI F' N') (fun _ s₂ hq => wpAny_mono hq (fun f s₃ p => ?_) fun _ _ e => e) fun _ _ e => e
      have off : ∀ p ∈ kd :: (T, lst vs) :: ts, ∀ q ∈ [(I + 1, oE), (I, oI)], p.1 ≠ q.1 := by
        intro p hp q hq e
        have h1 := hI p hp
        rcases List.mem_cons.mp hq with rfl | hq
        · exact ktu_ne 1 h1 e
        · rw [List.mem_singleton.mp hq] at e
          exact Nat.ne_of_lt h1 e
      cases f with
      | ret v => exact p
      | brk => exact p
      | next =>
        obtain ⟨h', tk', m', rfl, F₁, N₁, hm₁⟩ := p
        exact ⟨h', tk', m', _, rfl, F₁, N₁, off, And.intro (List.mem_cons_of_mem _ (List.mem_cons_self ..)) trivial, ih (i + 1) (by omega) m' hm₁⟩
      | cont =>
        obtain ⟨h', tk', m', rfl, F₁, N₁, hm₁⟩ := p
        exact ⟨h', tk', m', _, rfl, F₁, N₁, off, And.intro (List.mem_cons_of_mem _ (List.mem_cons_self ..)) trivial, ih (i + 1) (by omega) m' hm₁⟩
  have h0 := key 38 0 rfl m₀ (fun _ _ => rfl)
  rw [List.drop_zero] at h0
  exact h0
end
end
section
open PySem.Calls PySem.Spec
abbrev md (i : Nat) : Int := mdL.getD i 0
theorem td_len : ∀ i, i < 38 → 3 ≤ (td i).length ∧ (td i).length ≤ 5 := by decide +kernel
abbrev KindAt (x : Str) (v : Int) : Prop := (x = ⟨#[78]⟩ ∧ v = 0) ∨ (x = ⟨#[85]⟩ ∧ v = 1) ∨ (x = ⟨#[82]⟩ ∧ v = 2) ∨ (x = ⟨#[75]⟩ ∧ v = 3)
theorem td_b : ∀ i, i < 38 → KindAt (Txt.item (td i) 0) (md i / 16 % 4) := by decide +kernel
theorem td_c : ∀ i, i < 38 → KindAt (Txt.item (td i) 1) (md i / 4 % 4) := by decide +kernel
theorem td_form : ∀ i, i < 38 → PySem.intText? (Txt.item (td i) (-1)) = some (md i % 4) ∧ (Txt.item (td i) (-1)).length ≤ 640 := by decide +kernel
theorem td_last : ∀ i, i < 38 → 0 ≤ md i % 4 ∧ md i % 4 < 3 := by decide +kernel
theorem td_a : ∀ i, i < 38 → (md i / 64 % 2 == 1) = !(Builtin.Str.occurrences (td i) (Str.ofString "a") 0 (td i).length 1).isEmpty := by decide +kernel
theorem td_t : ∀ i, i < 38 → (md i / 128 % 2 == 1) = !(Builtin.Str.occurrences (td i) (Str.ofString "t") 0 (td i).length 1).isEmpty := by decide +kernel
section
variable {prog : Program} {w : World} {A : Around} {E : Value → Shared → Prop} {s : Shared} {value slice : PySem.Expr} {Q : Value → Shared → Prop}
theorem item_td {i : Nat} {z : Int} {t u : Tok} (hi : i < 38) (h0 : -3 ≤ z) (h1 : z < 3) (h : Q (.str (Txt.item (td i) z) s.toks) { s with toks := s.toks + 1 })
    (hs : subscripted slice false (.str (td i) t) (.int z u) = operate [.str (td i) t, .int z u] (getItem (.str (td i) t) (.int z u)) := by with_unfolding_all rfl)
    (ht : ∀ r, letTemporaryGo value (.str (td i) t) r = pure () := by intro _; with_unfolding_all rfl) :
    wpAny (model prog w) A (subscriptTail value slice (.str (td i) t) (.int z u)) Q E s :=
  have l := td_len i hi
  KXi.item rfl (by omega) (by omega) (by omega) (fun _ => h) hs ht
theorem int_td {i : Nat} {t : Tok} (hi : i < 38) (h : Q (.int (md i % 4) s.toks) { s with toks := s.toks + 1 }) : wpAny (model prog w) A (call (.type "int") [.str (Txt.item (td i) (-1)) t]) Q E s :=
  KIN.call_text (td_form i hi).1 (td_form i hi).2 h
theorem item3 {l : Addr} {a b c : Tok} {n : Nat} {u : Tok} {news : List (Addr × Obj)} {h₀ : Heap} {L : Addr} {i : Nat} (N : News h₀ L s.heap news) (hm : (l, W.listOf #[.int 0 a, .int 1 b, .int 2 c] n) ∈ news) (hi : i < 38) (h : ∀ t, Q (.int (md i % 4) t) s)
    (hs : subscripted slice false (.ref l) (.int (md i % 4) u) = operate [.ref l, .int (md i % 4) u] (getItem (.ref l) (.int (md i % 4) u)) := by with_unfolding_all rfl) :
    wpAny (model prog w) A (subscriptTail value slice (.ref l) (.int (md i % 4) u)) Q E s := by
  have hl : s.heap.IsList l #[.int 0 a, .int 1 b, .int 2 c] := N.isList hm
  have r := td_last i hi
  generalize md i % 4 = k at *
  have hx : ∃ t, (#[Value.int 0 a, .int 1 b, .int 2 c] : Array Value)[k.toNat]? = some (.int k t) := by
    have e : k = 0 ∨ k = 1 ∨ k = 2 := by omega
    rcases e with rfl | rfl | rfl
    · exact ⟨a, rfl⟩
    · exact ⟨b, rfl⟩
    · exact ⟨c, rfl⟩
  obtain ⟨t, hx⟩ := hx
  exact tail_any hl.typeIs slot_list_getitem.lookup (wpAny_getItem_list hl r.1 (by omega) hx (h t)) hs
theorem ne_int_eq {a : Int} {t u : Tok} (h : Q (.bool false) s) : wpAny (model prog w) A (compareOp .NotEq (.int a t) (.int a u)) Q E s :=
  cmp_ofNotEq (PySem.SeqAt.RcNeAt.int_int a t a u prog w E Q (by rw [beq_self_eq_true]; exact h))
end
theorem kinds_at {x : Str} {v : Int} {R : Value → Prop} (hc : KindAt x v) (h : ∀ t, R (.int v t)) :
    KysD PyData.str x [(.str (Str.ofString "N"), .int 0), (.str (Str.ofString "U"), .int 1), (.str (Str.ofString "R"), .int 2), (.str (Str.ofString "K"), .int 3)] (fun dv => KysVal dv R) False := by
  have key : ∀ n : Int, v = n → KysVal (.int n) R := fun n e u hu => by
    obtain ⟨t, rfl⟩ := PyProof.V.Flat.int_inv hu
    rw [← e]; exact h t
  rcases hc with ⟨rfl, e⟩ | ⟨rfl, e⟩ | ⟨rfl, e⟩ | ⟨rfl, e⟩
  · exact key 0 e
  · exact key 1 e
  · exact key 2 e
  · exact key 3 e
theorem mem4 {α : Type} {x a b c d : α} {l : List α} (h : x ∈ l) : x ∈ a :: b :: c :: d :: l := List.mem_cons_of_mem _ (List.mem_cons_of_mem _ (List.mem_cons_of_mem _ (List.mem_cons_of_mem _ h)))
end
section
open PySem.Calls PySem.Builtin PySem.MeetsSeq PySem.SeqAt
theorem enc_all : ∀ j, j < 38 → ∀ self, _codecs.encodeNarrow "str.encode" _codecs.utf8Codec none self (nm j) = pure (nmB.getD j #[])
  | 0, _ => fun self => by kernel_rfl
  | 1, _ => fun self => by kernel_rfl
  | 2, _ => fun self => by kernel_rfl
  | 3, _ => fun self => by kernel_rfl
  | 4, _ => fun self => by kernel_rfl
  | 5, _ => fun self => by kernel_rfl
  | 6, _ => fun self => by kernel_rfl
  | 7, _ => fun self => by kernel_rfl
  | 8, _ => fun self => by kernel_rfl
  | 9, _ => fun self => by kernel_rfl
  | 10, _ => fun self => by kernel_rfl
  | 11, _ => fun self => by kernel_rfl
  | 12, _ => fun self => by kernel_rfl
  | 13, _ => fun self => by kernel_rfl
  | 14, _ => fun self => by kernel_rfl
  | 15, _ => fun self => by kernel_rfl
  | 16, _ => fun self => by kernel_rfl
  | 17, _ => fun self => by kernel_rfl
  | 18, _ => fun self => by kernel_rfl
  | 19, _ => fun self => by kernel_rfl
  | 20, _ => fun self => by kernel_rfl
  | 21, _ => fun self => by kernel_rfl
  | 22, _ => fun self => by kernel_rfl
  | 23, _ => fun self => by kernel_rfl
  | 24, _ => fun self => by kernel_rfl
  | 25, _ => fun self => by kernel_rfl
  | 26, _ => fun self => by kernel_rfl
  | 27, _ => fun self => by kernel_rfl
  | 28, _ => fun self => by kernel_rfl
  | 29, _ => fun self => by kernel_rfl
  | 30, _ => fun self => by kernel_rfl
  | 31, _ => fun self => by kernel_rfl
  | 32, _ => fun self => by kernel_rfl
  | 33, _ => fun self => by kernel_rfl
  | 34, _ => fun self => by kernel_rfl
  | 35, _ => fun self => by kernel_rfl
  | 36, _ => fun self => by kernel_rfl
  | 37, _ => fun self => by kernel_rfl
  | j + 38, h => absurd h (by omega)
theorem enc_size : ∀ j, (nmB.getD j #[]).size ≤ sizeLine := by
  intro j
  have h : ∀ b ∈ nmB, b.size ≤ sizeLine := by decide +kernel
  by_cases e : j < nmB.length
  · rw [List.getD_eq_getElem?_getD, List.getElem?_eq_getElem e]
    exact h _ (List.getElem_mem e)
  · rw [List.getD_eq_getElem?_getD, List.getElem?_eq_none (by omega)]
    exact Nat.zero_le _
theorem encode_nm {prog : Program} {w : World} {A : Around} {E : Value → Shared → Prop} {s : Shared} {t : Tok} {j : Nat} {Q : Value → Shared → Prop} (hj : j < 38) (h : ∀ t' k, Q (.bytes (nmB.getD j #[]) t') { s with toks := k }) :
    wpAny (model prog w) A (call (.builtin "str.encode") [.str (nm j) t]) Q E s := encode (enc_all j hj) (enc_size j) h
structure NamesUp (i : Nat) (ys : List Value) : Prop where
  len : ys.length = i
  row : ∀ j, j < i → ∃ t, ys[j]? = some (.bytes (nmB.getD j #[]) t)
theorem NamesUp.nil : NamesUp 0 [] := ⟨rfl, fun _ h => absurd h (Nat.not_lt_zero _)⟩
theorem NamesUp.snoc {i : Nat} {ys : List Value} {t : Tok} (H : NamesUp i ys) : NamesUp (i + 1) (ys ++ [.bytes (nmB.getD i #[]) t]) := by
  refine ⟨by rw [List.length_append, H.len]; rfl, fun j hj => ?_⟩
  by_cases e : j = i
  · subst e
    exact ⟨t, by rw [List.getElem?_append_right (Nat.le_of_eq H.len), H.len, Nat.sub_self]; rfl⟩
  · obtain ⟨t', h1⟩ := H.row j (by omega)
    exact ⟨t', by rw [List.getElem?_append_left (by rw [H.len]; omega)]; exact h1⟩
inductive BytesAre : List Value → List (Array UInt8) → Prop
  | nil : BytesAre [] []
  | cons (b : Array UInt8) (t : Tok) {vs bs} : BytesAre vs bs → BytesAre (.bytes b t :: vs) (b :: bs)
theorem BytesAre.length : ∀ {vs : List Value} {bs : List (Array UInt8)}, BytesAre vs bs → vs.length = bs.length
  | _, _, .nil => rfl
  | _, _, .cons _ _ h => by rw [List.length_cons, List.length_cons, h.length]
theorem BytesAre.get : ∀ {vs : List Value} {bs : List (Array UInt8)}, BytesAre vs bs → ∀ j, j < bs.length → ∃ t, vs[j]? = some (.bytes (bs.getD j #[]) t)
  | _, _, .cons _ t _, 0, _ => ⟨t, rfl⟩
  | _, _, .cons _ _ h, j + 1, hj => h.get j (by simpa using hj)
theorem BytesAre.names {vs : List Value} (h : BytesAre vs nmB) : NamesUp 38 vs :=
  have e : nmB.length = 38 := by decide
  ⟨h.length.trans e, fun j hj => h.get j (by rw [e]; exact hj)⟩
theorem EqAt_bytes {A : Around} {s : Shared} (b : Array UInt8) (t u : Tok) : EqAt A s (.bytes b t) (.bytes b u) true := fun prog w E Q hq => by
  unfold eqBool
  refine wpAny_holding ?_
  refine wpAny_ite_split (fun hab => ?_) (fun _ => ?_)
  · exact wpAny_bind (wpAny_rule (wpAny_pure hq))
  · exact wpAny_bind (eq_bytes (wpAny_truthy_bool (by rw [beq_self_eq_true]; exact hq)))
theorem ne_names {prog : Program} {w : World} {A : Around} {E : Value → Shared → Prop} {s : Shared} {l b : Addr} {ys zs : List Value} {Q : Value → Shared → Prop} (hl : s.heap.IsList l ys.toArray) (hb : s.heap.IsList b zs.toArray) (hy : NamesUp 38 ys) (hz : NamesUp 38 zs) (hu : A.units < cLine) (h : Q (.bool false) s) :
    wpAny (model prog w) A (compareOp .NotEq (.ref l) (.ref b)) Q E s := by
  have hn := RcNeAt.lists (e := fun _ => true) hl hb (by rw [List.size_toArray, List.size_toArray, hy.len, hz.len]) hu (fun j h1 h2 => by
    rw [List.size_toArray] at h1 h2
    obtain ⟨t, e1⟩ := hy.row j (by rw [← hy.len]; exact h1)
    obtain ⟨u, e2⟩ := hz.row j (by rw [← hy.len]; exact h1)
    have e1' : ys.toArray[j] = .bytes (nmB.getD j #[]) t := by
      rw [List.getElem_toArray]
      exact Option.some.inj ((List.getElem?_eq_getElem h1).symm.trans e1)
    have e2' : zs.toArray[j] = .bytes (nmB.getD j #[]) u := by
      rw [List.getElem_toArray]
      exact Option.some.inj ((List.getElem?_eq_getElem h2).symm.trans e2)
    rw [e1', e2']
    exact EqAt_bytes _ _ _)
  refine cmp_ofNotEq (hn prog w E Q ?_)
  have e : (List.range ys.toArray.size).all (fun _ => true) = true := by rw [List.all_eq_true]; exact fun _ _ => rfl
  rw [e]
  exact h
open LCg LCp in
theorem comp_names {prog : Program} {w : World} {A : Around} {h₀ : Heap} {L : Addr} {m : Str → Option Value} {env : Env} {elt : PySem.Expr} {x x₂ : Str} {scope : Scope} {cl : List (Str × Addr)} {s : Shared} {S : List (Addr × Obj) → Prop}
    {Fin : List Value → List (Addr × Obj) → Prop} {nw ts : List (Addr × Obj)} {vs : List Value} (H : RowsUp RowIs 38 vs ts) (hsub : ∀ p ∈ ts, p ∈ nw) (hS : S nw)
    (turn : ∀ (i : Nat) (t t' : Tok) (I : Addr) (oI : Obj) (C : Addr) (oC : Obj) (D : Addr) (ys : List Value) m₂ h tk (E' : Value → Shared → Prop), i < 38 → NsObj oC m₂ → m₂ x = some (.str (nm i) t) → m₂ x₂ = some (.str (td i) t') → Fr h₀ L h m → News h₀ L h ((I, oI) :: (C, oC) :: (D, lst ys) :: nw) → Off3 I C D nw → ((@Ne Nat I C) ∧ (@Ne Nat I D) ∧ (@Ne Nat C D)) →
      wpAny (model prog w) A (eval elt (compEnvC scope cl C env)) (fun y s₂ => (∃ t, y = .bytes (nmB.getD i #[]) t) ∧ ∃ tk', s₂ = { s with heap := h, toks := tk' }) E' { s with heap := h, toks := tk })
    (fin : ∀ ys, NamesUp 38 ys → Fin ys nw) : CompRestP prog w A h₀ L m env elt x x₂ scope cl s S (fun i v => vs.toArray[i]? = some v) Fin vs.toArray.size 0 [] nw := by
  have key : ∀ j i : Nat, i + j = 38 → ∀ ys, NamesUp i ys → CompRestP prog w A h₀ L m env elt x x₂ scope cl s S (fun i v => vs.toArray[i]? = some v) Fin j i ys nw := by
    intro j
    induction j with
    | zero =>
      intro i hi ys H
      have e : i = 38 := by omega
      subst e
      exact CompRestP.zero (fin ys H)
    | succ j ih =>
      intro i hi ys Hy
      refine CompRestP.succ fun v hv => ?_
      obtain ⟨a, o, h1, h2, hc, t, t', n, hd⟩ := H.row i (by omega)
      have hv' : vs[i]? = some v := by simpa using hv
      rw [h1] at hv'
      cases hv'
      refine ⟨a, o, _, _, n, rfl, hsub _ h2, hc, hd, ?_⟩
      intro I oI C oC D m₂ h tk E' hC hx hx₂ F N off ne
      refine wpAny_mono (turn i t t' I oI C oC D ys m₂ h tk E' (by omega) hC hx hx₂ F N off ne) (fun y s₂ hq => ?_) fun _ _ e => e
      obtain ⟨⟨t9, rfl⟩, tk', rfl⟩ := hq
      exact ⟨h, tk', nw, rfl, F, N, off, hS, ih (i + 1) (by omega) _ Hy.snoc⟩
  have e : vs.toArray.size = 38 := by rw [List.size_toArray, H.len]
  rw [e]
  exact key 38 0 (by omega) [] NamesUp.nil
theorem ne_bool_eq {prog : Program} {w : World} {A : Around} {E : Value → Shared → Prop} {s : Shared} {a b : Bool} {Q : Value → Shared → Prop} (e : a = b) (h : Q (.bool false) s) : wpAny (model prog w) A (compareOp .NotEq (.bool a) (.bool b)) Q E s := by
  subst e
  exact cmp_ofNotEq (RcNeAt.bool_bool a a prog w E Q (by rw [beq_self_eq_true]; exact h))
theorem gm_encode {M : Model} {A : Around} {E : Value → Shared → Prop} {s : Shared} {x : Str} {t : Tok} {pl : Sem Bool} {Q : Value × List Value → Shared → Prop} (h : Q (.builtin "str.encode", [.str x t]) s) : wpAny M A (getMethod (.str x t) (Str.ofString "encode") pl) Q E s :=
  getMethod_builtin (typeIs_str _ _ _) F.plainAttrs_str F.slot_str_encode F.type_str_encode (fun _ e => nomatch e) h
end
abbrev Cl (w : World) (mean : ExcName → Option Value) (mg mb : Str → Option Value) (lv : Nat) (f : Addr) (news : List (Addr × Obj)) (pre : Prop) (vs : List Value) (R : Tok → Value) : Prop :=
  ∀ (dp un : Nat) (gd : Option (List Code)) (cn : Str) (cs : Scope) (a : Addr) (ccd : Value) (cl : List (Str × Addr)) (outer : List Env) (A₀ : Around) (base h₀ : Heap) (L : Addr) (m : Str → Option Value) (s : Shared) (Q E : Value → Shared → Prop),
    Below A₀ base outer h₀ → Fr h₀ L s.heap m → (hd.heap_39 w.params).In h₀ → News h₀ L s.heap news →
    Top vw (looseW vw [Str.ofString "SIZE_BX", Str.ofString "POS_A", Str.ofString "POS_C", Str.ofString "POS_B", Str.ofString "POS_BX", Str.ofString "MAXARG_A", Str.ofString "MAXARG_B", Str.ofString "MAXARG_C", Str.ofString "MAXARG_BX", Str.ofString "MAXARG_SBX", Str.ofString "MAX_WORD", Str.ofString "BITRK", Str.ofString "OP_NAMES", Str.ofString "OP_MODES"]) mean mg mb h₀ →
    cs.kind = .function → pre → dp + lv < recursionLimit → un + 8 * lv < cLine → CbRet h₀ L m news s Q R →
    wpAny (model PySem.Challenge.rw_nt0633_01.row.prog w) (ktrTop dp un gd cn cs L a ccd cl outer) (call (.ref f) vs) Q E s
theorem Cl.use {w : World} {mean : ExcName → Option Value} {mg mb : Str → Option Value} {lv : Nat} {f : Addr} {news : List (Addr × Obj)} {pre : Prop} {vs : List Value} {R : Tok → Value}
    (C : Cl w mean mg mb lv f news pre vs R) {dp un : Nat} {gd : Option (List Code)} {cn : Str} {cs : Scope} {a : Addr} {ccd : Value} {cl : List (Str × Addr)} {outer : List Env} {A₀ : Around} {base h₀ : Heap} {L : Addr} {m : Str → Option Value} {s : Shared} {Q E : Value → Shared → Prop}
    (B : Below A₀ base outer h₀) (F : Fr h₀ L s.heap m) (X : (hd.heap_39 w.params).In h₀) (N : News h₀ L s.heap news)
    (T : Top vw (looseW vw [Str.ofString "SIZE_BX", Str.ofString "POS_A", Str.ofString "POS_C", Str.ofString "POS_B", Str.ofString "POS_BX", Str.ofString "MAXARG_A", Str.ofString "MAXARG_B", Str.ofString "MAXARG_C", Str.ofString "MAXARG_BX", Str.ofString "MAXARG_SBX", Str.ofString "MAX_WORD", Str.ofString "BITRK", Str.ofString "OP_NAMES", Str.ofString "OP_MODES"]) mean mg mb h₀)
    (hk : cs.kind = .function) (hp : pre) (hd' : dp + lv < recursionLimit) (hu : un + 8 * lv < cLine) (ret : CbRet h₀ L m news s Q R) :
    wpAny (model PySem.Challenge.rw_nt0633_01.row.prog w) (ktrTop dp un gd cn cs L a ccd cl outer) (call (.ref f) vs) Q E s :=
  C _ _ _ _ _ _ _ _ _ _ _ _ _ _ _ _ _ B F X N T hk hp hd' hu ret
abbrev bo (l : Addr) (i r : Int) (ti tr : Tok) (n : Nat) : Obj := W.listOf #[.int i ti, .ref l, .int r tr] n
abbrev DrC (w : World) (mean : ExcName → Option Value) (mg mb : Str → Option Value) (lv : Nat) (f bx l : Addr) (ys : List Value) (ns : List Int) (i r : Int) (ti tr : Tok) (n : Nat) (pre post : List (Addr × Obj)) (P : Prop) (vs : List Value) (V : Int → Prop) : Prop :=
  ∀ (dp un : Nat) (gd : Option (List Code)) (cn : Str) (cs : Scope) (a : Addr) (ccd : Value) (cl : List (Str × Addr)) (outer : List Env) (A₀ : Around) (base h₀ : Heap) (L : Addr) (m : Str → Option Value) (s : Shared) (Q E : Value → Shared → Prop),
    Below A₀ base outer h₀ → Fr h₀ L s.heap m → (hd.heap_39 w.params).In h₀ → News h₀ L s.heap (pre ++ (bx, bo l i r ti tr n) :: post) →
    Top vw (looseW vw [Str.ofString "SIZE_BX", Str.ofString "POS_A", Str.ofString "POS_C", Str.ofString "POS_B", Str.ofString "POS_BX", Str.ofString "MAXARG_A", Str.ofString "MAXARG_B", Str.ofString "MAXARG_C", Str.ofString "MAXARG_BX", Str.ofString "MAXARG_SBX", Str.ofString "MAX_WORD", Str.ofString "BITRK", Str.ofString "OP_NAMES", Str.ofString "OP_MODES"]) mean mg mb h₀ →
    cs.kind = .function → bx ≠ l → (l, LCg.lst ys) ∈ post → (∀ p ∈ pre, p.1 ≠ bx) → (∀ p ∈ post, p.1 ≠ bx) → IntsAre ys ns → ns.length ≤ 40 → -1 ≤ i → 0 ≤ r → P → dp + lv < recursionLimit → un + 8 * lv < cLine →
    (∀ (v i' r' : Int) (t ti' tr' : Tok) (h' : Heap) (tk' : Nat), V v → -1 ≤ i' → 0 ≤ r' → Fr h₀ L h' m → News h₀ L h' (pre ++ (bx, bo l i' r' ti' tr' n) :: post) → Q (.int v t) { s with heap := h', toks := tk' }) →
    wpAny (model PySem.Challenge.rw_nt0633_01.row.prog w) (ktrTop dp un gd cn cs L a ccd cl outer) (call (.ref f) vs) Q E s
theorem upD {h₀ h g h' : Heap} {L L' L'' bx l : Addr} {m' : Str → Option Value} {o o' ol : Obj} {pre post tail : List (Addr × Obj)} (N : ∀ p ∈ pre ++ (bx, o) :: post, h.get? p.1 = some p.2 ∧ p.1 ≠ L ∧ h₀.get? p.1 = none)
    (hl : (l, ol) ∈ post) (hpre : ∀ p ∈ pre, p.1 ≠ bx) (hpost : ∀ p ∈ post, p.1 ≠ bx)
    (hg : ∀ b o, h.get? b = some o → b ∉ [bx, l] → g.get? b = some o) (F : Fr g L' h' m') (N' : News g L'' h' ((bx, o') :: (l, ol) :: tail)) : News h₀ L h' (pre ++ (bx, o') :: post) := by
  have hol := (N (l, ol) (List.mem_append.mpr (.inr (List.mem_cons_of_mem _ hl)))).1
  have hbx := N (bx, o) (List.mem_append.mpr (.inr (List.mem_cons_self ..)))
  have old : ∀ p, p ∈ pre ++ (bx, o) :: post → p.1 ≠ bx → h'.get? p.1 = some p.2 ∧ p.1 ≠ L ∧ h₀.get? p.1 = none := by
    intro p hp hne
    refine ⟨?_, (N p hp).2⟩
    by_cases e : p.1 = l
    · have h1 := (N' (l, ol) (List.mem_cons_of_mem _ (List.mem_cons_self ..))).1
      have h2 := (N p hp).1
      rw [e, hol] at h2
      rw [e, h1, ← h2]
    · exact F.keep _ _ (hg _ _ (N p hp).1 (by
        intro q
        rcases List.mem_cons.mp q with q | q
        · exact hne q
        · exact e (List.mem_singleton.mp q)))
  intro p hp
  rcases List.mem_append.mp hp with hp | hp
  · exact old p (List.mem_append.mpr (.inl hp)) (hpre p hp)
  · rcases List.mem_cons.mp hp with rfl | hp
    · exact ⟨(N' _ (List.mem_cons_self ..)).1, hbx.2⟩
    · exact old p (List.mem_append.mpr (.inr (List.mem_cons_of_mem _ hp))) (hpost p hp)
theorem DrC.use {w : World} {mean : ExcName → Option Value} {mg mb : Str → Option Value} {lv : Nat} {f bx l : Addr} {ys : List Value} {ns : List Int} {i r : Int} {ti tr : Tok} {n : Nat} {pre post : List (Addr × Obj)} {P : Prop} {vs : List Value} {V : Int → Prop}
    (C : DrC w mean mg mb lv f bx l ys ns i r ti tr n pre post P vs V) {dp un : Nat} {gd : Option (List Code)} {cn : Str} {cs : Scope} {a : Addr} {ccd : Value} {cl : List (Str × Addr)} {outer : List Env} {A₀ : Around} {base h₀ : Heap} {L : Addr} {m : Str → Option Value} {s : Shared} {Q E : Value → Shared → Prop}
    (B : Below A₀ base outer h₀) (F : Fr h₀ L s.heap m) (X : (hd.heap_39 w.params).In h₀) (N : News h₀ L s.heap (pre ++ (bx, bo l i r ti tr n) :: post))
    (T : Top vw (looseW vw [Str.ofString "SIZE_BX", Str.ofString "POS_A", Str.ofString "POS_C", Str.ofString "POS_B", Str.ofString "POS_BX", Str.ofString "MAXARG_A", Str.ofString "MAXARG_B", Str.ofString "MAXARG_C", Str.ofString "MAXARG_BX", Str.ofString "MAXARG_SBX", Str.ofString "MAX_WORD", Str.ofString "BITRK", Str.ofString "OP_NAMES", Str.ofString "OP_MODES"]) mean mg mb h₀)
    (hk : cs.kind = .function) (hne : bx ≠ l) (hl : (l, LCg.lst ys) ∈ post) (hpre : ∀ p ∈ pre, p.1 ≠ bx) (hpost : ∀ p ∈ post, p.1 ≠ bx) (hys : IntsAre ys ns) (hlen : ns.length ≤ 40) (hi : -1 ≤ i) (hr : 0 ≤ r) (hp : P) (hd' : dp + lv < recursionLimit) (hu : un + 8 * lv < cLine)
    (ret : ∀ (v i' r' : Int) (t ti' tr' : Tok) (h' : Heap) (tk' : Nat), V v → -1 ≤ i' → 0 ≤ r' → Fr h₀ L h' m → News h₀ L h' (pre ++ (bx, bo l i' r' ti' tr' n) :: post) → Q (.int v t) { s with heap := h', toks := tk' }) :
    wpAny (model PySem.Challenge.rw_nt0633_01.row.prog w) (ktrTop dp un gd cn cs L a ccd cl outer) (call (.ref f) vs) Q E s :=
  C _ _ _ _ _ _ _ _ _ _ _ _ _ _ _ _ _ B F X N T hk hne hl hpre hpost hys hlen hi hr hp hd' hu ret
section
open PySem.Calls
section
variable {prog : Program} {w : World} {A : Around} {E : Value → Shared → Prop} {s : Shared} {env : Env} {h₀ : Heap} {x : Str} {body : List Stmt} {Q : Flow → Shared → Prop}
theorem endMono {h₀ : Heap} {L : Addr} {J J' : (Str → Option Value) → List (Addr × Obj) → Prop} {own : List (Addr × Obj)} {adr : List Addr} {s₁ s₂ : Shared} (h : ∀ m nx, J m nx → J' m nx) (H : InvEndN h₀ L J own adr s₁ s₂) : InvEndN h₀ L J' own adr s₁ s₂ := by
  obtain ⟨h', tk, m', news', nx, e, F', N', hn, ho, ha, hj⟩ := H
  exact ⟨h', tk, m', news', nx, e, F', N', hn, ho, ha, h _ _ hj⟩
theorem postMono {h₀ : Heap} {L : Addr} {J J' : (Str → Option Value) → List (Addr × Obj) → Prop} {own : List (Addr × Obj)} {adr : List Addr} {s₁ : Shared} {Q : Flow → Shared → Prop} {f : Flow} {s₂ : Shared} (h : ∀ m nx, J m nx → J' m nx) (H : InvPostN h₀ L J own adr s₁ Q f s₂) : InvPostN h₀ L J' own adr s₁ Q f s₂ := by
  cases f with
  | ret v => exact H
  | brk => exact H
  | next => exact endMono h H
  | cont => exact endMono h H
theorem loop1 {l bx : Addr} {ys : List Value} {ns : List Int} {i r₀ : Int} {ti tr₀ : Tok} {n : Nat} {sl : Addr × Obj} {m₀ : Str → Option Value}
    (hh : A.handled = none) (hi : IntsAre ys ns) (hr₀ : 0 ≤ r₀) (F : Fr h₀ env.locals s.heap m₀) (N : News h₀ env.locals s.heap [(bx, bo l i r₀ ti tr₀ n), (l, LCg.lst ys), sl])
    (turn : ∀ (k : Int) (t : Tok) (r : Int) (tr : Tok) h tk own, 0 ≤ r → OwnOff own [bx, l, sl.1] → Fr h₀ env.locals h (fun y => if y = x then some (.int k t) else m₀ y) → News h₀ env.locals h ([(bx, bo l i r ti tr n), (l, LCg.lst ys), sl] ++ own) →
      wpAny (model prog w) A (execs body env) (InvPostN h₀ env.locals (fun m' nx => ∃ r' tr', nx = [(bx, bo l i r' ti tr' n), (l, LCg.lst ys), sl] ∧ 0 ≤ r' ∧ ∀ z, z ≠ x → m' z = m₀ z) own [bx, l, sl.1] { s with heap := h, toks := tk } Q) E { s with heap := h, toks := tk })
    (done : ∀ (u : Str → Option Value) (r : Int) (tr : Tok) h tk, 0 ≤ r → Fr h₀ env.locals h (fun y => if y = x then u y else m₀ y) → News h₀ env.locals h [(bx, bo l i r ti tr n), (l, LCg.lst ys), sl] → Q .next { s with heap := h, toks := tk }) :
    wpAny (model prog w) A (pyIter (.ref l)) (fun it s₂ => LoopAtV prog w A h₀ env x body Q E it s₂) E s := by
  refine iter_invNL (nn := ys.length) (fun _ m nx => ∃ r tr, nx = [(bx, bo l i r ti tr n), (l, LCg.lst ys), sl] ∧ 0 ≤ r ∧ ∀ z, z ≠ x → m z = m₀ z) (news := [(bx, bo l i r₀ ti tr₀ n), (l, LCg.lst ys), sl]) hh (by exact List.mem_cons_of_mem _ (List.mem_cons_self ..)) hi F N ⟨r₀, tr₀, rfl, hr₀, fun _ _ => rfl⟩ ?_ ?_
  · rintro j k t m₁ news₁ h tk own _ _ hoff hl ⟨r, tr, rfl, hr, hm⟩ F₁ N₁
    have em : (fun y => if y = x then some (Value.int k t) else m₁ y) = fun y => if y = x then some (.int k t) else m₀ y := by
      funext y
      by_cases hy : y = x
      · rw [if_pos hy, if_pos hy]
      · rw [if_neg hy, if_neg hy]; exact hm y hy
    rw [em] at F₁
    refine wpAny_mono (turn k t r tr h tk own hr hoff F₁ N₁) (fun f s₂ p => postMono (fun m' nx hJ => ?_) p) fun _ _ e => e
    obtain ⟨r', tr', rfl, h1, h2⟩ := hJ
    exact ⟨List.mem_cons_of_mem _ (List.mem_cons_self ..), r', tr', rfl, h1, h2⟩
  · rintro m₁ news₁ h tk _ ⟨r, tr, rfl, hr, hm⟩ F₁ N₁
    refine done m₁ r tr h tk hr ?_ N₁
    have em : (fun y => if y = x then m₁ y else m₀ y) = m₁ := by
      funext y
      by_cases hy : y = x
      · rw [if_pos hy]
      · rw [if_neg hy]; exact (hm y hy).symm
    rw [em]
    exact F₁
theorem loop2 {rg : Addr} {a₀ b₀ : Int} {t₀ u₀ v₀ : Tok} {nn : Nat} {l bx : Addr} {ys : List Value} {i₀ r₀ : Int} {ti₀ tr₀ : Tok} {n : Nat} {rest : List (Addr × Obj)} (stored : List Str) {m₀ : Str → Option Value}
    (hh : A.handled = none) (hrg : IsRange s.heap rg a₀ b₀ 1 t₀ u₀ v₀) (hsmall : Builtin.Range.small a₀ b₀ 1 = true) (hn : Builtin.Range.rangeSize a₀ b₀ 1 = (nn : Int)) (hi₀ : -1 ≤ i₀) (hr₀ : 0 ≤ r₀)
    (F : Fr h₀ env.locals s.heap m₀) (N : News h₀ env.locals s.heap ((bx, bo l i₀ r₀ ti₀ tr₀ n) :: (l, LCg.lst ys) :: rest))
    (turn : ∀ (k : Int) (t : Tok) (i r : Int) (ti tr : Tok) (u : Str → Option Value) h tk own, -1 ≤ i → 0 ≤ r → OwnOff own (bx :: l :: rest.map (·.1)) → Fr h₀ env.locals h (fun y => if y = x then some (.int k t) else if stored.contains y then u y else m₀ y) → News h₀ env.locals h (((bx, bo l i r ti tr n) :: (l, LCg.lst ys) :: rest) ++ own) →
      wpAny (model prog w) A (execs body env) (InvPostN h₀ env.locals (fun m' nx => ∃ i' r' ti' tr', nx = (bx, bo l i' r' ti' tr' n) :: (l, LCg.lst ys) :: rest ∧ -1 ≤ i' ∧ 0 ≤ r' ∧ ∀ z, z ≠ x → stored.contains z = false → m' z = m₀ z) own (bx :: l :: rest.map (·.1)) { s with heap := h, toks := tk } Q) E { s with heap := h, toks := tk })
    (done : ∀ h tk L' m', Fr h₀ L' h m' → L' = env.locals → Q .next { s with heap := h, toks := tk }) :
    wpAny (model prog w) A (pyIter (.ref rg)) (fun it s₂ => LoopAtV prog w A h₀ env x body Q E it s₂) E s := by
  refine kst_range (σ := Int × Int × Tok × Tok) (fun c => (bx, bo l c.1 c.2.1 c.2.2.1 c.2.2.2 n) :: (l, LCg.lst ys) :: rest) (fun _ => []) (fun c => -1 ≤ c.1 ∧ 0 ≤ c.2.1) stored (fun _ _ => True) ⟨i₀, r₀, ti₀, tr₀⟩ hh hrg hsmall hn F N ⟨hi₀, hr₀⟩ (fun _ hp => nomatch hp) trivial ?_ ?_
  · rintro ⟨i, r, ti, tr⟩ pre k t u h tk own _ _ hoff ⟨h1, h2⟩ _ F₁ N₁
    refine wpAny_mono (turn k t i r ti tr u h tk own h1 h2 hoff F₁ N₁) (fun f s₂ p => postMono (fun m' nx hJ => ?_) p) fun _ _ e => e
    obtain ⟨i', r', ti', tr', rfl, h3, h4, h5⟩ := hJ
    exact ⟨⟨i', r', ti', tr'⟩, rfl, ⟨h3, h4⟩, (fun _ hp => nomatch hp), (fun z hz _ hc => h5 z hz hc), trivial⟩
  · rintro c u h tk _ _ F₁ _
    exact done h tk _ _ F₁ rfl
end
end
-- the walk
local macro_rules | `(tactic| walk_at "my_step") => `(tactic| (first | (k_unfold; (try dsimp only)) | (k_end; wrow_close) | walk1 | (dsimp only; walk1) | (leave1; try dsimp only)))
local macro_rules | `(tactic| walk_at "my_walk") => `(tactic| (repeat' (walk_at "my_step")))
local macro_rules | `(tactic| walk_at "my_enter") => `(tactic| (refine' code_def ?k1 ?k2 ?k3 ?k4 ?k5 ?kA ?kF ?kK ?k6 ?k7 ?k8 ?k9 ?kB ?_ ?c2 ?c3 ?c4 ?c5; (case kA => exact rfl); (case kF => exact rfl); (case kK => first | exact rfl | assumption); (case k1 => k_asm); (case k2 => k_asm); (case k3 => k_asm); (case k4 => k_asm); (case k5 => k_asm); (case k6 => k_is); (case k7 => k_is); (case k8 => ktr_room); (case k9 => exact BindsTo.of_eq rfl); (case c5 => decide); (case kB => exact locs rfl); (case c2 => exact rfl); (case c3 => exact rfl); (case c4 => exact rfl); k_whole; intro g' L' h' FG' F' N' B' X' T'; (try dsimp only); (try k_lift B'); (try k_fold)))
local macro_rules | `(tactic| walk_at "call ref") => `(tactic| (k_here; k_dflt (refine wpAny_call ?_; walk_at "my_enter")))
local macro_rules | `(tactic| walk_at "my_enterS") => `(tactic| (refine' enterS (news := []) ?k1 ?k2 ?k3 News.nil ?k5 ?kA ?kF ?kK ?k6 ?k7 ?k8 ?k9 ?kB ?_ ?c2 ?c3 ?c4 ?c5; (case kA => exact rfl); (case kF => exact rfl); (case kK => first | exact rfl | assumption); (case k1 => k_asm); (case k2 => k_asm); (case k3 => k_asm); (case k5 => k_asm); (case k6 => k_is); (case k7 => k_is); (case k8 => ktr_room); (case k9 => exact BindsTo.of_eq rfl); (case c5 => decide); (case kB => exact locs rfl); (case c2 => exact rfl); (case c3 => exact rfl); (case c4 => exact rfl); k_whole))
local macro_rules | `(tactic| walk_at "my_enterD") => `(tactic| (refine' enterS ?k1 ?k2 ?k3 ?k4 ?k5 ?kA ?kF ?kK ?k6 ?k7 ?k8 ?k9 ?kB ?_ ?c2 ?c3 ?c4 ?c5; (case kA => exact rfl); (case kF => exact rfl); (case kK => first | exact rfl | assumption); (case k1 => k_asm); (case k2 => k_asm); (case k3 => k_asm); (case k4 => k_asm); (case k5 => k_asm); (case k6 => k_is); (case k7 => k_is); (case k8 => ktr_room); (case k9 => exact BindsTo.of_eq rfl); (case c5 => decide); (case kB => exact locs rfl); (case c2 => exact rfl); (case c3 => exact rfl); (case c4 => exact rfl); k_whole))
local macro_rules | `(tactic| walk_at "my_enterC") => `(tactic| (refine' code_defC ?k1 ?k2 ?k3 ?k4 ?k5 ?kA ?kF ?kK ?k6 ?k7 ?k8 ?k9 ?kB ?kD ?_ ?c2 ?c3 ?c4; (case kA => exact rfl); (case kF => exact rfl); (case kK => first | exact rfl | assumption); (case k1 => k_asm); (case k2 => k_asm); (case k3 => k_asm); (case k4 => k_asm); (case k5 => k_asm); (case k6 => k_is); (case k7 => k_is); (case k8 => ktr_room); (case k9 => exact BindsTo.of_eq rfl); (case kB => exact rfl); (case kD => decide +kernel); (case c2 => exact rfl); (case c3 => exact rfl); (case c4 => exact rfl); k_whole; intro g' L' h' tk' cells' FG' F' N' Y' B' X' T' l1; (try k_lt l1); k_cells Y'; (try simp only [List.cons_append, List.nil_append] at N'); (try dsimp only); (try k_lift B'); (try k_fold)))
set_option hygiene false in
local macro_rules | `(tactic| walk_at "use_cl") => `(tactic| ((case k1 => k_asm); (case k2 => k_asm); (case k3 => k_asm); (case k4 => k_asm); (case k5 => k_asm); (case kK => first | exact rfl | assumption); (case kp => first | trivial | omega | (simp only [Int.reduceToNat, Int.reducePow, fd64, fd256, fd512, fd16384, fd8388608, fm64, fm256, fm512, fm16384, fm8388608]; omega)); (case kd => ktr_room); (case ku => ktr_units); intro t9 h9 tk9 F9 N9; (try dsimp only); (try k_fold)))
set_option hygiene false in
local macro_rules | `(tactic| walk_at "use_dr") => `(tactic| ((case k1 => k_asm); (case k2 => k_asm); (case k3 => k_asm); (case k4 => k_asm); (case k5 => k_asm); (case kK => first | exact rfl | assumption); (case kne => k_ne); (case kl => k_mem); (case kpre => k_all); (case kpost => k_all); (case kys => assumption); (case klen => first | omega | (simp only [List.length_map, List.length_take]; omega)); (case ki => omega); (case kr => omega); (case kp => first | omega | decide); (case kd => ktr_room); (case ku => ktr_units); intro v9 i9 r9 t9 ti9 tr9 h9 tk9 hV9 hi9 hr9 F9 N9; (try simp only [List.cons_append, List.nil_append] at N9); (try dsimp only [bo] at N9); (try dsimp only at hV9); (try simp only [Int.reduceToNat, Int.reducePow] at hV9); (try dsimp only); (try k_fold)))
theorem c_get_op (w mean mg mb cbNews) (x : Int) (t0 : CbTok) : Cl w mean mg mb 5 138 cbNews (True) [.int x t0] (fun t => .int (x.fmod 64) t) := by
  unfold Cl CbRet
  k_fill
  intro dp un gd cn cs a0 ccd cl outer A₀ base h₀ L m s Q E B F X N T hk hp hd9 hu hret
  refine wpAny_call ?_
  k_dflt (walk_at "my_enter")
  k_steps
  all_goals (refine' cb_retI (Q := Q) hret ?e1 ?e2 ?e3; (case e2 => k_asm); (case e3 => first | k_asm | (refine' cb_drop ?cbN ?cbS; (case cbN => assumption); (case cbS => kcj_all))); (case e1 => (exact (field_val x 0 6).trans (by simp only [fd64, fd256, fd512, fd16384, fd8388608, fm64, fm256, fm512, fm16384, fm8388608]; omega))))

theorem c_get_a (w mean mg mb cbNews) (x : Int) (t0 : CbTok) : Cl w mean mg mb 5 145 cbNews (True) [.int x t0] (fun t => .int ((x.fdiv 64).fmod 256) t) := by
  unfold Cl CbRet
  k_fill
  intro dp un gd cn cs a0 ccd cl outer A₀ base h₀ L m s Q E B F X N T hk hp hd9 hu hret
  refine wpAny_call ?_
  k_dflt (walk_at "my_enter")
  k_steps
  all_goals (refine' cb_retI (Q := Q) hret ?e1 ?e2 ?e3; (case e2 => k_asm); (case e3 => first | k_asm | (refine' cb_drop ?cbN ?cbS; (case cbN => assumption); (case cbS => kcj_all))); (case e1 => (exact (field_val x 6 8).trans (by simp only [fd64, fd256, fd512, fd16384, fd8388608, fm64, fm256, fm512, fm16384, fm8388608]; omega))))

theorem c_get_b (w mean mg mb cbNews) (x : Int) (t0 : CbTok) : Cl w mean mg mb 5 152 cbNews (0 ≤ x ∧ x < 4294967296) [.int x t0] (fun t => .int (x.fdiv 8388608) t) := by
  unfold Cl CbRet
  k_fill
  intro dp un gd cn cs a0 ccd cl outer A₀ base h₀ L m s Q E B F X N T hk hp hd9 hu hret
  refine wpAny_call ?_
  k_dflt (walk_at "my_enter")
  k_steps
  all_goals (refine' cb_retI (Q := Q) hret ?e1 ?e2 ?e3; (case e2 => k_asm); (case e3 => first | k_asm | (refine' cb_drop ?cbN ?cbS; (case cbN => assumption); (case cbS => kcj_all))); (case e1 => (exact (field_val x 23 9).trans (by simp only [fd64, fd256, fd512, fd16384, fd8388608, fm64, fm256, fm512, fm16384, fm8388608]; omega))))

theorem c_get_c (w mean mg mb cbNews) (x : Int) (t0 : CbTok) : Cl w mean mg mb 5 159 cbNews (True) [.int x t0] (fun t => .int ((x.fdiv 16384).fmod 512) t) := by
  unfold Cl CbRet
  k_fill
  intro dp un gd cn cs a0 ccd cl outer A₀ base h₀ L m s Q E B F X N T hk hp hd9 hu hret
  refine wpAny_call ?_
  k_dflt (walk_at "my_enter")
  k_steps
  all_goals (refine' cb_retI (Q := Q) hret ?e1 ?e2 ?e3; (case e2 => k_asm); (case e3 => first | k_asm | (refine' cb_drop ?cbN ?cbS; (case cbN => assumption); (case cbS => kcj_all))); (case e1 => (exact (field_val x 14 9).trans (by simp only [fd64, fd256, fd512, fd16384, fd8388608, fm64, fm256, fm512, fm16384, fm8388608]; omega))))

theorem c_get_bx (w mean mg mb cbNews) (x : Int) (t0 : CbTok) : Cl w mean mg mb 5 166 cbNews (0 ≤ x ∧ x < 4294967296) [.int x t0] (fun t => .int (x.fdiv 16384) t) := by
  unfold Cl CbRet
  k_fill
  intro dp un gd cn cs a0 ccd cl outer A₀ base h₀ L m s Q E B F X N T hk hp hd9 hu hret
  refine wpAny_call ?_
  k_dflt (walk_at "my_enter")
  k_steps
  all_goals (refine' cb_retI (Q := Q) hret ?e1 ?e2 ?e3; (case e2 => k_asm); (case e3 => first | k_asm | (refine' cb_drop ?cbN ?cbS; (case cbN => assumption); (case cbS => kcj_all))); (case e1 => (exact (field_val x 14 18).trans (by simp only [fd64, fd256, fd512, fd16384, fd8388608, fm64, fm256, fm512, fm16384, fm8388608]; omega))))

theorem c_set_op (w mean mg mb cbNews) (x y : Int) (t0 t1 : CbTok) : Cl w mean mg mb 5 180 cbNews (0 ≤ x ∧ x < 4294967296 ∧ 0 ≤ y ∧ y < 64) [.int x t0, .int y t1] (fun t => .int (x - x.fmod 64 + y) t) := by
  unfold Cl CbRet
  k_fill
  intro dp un gd cn cs a0 ccd cl outer A₀ base h₀ L m s Q E B F X N T hk hp hd9 hu hret
  refine wpAny_call ?_
  k_dflt (walk_at "my_enter")
  k_steps
  all_goals (refine' cb_retI (Q := Q) hret ?e1 ?e2 ?e3; (case e2 => k_asm); (case e3 => first | k_asm | (refine' cb_drop ?cbN ?cbS; (case cbN => assumption); (case cbS => kcj_all))); (case e1 => (exact (wf_val x y 0 6 hp.1 hp.2.1 hp.2.2.1 (by omega)).trans (by simp only [fd64, fd256, fd512, fd16384, fd8388608, fm64, fm256, fm512, fm16384, fm8388608]; omega))))

theorem c_set_a (w mean mg mb cbNews) (x y : Int) (t0 t1 : CbTok) : Cl w mean mg mb 5 187 cbNews (0 ≤ x ∧ x < 4294967296 ∧ 0 ≤ y ∧ y < 256) [.int x t0, .int y t1] (fun t => .int (x - 64 * (x.fdiv 64).fmod 256 + 64 * y) t) := by
  unfold Cl CbRet
  k_fill
  intro dp un gd cn cs a0 ccd cl outer A₀ base h₀ L m s Q E B F X N T hk hp hd9 hu hret
  refine wpAny_call ?_
  k_dflt (walk_at "my_enter")
  k_steps
  all_goals (refine' cb_retI (Q := Q) hret ?e1 ?e2 ?e3; (case e2 => k_asm); (case e3 => first | k_asm | (refine' cb_drop ?cbN ?cbS; (case cbN => assumption); (case cbS => kcj_all))); (case e1 => (exact (wf_val x y 6 8 hp.1 hp.2.1 hp.2.2.1 (by omega)).trans (by simp only [fd64, fd256, fd512, fd16384, fd8388608, fm64, fm256, fm512, fm16384, fm8388608]; omega))))

theorem c_set_b (w mean mg mb cbNews) (x y : Int) (t0 t1 : CbTok) : Cl w mean mg mb 5 194 cbNews (0 ≤ x ∧ x < 4294967296 ∧ 0 ≤ y ∧ y < 512) [.int x t0, .int y t1] (fun t => .int (x.fmod 64 + 64 * (x.fdiv 64).fmod 256 + 16384 * (x.fdiv 16384).fmod 512 + 8388608 * y) t) := by
  unfold Cl CbRet
  k_fill
  intro dp un gd cn cs a0 ccd cl outer A₀ base h₀ L m s Q E B F X N T hk hp hd9 hu hret
  refine wpAny_call ?_
  k_dflt (walk_at "my_enter")
  k_steps
  all_goals (refine' cb_retI (Q := Q) hret ?e1 ?e2 ?e3; (case e2 => k_asm); (case e3 => first | k_asm | (refine' cb_drop ?cbN ?cbS; (case cbN => assumption); (case cbS => kcj_all))); (case e1 => (exact (wf_val x y 23 9 hp.1 hp.2.1 hp.2.2.1 (by omega)).trans (by simp only [fd64, fd256, fd512, fd16384, fd8388608, fm64, fm256, fm512, fm16384, fm8388608]; omega))))

theorem c_set_c (w mean mg mb cbNews) (x y : Int) (t0 t1 : CbTok) : Cl w mean mg mb 5 201 cbNews (0 ≤ x ∧ x < 4294967296 ∧ 0 ≤ y ∧ y < 512) [.int x t0, .int y t1] (fun t => .int (x.fmod 64 + 64 * (x.fdiv 64).fmod 256 + 16384 * y + 8388608 * x.fdiv 8388608) t) := by
  unfold Cl CbRet
  k_fill
  intro dp un gd cn cs a0 ccd cl outer A₀ base h₀ L m s Q E B F X N T hk hp hd9 hu hret
  refine wpAny_call ?_
  k_dflt (walk_at "my_enter")
  k_steps
  all_goals (refine' cb_retI (Q := Q) hret ?e1 ?e2 ?e3; (case e2 => k_asm); (case e3 => first | k_asm | (refine' cb_drop ?cbN ?cbS; (case cbN => assumption); (case cbS => kcj_all))); (case e1 => (exact (wf_val x y 14 9 hp.1 hp.2.1 hp.2.2.1 (by omega)).trans (by simp only [fd64, fd256, fd512, fd16384, fd8388608, fm64, fm256, fm512, fm16384, fm8388608]; omega))))

theorem c_set_bx (w mean mg mb cbNews) (x y : Int) (t0 t1 : CbTok) : Cl w mean mg mb 5 208 cbNews (0 ≤ x ∧ x < 4294967296 ∧ 0 ≤ y ∧ y < 262144) [.int x t0, .int y t1] (fun t => .int (x.fmod 64 + 64 * (x.fdiv 64).fmod 256 + 16384 * y) t) := by
  unfold Cl CbRet
  k_fill
  intro dp un gd cn cs a0 ccd cl outer A₀ base h₀ L m s Q E B F X N T hk hp hd9 hu hret
  refine wpAny_call ?_
  k_dflt (walk_at "my_enter")
  k_steps
  all_goals (refine' cb_retI (Q := Q) hret ?e1 ?e2 ?e3; (case e2 => k_asm); (case e3 => first | k_asm | (refine' cb_drop ?cbN ?cbS; (case cbN => assumption); (case cbS => kcj_all))); (case e1 => (exact (wf_val x y 14 18 hp.1 hp.2.1 hp.2.2.1 (by omega)).trans (by simp only [fd64, fd256, fd512, fd16384, fd8388608, fm64, fm256, fm512, fm16384, fm8388608]; omega))))

theorem c_create_abc (w mean mg mb cbNews) (op a b c : Int) (t0 t1 t2 t3 : CbTok) : Cl w mean mg mb 5 117 cbNews (0 ≤ op ∧ op < 64 ∧ 0 ≤ a ∧ a < 256 ∧ 0 ≤ b ∧ b < 512 ∧ 0 ≤ c ∧ c < 512) [.int op t0, .int a t1, .int b t2, .int c t3] (fun t => .int (op + 64 * a + 16384 * c + 8388608 * b) t) := by
  unfold Cl CbRet
  k_fill
  intro dp un gd cn cs a0 ccd cl outer A₀ base h₀ L m s Q E B F X N T hk hp hd9 hu hret
  refine wpAny_call ?_
  k_dflt (walk_at "my_enter")
  k_steps
  all_goals (refine' cb_retI (Q := Q) hret ?e1 ?e2 ?e3; (case e2 => k_asm); (case e3 => first | k_asm | (refine' cb_drop ?cbN ?cbS; (case cbN => assumption); (case cbS => kcj_all))); (case e1 => (exact abc_val op a b c hp.1 hp.2.1 hp.2.2.1 hp.2.2.2.1 hp.2.2.2.2.1 hp.2.2.2.2.2.2.1 hp.2.2.2.2.2.2.2)))

theorem c_create_abx (w mean mg mb cbNews) (op a b : Int) (t0 t1 t2 : CbTok) : Cl w mean mg mb 5 124 cbNews (0 ≤ op ∧ op < 64 ∧ 0 ≤ a ∧ a < 256 ∧ 0 ≤ b ∧ b < 262144) [.int op t0, .int a t1, .int b t2] (fun t => .int (op + 64 * a + 16384 * b) t) := by
  unfold Cl CbRet
  k_fill
  intro dp un gd cn cs a0 ccd cl outer A₀ base h₀ L m s Q E B F X N T hk hp hd9 hu hret
  refine wpAny_call ?_
  k_dflt (walk_at "my_enter")
  k_steps
  all_goals (refine' cb_retI (Q := Q) hret ?e1 ?e2 ?e3; (case e2 => k_asm); (case e3 => first | k_asm | (refine' cb_drop ?cbN ?cbS; (case cbN => assumption); (case cbS => kcj_all))); (case e1 => (exact abx_val op a b hp.1 hp.2.1 hp.2.2.1 hp.2.2.2.1)))

theorem c_index_k (w mean mg mb cbNews) (v : Int) (t0 : CbTok) : Cl w mean mg mb 5 229 cbNews (0 ≤ v ∧ v < 512) [.int v t0] (fun t => .int (v.fmod 256) t) := by
  unfold Cl CbRet
  k_fill
  intro dp un gd cn cs a0 ccd cl outer A₀ base h₀ L m s Q E B F X N T hk hp hd9 hu hret
  refine wpAny_call ?_
  k_dflt (walk_at "my_enter")
  k_steps
  all_goals (refine' cb_retI (Q := Q) hret ?e1 ?e2 ?e3; (case e2 => k_asm); (case e3 => first | k_asm | (refine' cb_drop ?cbN ?cbS; (case cbN => assumption); (case cbS => kcj_all))); (case e1 => (exact (band_not v 256 hp.1 (by decide)).trans (by rw [k_val, fm256]; omega))))

theorem c_rk_as_k (w mean mg mb cbNews) (v : Int) (t0 : CbTok) : Cl w mean mg mb 5 236 cbNews (0 ≤ v ∧ v < 512) [.int v t0] (fun t => .int (v % 256 + 256) t) := by
  unfold Cl CbRet
  k_fill
  intro dp un gd cn cs a0 ccd cl outer A₀ base h₀ L m s Q E B F X N T hk hp hd9 hu hret
  refine wpAny_call ?_
  k_dflt (walk_at "my_enter")
  k_steps
  all_goals (refine' cb_retI (Q := Q) hret ?e1 ?e2 ?e3; (case e2 => k_asm); (case e3 => first | k_asm | (refine' cb_drop ?cbN ?cbS; (case cbN => assumption); (case cbS => kcj_all))); (case e1 => (exact (bor v 256).trans (by rw [k_val]; omega))))
set_option hygiene false in
local macro_rules | `(tactic| walk_at "call ref") => `(tactic| (k_here; (with_reducible show wpAny _ _ (call (Value.ref 138) _) _ _ _); k_dflt (refine' Cl.use (c_get_op _ _ _ _ _ _ _) ?k1 ?k2 ?k3 ?k4 ?k5 ?kK ?kp ?kd ?ku ?_; walk_at "use_cl")))
set_option hygiene false in
local macro_rules | `(tactic| walk_at "call ref") => `(tactic| (k_here; (with_reducible show wpAny _ _ (call (Value.ref 145) _) _ _ _); k_dflt (refine' Cl.use (c_get_a _ _ _ _ _ _ _) ?k1 ?k2 ?k3 ?k4 ?k5 ?kK ?kp ?kd ?ku ?_; walk_at "use_cl")))
set_option hygiene false in
local macro_rules | `(tactic| walk_at "call ref") => `(tactic| (k_here; (with_reducible show wpAny _ _ (call (Value.ref 152) _) _ _ _); k_dflt (refine' Cl.use (c_get_b _ _ _ _ _ _ _) ?k1 ?k2 ?k3 ?k4 ?k5 ?kK ?kp ?kd ?ku ?_; walk_at "use_cl")))
set_option hygiene false in
local macro_rules | `(tactic| walk_at "call ref") => `(tactic| (k_here; (with_reducible show wpAny _ _ (call (Value.ref 159) _) _ _ _); k_dflt (refine' Cl.use (c_get_c _ _ _ _ _ _ _) ?k1 ?k2 ?k3 ?k4 ?k5 ?kK ?kp ?kd ?ku ?_; walk_at "use_cl")))
set_option hygiene false in
local macro_rules | `(tactic| walk_at "call ref") => `(tactic| (k_here; (with_reducible show wpAny _ _ (call (Value.ref 166) _) _ _ _); k_dflt (refine' Cl.use (c_get_bx _ _ _ _ _ _ _) ?k1 ?k2 ?k3 ?k4 ?k5 ?kK ?kp ?kd ?ku ?_; walk_at "use_cl")))
set_option hygiene false in
local macro_rules | `(tactic| walk_at "call ref") => `(tactic| (k_here; (with_reducible show wpAny _ _ (call (Value.ref 180) _) _ _ _); k_dflt (refine' Cl.use (c_set_op _ _ _ _ _ _ _ _ _) ?k1 ?k2 ?k3 ?k4 ?k5 ?kK ?kp ?kd ?ku ?_; walk_at "use_cl")))
set_option hygiene false in
local macro_rules | `(tactic| walk_at "call ref") => `(tactic| (k_here; (with_reducible show wpAny _ _ (call (Value.ref 187) _) _ _ _); k_dflt (refine' Cl.use (c_set_a _ _ _ _ _ _ _ _ _) ?k1 ?k2 ?k3 ?k4 ?k5 ?kK ?kp ?kd ?ku ?_; walk_at "use_cl")))
set_option hygiene false in
local macro_rules | `(tactic| walk_at "call ref") => `(tactic| (k_here; (with_reducible show wpAny _ _ (call (Value.ref 194) _) _ _ _); k_dflt (refine' Cl.use (c_set_b _ _ _ _ _ _ _ _ _) ?k1 ?k2 ?k3 ?k4 ?k5 ?kK ?kp ?kd ?ku ?_; walk_at "use_cl")))
set_option hygiene false in
local macro_rules | `(tactic| walk_at "call ref") => `(tactic| (k_here; (with_reducible show wpAny _ _ (call (Value.ref 201) _) _ _ _); k_dflt (refine' Cl.use (c_set_c _ _ _ _ _ _ _ _ _) ?k1 ?k2 ?k3 ?k4 ?k5 ?kK ?kp ?kd ?ku ?_; walk_at "use_cl")))
set_option hygiene false in
local macro_rules | `(tactic| walk_at "call ref") => `(tactic| (k_here; (with_reducible show wpAny _ _ (call (Value.ref 208) _) _ _ _); k_dflt (refine' Cl.use (c_set_bx _ _ _ _ _ _ _ _ _) ?k1 ?k2 ?k3 ?k4 ?k5 ?kK ?kp ?kd ?ku ?_; walk_at "use_cl")))
set_option hygiene false in
local macro_rules | `(tactic| walk_at "call ref") => `(tactic| (k_here; (with_reducible show wpAny _ _ (call (Value.ref 117) _) _ _ _); k_dflt (refine' Cl.use (c_create_abc _ _ _ _ _ _ _ _ _ _ _ _ _) ?k1 ?k2 ?k3 ?k4 ?k5 ?kK ?kp ?kd ?ku ?_; walk_at "use_cl")))
set_option hygiene false in
local macro_rules | `(tactic| walk_at "call ref") => `(tactic| (k_here; (with_reducible show wpAny _ _ (call (Value.ref 124) _) _ _ _); k_dflt (refine' Cl.use (c_create_abx _ _ _ _ _ _ _ _ _ _ _) ?k1 ?k2 ?k3 ?k4 ?k5 ?kK ?kp ?kd ?ku ?_; walk_at "use_cl")))
set_option hygiene false in
local macro_rules | `(tactic| walk_at "call ref") => `(tactic| (k_here; (with_reducible show wpAny _ _ (call (Value.ref 229) _) _ _ _); k_dflt (refine' Cl.use (c_index_k _ _ _ _ _ _ _) ?k1 ?k2 ?k3 ?k4 ?k5 ?kK ?kp ?kd ?ku ?_; walk_at "use_cl")))
set_option hygiene false in
local macro_rules | `(tactic| walk_at "call ref") => `(tactic| (k_here; (with_reducible show wpAny _ _ (call (Value.ref 236) _) _ _ _); k_dflt (refine' Cl.use (c_rk_as_k _ _ _ _ _ _ _) ?k1 ?k2 ?k3 ?k4 ?k5 ?kK ?kp ?kd ?ku ?_; walk_at "use_cl")))
theorem c_get_sbx (w mean mg mb cbNews) (x : Int) (t0 : CbTok) : Cl w mean mg mb 10 173 cbNews (0 ≤ x ∧ x < 4294967296) [.int x t0] (fun t => .int (x.fdiv 16384 - 131071) t) := by
  unfold Cl CbRet
  k_fill
  intro dp un gd cn cs a0 ccd cl outer A₀ base h₀ L m s Q E B F X N T hk hp hd9 hu hret
  refine wpAny_call ?_
  k_dflt (walk_at "my_enter")
  k_steps
  all_goals (refine' cb_retI (Q := Q) hret ?e1 ?e2 ?e3; (case e2 => k_asm); (case e3 => first | k_asm | (refine' cb_drop ?cbN ?cbS; (case cbN => assumption); (case cbS => kcj_all))); (case e1 => omega))

theorem c_set_sbx (w mean mg mb cbNews) (x y : Int) (t0 t1 : CbTok) : Cl w mean mg mb 10 215 cbNews (0 ≤ x ∧ x < 4294967296 ∧ 0 ≤ y + 131071 ∧ y + 131071 < 262144) [.int x t0, .int y t1] (fun t => .int (x.fmod 64 + 64 * (x.fdiv 64).fmod 256 + 16384 * (y + 131071)) t) := by
  unfold Cl CbRet
  k_fill
  intro dp un gd cn cs a0 ccd cl outer A₀ base h₀ L m s Q E B F X N T hk hp hd9 hu hret
  refine wpAny_call ?_
  k_dflt (walk_at "my_enter")
  k_steps
  all_goals (refine' cb_retI (Q := Q) hret ?e1 ?e2 ?e3; (case e2 => k_asm); (case e3 => first | k_asm | (refine' cb_drop ?cbN ?cbS; (case cbN => assumption); (case cbS => kcj_all))); (case e1 => omega))

theorem c_create_asbx (w mean mg mb cbNews) (op a b : Int) (t0 t1 t2 : CbTok) : Cl w mean mg mb 10 131 cbNews (0 ≤ op ∧ op < 64 ∧ 0 ≤ a ∧ a < 256 ∧ 0 ≤ b + 131071 ∧ b + 131071 < 262144) [.int op t0, .int a t1, .int b t2] (fun t => .int (op + 64 * a + 16384 * (b + 131071)) t) := by
  unfold Cl CbRet
  k_fill
  intro dp un gd cn cs a0 ccd cl outer A₀ base h₀ L m s Q E B F X N T hk hp hd9 hu hret
  refine wpAny_call ?_
  k_dflt (walk_at "my_enter")
  k_steps
  all_goals (refine' cb_retI (Q := Q) hret ?e1 ?e2 ?e3; (case e2 => k_asm); (case e3 => first | k_asm | (refine' cb_drop ?cbN ?cbS; (case cbN => assumption); (case cbS => kcj_all))); (case e1 => omega))

theorem c_is_k (w mean mg mb cbNews) (v : Int) (t0 : CbTok) : Cl w mean mg mb 10 222 cbNews (0 ≤ v ∧ v < 512) [.int v t0] (fun _ => .bool (decide (255 < v))) := by
  unfold Cl CbRet
  k_fill
  intro dp un gd cn cs a0 ccd cl outer A₀ base h₀ L m s Q E B F X N T hk hp hd9 hu hret
  refine wpAny_call ?_
  k_dflt (walk_at "my_enter")
  k_steps
  all_goals (refine' cb_retB (Q := Q) hret ?e1 ?e2 ?e3; (case e2 => k_asm); (case e3 => first | k_asm | (refine' cb_drop ?cbN ?cbS; (case cbN => assumption); (case cbS => kcj_all))); (case e1 => (rw [k_val]; by_cases hv9 : 255 < v; (rw [show v / 256 % 2 * 256 = 256 by omega]; simp [hv9]); (rw [show v / 256 % 2 * 256 = 0 by omega]; simp [hv9]))))

set_option hygiene false in
local macro_rules | `(tactic| walk_at "call ref") => `(tactic| (k_here; (with_reducible show wpAny _ _ (call (Value.ref 173) _) _ _ _); k_dflt (refine' Cl.use (c_get_sbx _ _ _ _ _ _ _) ?k1 ?k2 ?k3 ?k4 ?k5 ?kK ?kp ?kd ?ku ?_; walk_at "use_cl")))
set_option hygiene false in
local macro_rules | `(tactic| walk_at "call ref") => `(tactic| (k_here; (with_reducible show wpAny _ _ (call (Value.ref 215) _) _ _ _); k_dflt (refine' Cl.use (c_set_sbx _ _ _ _ _ _ _ _ _) ?k1 ?k2 ?k3 ?k4 ?k5 ?kK ?kp ?kd ?ku ?_; walk_at "use_cl")))
set_option hygiene false in
local macro_rules | `(tactic| walk_at "call ref") => `(tactic| (k_here; (with_reducible show wpAny _ _ (call (Value.ref 131) _) _ _ _); k_dflt (refine' Cl.use (c_create_asbx _ _ _ _ _ _ _ _ _ _ _) ?k1 ?k2 ?k3 ?k4 ?k5 ?kK ?kp ?kd ?ku ?_; walk_at "use_cl")))
set_option hygiene false in
local macro_rules | `(tactic| walk_at "call ref") => `(tactic| (k_here; (with_reducible show wpAny _ _ (call (Value.ref 222) _) _ _ _); k_dflt (refine' Cl.use (c_is_k _ _ _ _ _ _ _) ?k1 ?k2 ?k3 ?k4 ?k5 ?kK ?kp ?kd ?ku ?_; walk_at "use_cl")))
theorem c_word_in (w mean mg mb cbNews) (v : Int) (t0 : CbTok) : Cl w mean mg mb 10 243 cbNews (0 ≤ v ∧ v ≤ 4294967295) [.int v t0] (fun _ => .bool (decide (v.fmod 64 < 38))) := by
  unfold Cl CbRet
  k_fill
  intro dp un gd cn cs a0 ccd cl outer A₀ base h₀ L m s Q E B F X N T hk hp hd9 hu hret
  refine wpAny_call ?_
  k_dflt (walk_at "my_enter")
  k_steps
  all_goals (refine' cb_retB (Q := Q) hret ?e1 ?e2 ?e3; (case e2 => k_asm); (case e3 => first | k_asm | (refine' cb_drop ?cbN ?cbS; (case cbN => assumption); (case cbS => kcj_all))); (case e1 => first | rfl | (apply Bool.eq_iff_iff.mpr; simp only [decide_eq_true_eq, decide_eq_false_iff_not, Bool.not_eq_true, Bool.false_eq_true, fm64, iff_true, iff_false, true_iff, false_iff] at *; omega)))

theorem c_word_yes (w mean mg mb cbNews) (v : Int) (t0 : CbTok) : Cl w mean mg mb 10 243 cbNews (0 ≤ v ∧ v ≤ 4294967295 ∧ v.fmod 64 < 38) [.int v t0] (fun _ => .bool (true)) := by
  unfold Cl CbRet
  k_fill
  intro dp un gd cn cs a0 ccd cl outer A₀ base h₀ L m s Q E B F X N T hk hp hd9 hu hret
  refine wpAny_call ?_
  k_dflt (walk_at "my_enter")
  k_steps
  all_goals (refine' cb_retB (Q := Q) hret ?e1 ?e2 ?e3; (case e2 => k_asm); (case e3 => first | k_asm | (refine' cb_drop ?cbN ?cbS; (case cbN => assumption); (case cbS => kcj_all))); (case e1 => first | rfl | (apply Bool.eq_iff_iff.mpr; simp only [decide_eq_true_eq, decide_eq_false_iff_not, Bool.not_eq_true, Bool.false_eq_true, fm64, iff_true, iff_false, true_iff, false_iff] at *; omega)))

theorem c_word_no (w mean mg mb cbNews) (v : Int) (t0 : CbTok) : Cl w mean mg mb 10 243 cbNews (v < 0 ∨ 4294967295 < v) [.int v t0] (fun _ => .bool (false)) := by
  unfold Cl CbRet
  k_fill
  intro dp un gd cn cs a0 ccd cl outer A₀ base h₀ L m s Q E B F X N T hk hp hd9 hu hret
  refine wpAny_call ?_
  k_dflt (walk_at "my_enter")
  k_steps
  all_goals (refine' cb_retB (Q := Q) hret ?e1 ?e2 ?e3; (case e2 => k_asm); (case e3 => first | k_asm | (refine' cb_drop ?cbN ?cbS; (case cbN => assumption); (case cbS => kcj_all))); (case e1 => first | rfl | (apply Bool.eq_iff_iff.mpr; simp only [decide_eq_true_eq, decide_eq_false_iff_not, Bool.not_eq_true, Bool.false_eq_true, fm64, iff_true, iff_false, true_iff, false_iff] at *; omega)))

theorem ite_bne {b : Bool} {P Q : Prop} (h : Q) : if (b != b) = true then P else Q := by rw [if_neg (by simp)]; exact h
theorem ite_neq {α : Type} {a : α} {P Q : Prop} {d : Decidable (a ≠ a)} (h : Q) : if decide (a ≠ a) = true then P else Q := by rw [if_neg (by simp)]; exact h
theorem c_packed (w mean mg mb cbNews) (op a b c d : Int) (t0 t1 t2 t3 t4 : CbTok) : Cl w mean mg mb 20 288 cbNews (0 ≤ op ∧ op < 38 ∧ 0 ≤ a ∧ a < 256 ∧ 0 ≤ b ∧ b < 512 ∧ 0 ≤ c ∧ c < 512 ∧ 0 ≤ d ∧ d < 262144) [.int op t0, .int a t1, .int b t2, .int c t3, .int d t4] (fun _ => .bool (true)) := by
  unfold Cl CbRet
  k_fill
  intro dp un gd cn cs a0 ccd cl outer A₀ base h₀ L m s Q E B F X N T hk hp hd9 hu hret
  refine wpAny_call ?_
  k_dflt (walk_at "my_enter")
  k_steps
  all_goals (refine' cb_retB (Q := Q) hret ?e1 ?e2 ?e3; (case e2 => k_asm); (case e3 => first | k_asm | (refine' cb_drop ?cbN ?cbS; (case cbN => assumption); (case cbS => kcj_all))); (case e1 => first | rfl | (apply beq_iff_eq.mpr; (try simp only [fd64, fd256, fd512, fd16384, fd8388608, fm64, fm256, fm512, fm16384, fm8388608]); omega) | exact absurd rfl (by assumption) | exact absurd (show (_ != _) = true by assumption) (by simp) | (exfalso; omega) | (exfalso; (simp only [fd64, fd256, fd512, fd16384, fd8388608, fm64, fm256, fm512, fm16384, fm8388608] at *); omega) | (trace_state; fail)))

theorem c_operands (w mean mg mb cbNews) (v : Int) (t0 : CbTok) : Cl w mean mg mb 20 300 cbNews (0 ≤ v ∧ v < 512) [.int v t0] (fun _ => .bool (true)) := by
  unfold Cl CbRet
  k_fill
  intro dp un gd cn cs a0 ccd cl outer A₀ base h₀ L m s Q E B F X N T hk hp hd9 hu hret
  refine wpAny_call ?_
  k_dflt (walk_at "my_enter")
  k_steps
  all_goals (refine' cb_retB (Q := Q) hret ?e1 ?e2 ?e3; (case e2 => k_asm); (case e3 => first | k_asm | (refine' cb_drop ?cbN ?cbS; (case cbN => assumption); (case cbS => kcj_all))); (case e1 => first | rfl | (apply beq_iff_eq.mpr; (try simp only [fd64, fd256, fd512, fd16384, fd8388608, fm64, fm256, fm512, fm16384, fm8388608]); omega) | exact absurd rfl (by assumption) | exact absurd (show (_ != _) = true by assumption) (by simp) | (exfalso; omega) | (exfalso; (simp only [fd64, fd256, fd512, fd16384, fd8388608, fm64, fm256, fm512, fm16384, fm8388608] at *); omega) | (trace_state; fail)))
section
local macro_rules | `(tactic| walk_at "eval ListComp") => `(tactic| (k_here; k_dflt (refine LCt.ListComp_T (F₀ := by k_asm) (by with_unfolding_all rfl) (by decide) (by rfl) (by decide) (by rfl) ?_)))
local macro_rules | `(tactic| walk_at "CompSrcT") => `(tactic| (k_here; k_dflt (refine LCt.CompSrcT.ledger (by rfl) (by k_asm) (by k_asm) (by k_mem) (by first | size_fits | exact Nat.le_of_ble_eq_true rfl) ?_; intro g'; (refine' comp_none ?hi ?hb ?hS (fun k' t' I' oI' C' oC' D' m' h' tk' E' hk' hC' hx' F' N' off' ne' => ?_) ?_); (case hi => exact .cons _ _ (.cons _ _ (.cons _ _ (.cons _ _ (.cons _ _ (.cons _ _ .nil)))))); (case hS => exact .inr ⟨_, by k_mem, rfl, _, rfl⟩); (case hb => repeat (first | exact allnil | (refine List.forall_mem_cons.mpr ⟨by (simp only [fd64, fd256, fd512, fd16384, fd8388608, fm64, fm256, fm512, fm16384, fm8388608]; omega), ?_⟩))); (all_goals (try simp only [LCg.Off3, and_true] at off')))))
theorem c_set_right (w mean mg mb cbNews) (x op a b c d : Int) (t0 t1 t2 t3 t4 t5 : CbTok) : Cl w mean mg mb 20 293 cbNews (0 ≤ x ∧ x < 4294967296 ∧ 0 ≤ op ∧ op < 38 ∧ 0 ≤ a ∧ a < 256 ∧ 0 ≤ b ∧ b < 512 ∧ 0 ≤ c ∧ c < 512 ∧ 0 ≤ d ∧ d < 262144) [.int x t0, .int op t1, .int a t2, .int b t3, .int c t4, .int d t5] (fun _ => .bool (true)) := by
  unfold Cl CbRet
  k_fill
  intro dp un gd cn cs a0 ccd cl outer A₀ base h₀ L m s Q E B F X N T hk hp hd9 hu hret
  unfold News at N
  refine wpAny_call ?_
  k_dflt (walk_at "my_enterS")
  intro g1 L1 h1 hg1 FG1 F1 N1 B1 X1 T1
  (try dsimp only)
  (try k_lift B1)
  (try k_fold)
  k_steps
  all_goals first | (refine Sub9.mk ?_; kcj_all) | (exact False.elim (by first | assumption | omega | (exfalso; exact absurd rfl (by assumption)))) | (refine' cb_retB (Q := Q) hret ?e1 ?e2 ?e3; (case e2 => k_asm); (case e3 => exact upN N hg1 (by assumption)); (case e1 => first | rfl | (exfalso; rename (¬ ((_ : List Int) = _)) => hne9; exact hne9 (by simp only [List.cons.injEq, true_and, and_true]; omega)) | (trace_state; fail)))
end
theorem c_draw (w mean mg mb) (bx l : Addr) (ys : List Value) (ns : List Int) (i r : Int) (ti tr : CbTok) (n : Nat) (pre post : List (Addr × Obj)) (k : Int) (t0 : CbTok) : DrC w mean mg mb 5 260 bx l ys ns i r ti tr n pre post (0 < k ∧ k ≤ 4294967296) [.ref bx, .int k t0] (fun v => 0 ≤ v ∧ v < k) := by
  unfold DrC
  k_fill
  intro dp un gd cn cs a0 ccd cl outer A₀ base h₀ L m s Q E B F X N T hk hne hl hpre hpost hys hlen hi hr hp hd9 hu hret
  unfold News at N
  have N0 : News h₀ L s.heap [(bx, bo l i r ti tr n), (l, LCg.lst ys)] := by
    intro p hp9
    rcases List.mem_cons.mp hp9 with rfl | hp9
    · exact N _ (List.mem_append.mpr (.inr (List.mem_cons_self ..)))
    · rw [List.mem_singleton.mp hp9]; exact N _ (List.mem_append.mpr (.inr (List.mem_cons_of_mem _ hl)))
  have hne9 : @Ne Nat bx l := hne
  refine wpAny_call ?_
  k_dflt (walk_at "my_enterD")
  intro g1 L1 h1 hg1 FG1 F1 N1 B1 X1 T1
  (try dsimp only)
  (try k_lift B1)
  (try k_fold)
  k_steps
  all_goals (refine' hret _ _ _ _ _ _ _ _ ?e1 ?e2 ?e3 ?e4 (upD N hl hpre hpost hg1 ?e5 ?e6); (case e5 => assumption); (case e6 => assumption); (case e4 => k_asm); (case e1 => exact ⟨Int.fmod_nonneg_of_pos _ hp.1, Int.fmod_lt_of_pos _ hp.1⟩); (case e2 => omega); (case e3 => first | omega | exact Int.fmod_nonneg_of_pos _ (by decide)))
set_option hygiene false in
local macro_rules | `(tactic| walk_at "call ref") => `(tactic| (k_here; (with_reducible show wpAny _ _ (call (Value.ref 260) _) _ _ _); k_dflt (refine' DrC.use (c_draw _ _ _ _ _ _ _ _ _ _ _ _ _ [] _ _ _) ?k1 ?k2 ?k3 ?k4 ?k5 ?kK ?kne ?kl ?kpre ?kpost ?kys ?klen ?ki ?kr ?kp ?kd ?ku ?_; walk_at "use_dr")))
theorem c_operand (w mean mg mb) (bx l : Addr) (ys : List Value) (ns : List Int) (i r : Int) (ti tr : CbTok) (n : Nat) (pre post : List (Addr × Obj)) (k : Int) (t0 : CbTok) : DrC w mean mg mb 10 267 bx l ys ns i r ti tr n pre post (0 ≤ k ∧ k ≤ 262143) [.ref bx, .int k t0] (fun v => 0 ≤ v ∧ v ≤ k) := by
  unfold DrC
  k_fill
  intro dp un gd cn cs a0 ccd cl outer A₀ base h₀ L m s Q E B F X N T hk hne hl hpre hpost hys hlen hi hr hp hd9 hu hret
  unfold News at N
  have N0 : News h₀ L s.heap [(bx, bo l i r ti tr n), (l, LCg.lst ys)] := by
    intro p hp9
    rcases List.mem_cons.mp hp9 with rfl | hp9
    · exact N _ (List.mem_append.mpr (.inr (List.mem_cons_self ..)))
    · rw [List.mem_singleton.mp hp9]; exact N _ (List.mem_append.mpr (.inr (List.mem_cons_of_mem _ hl)))
  have hne9 : @Ne Nat bx l := hne
  refine wpAny_call ?_
  k_dflt (walk_at "my_enterD")
  intro g1 L1 h1 hg1 FG1 F1 N1 B1 X1 T1
  (try dsimp only)
  (try k_lift B1)
  (try k_fold)
  k_steps
  all_goals (refine' hret _ _ _ _ _ _ _ _ ?e1 ?e2 ?e3 ?e4 (upD N hl hpre hpost hg1 ?e5 ?e6); (case e5 => assumption); (case e6 => first | assumption | exact drop1 (by assumption)); (case e4 => k_asm); (case e1 => first | omega | (dsimp only; omega) | exact menu2 (by omega) (by omega) hp.1); (case e2 => omega); (case e3 => omega))
section
theorem and3 (x : Int) : Builtin.bitAnd x 3 = x % 4 := kbt_mask x 2
theorem and1 (x : Int) : Builtin.bitAnd x 1 = x % 2 := kbt_mask x 1
theorem fd4 (x : Int) : x.fdiv 4 = x / 4 := Int.fdiv_eq_ediv_of_nonneg x (by decide)
theorem fd16' (x : Int) : x.fdiv 16 = x / 16 := Int.fdiv_eq_ediv_of_nonneg x (by decide)
theorem fd128 (x : Int) : x.fdiv 128 = x / 128 := Int.fdiv_eq_ediv_of_nonneg x (by decide)
theorem mdL_at : ∀ j, j < 38 → 0 ≤ mdL.getD j 0 ∧ mdL.getD j 0 < 256 := by decide
open PySem.Calls PySem.Spec in
theorem item_md {prog : Program} {w : World} {A : Around} {E : Value → Shared → Prop} {s : Shared} {value slice : PySem.Expr} {l : Addr} {vs : List Value} {i M : Int} {u : Tok} {Q : Value → Shared → Prop} (hl : s.heap.IsList l vs.toArray) (hw : IntsAre vs mdL) (hi : 0 ≤ i ∧ i < 38 ∧ mdL.getD i.toNat 0 = M) (h : ∀ t', Q (.int M t') s)
    (hs : subscripted slice false (.ref l) (.int i u) = operate [.ref l, .int i u] (getItem (.ref l) (.int i u)) := by with_unfolding_all rfl) :
    wpAny (model prog w) A (subscriptTail value slice (.ref l) (.int i u)) Q E s := by
  obtain ⟨h0, h1, rfl⟩ := hi
  have e : mdL.length = 38 := by decide
  have hlt : i.toNat < mdL.length := by omega
  obtain ⟨k, t', hv, hk⟩ := IntsAre.at hw i.toNat (vs.getD i.toNat .none) (by
    have := IntsAre.length hw
    rw [List.getD_eq_getElem?_getD, List.getElem?_eq_getElem (by omega)]; rfl)
  have hk' : mdL.getD i.toNat 0 = k := by rw [List.getD_eq_getElem?_getD, hk]; rfl
  rw [hk'] at h
  have hv' : vs[i.toNat]? = some (.int k t') := by
    rw [← hv, List.getD_eq_getElem?_getD]
    have := IntsAre.length hw
    rw [List.getElem?_eq_getElem (by omega)]; rfl
  exact tail_any hl.typeIs slot_list_getitem.lookup (wpAny_getItem_list hl h0 (by omega) (x := .int k t') (by simpa using hv') (h t')) hs
local macro_rules | `(tactic| walk_at "subscriptTail") => `(tactic| (k_here; (with_reducible show wpAny _ _ (subscriptTail _ _ (Value.ref 61) (Value.int _ _)) _ _ _); k_dflt (refine item_md (kun_topL (by k_asm) (by k_asm) (by k_is)) (by repeat' constructor) (by assumption) (fun t9 => ?_))))
theorem c_op_mode (w mean mg mb cbNews) (op M : Int) (t0 : CbTok) : Cl w mean mg mb 5 68 cbNews (0 ≤ op ∧ op < 38 ∧ mdL.getD op.toNat 0 = M) [.int op t0] (fun t => .int (M % 4) t) := by
  unfold Cl CbRet
  k_fill
  intro dp un gd cn cs a0 ccd cl outer A₀ base h₀ L m s Q E B F X N T hk hp hd9 hu hret
  refine wpAny_call ?_
  k_dflt (walk_at "my_enter")
  k_steps
  all_goals (refine' cb_retI (Q := Q) hret ?e1 ?e2 ?e3; (case e2 => k_asm); (case e3 => first | k_asm | (refine' cb_drop ?cbN ?cbS; (case cbN => assumption); (case cbS => kcj_all))); (case e1 => (exact and3 _)))

theorem c_b_mode (w mean mg mb cbNews) (op M : Int) (t0 : CbTok) : Cl w mean mg mb 5 75 cbNews (0 ≤ op ∧ op < 38 ∧ mdL.getD op.toNat 0 = M) [.int op t0] (fun t => .int (M / 16 % 4) t) := by
  unfold Cl CbRet
  k_fill
  intro dp un gd cn cs a0 ccd cl outer A₀ base h₀ L m s Q E B F X N T hk hp hd9 hu hret
  refine wpAny_call ?_
  k_dflt (walk_at "my_enter")
  k_steps
  all_goals (refine' cb_retI (Q := Q) hret ?e1 ?e2 ?e3; (case e2 => k_asm); (case e3 => first | k_asm | (refine' cb_drop ?cbN ?cbS; (case cbN => assumption); (case cbS => kcj_all))); (case e1 => (rw [← fd16']; exact and3 _)))

theorem c_c_mode (w mean mg mb cbNews) (op M : Int) (t0 : CbTok) : Cl w mean mg mb 5 82 cbNews (0 ≤ op ∧ op < 38 ∧ mdL.getD op.toNat 0 = M) [.int op t0] (fun t => .int (M / 4 % 4) t) := by
  unfold Cl CbRet
  k_fill
  intro dp un gd cn cs a0 ccd cl outer A₀ base h₀ L m s Q E B F X N T hk hp hd9 hu hret
  refine wpAny_call ?_
  k_dflt (walk_at "my_enter")
  k_steps
  all_goals (refine' cb_retI (Q := Q) hret ?e1 ?e2 ?e3; (case e2 => k_asm); (case e3 => first | k_asm | (refine' cb_drop ?cbN ?cbS; (case cbN => assumption); (case cbS => kcj_all))); (case e1 => (rw [← fd4]; exact and3 _)))

theorem c_test_a (w mean mg mb cbNews) (op M : Int) (t0 : CbTok) : Cl w mean mg mb 5 89 cbNews (0 ≤ op ∧ op < 38 ∧ mdL.getD op.toNat 0 = M) [.int op t0] (fun _ => .bool (M / 64 % 2 == 1)) := by
  unfold Cl CbRet
  k_fill
  intro dp un gd cn cs a0 ccd cl outer A₀ base h₀ L m s Q E B F X N T hk hp hd9 hu hret
  refine wpAny_call ?_
  k_dflt (walk_at "my_enter")
  k_steps
  all_goals (refine' cb_retB (Q := Q) hret ?e1 ?e2 ?e3; (case e2 => k_asm); (case e3 => first | k_asm | (refine' cb_drop ?cbN ?cbS; (case cbN => assumption); (case cbS => kcj_all))); (case e1 => (rw [← fd64]; first | (rw [← and1]; rfl) | (trace_state; fail))))

theorem c_test_t (w mean mg mb cbNews) (op M : Int) (t0 : CbTok) : Cl w mean mg mb 5 96 cbNews (0 ≤ op ∧ op < 38 ∧ mdL.getD op.toNat 0 = M) [.int op t0] (fun _ => .bool (M / 128 % 2 == 1)) := by
  unfold Cl CbRet
  k_fill
  intro dp un gd cn cs a0 ccd cl outer A₀ base h₀ L m s Q E B F X N T hk hp hd9 hu hret
  refine wpAny_call ?_
  k_dflt (walk_at "my_enter")
  k_steps
  all_goals (refine' cb_retB (Q := Q) hret ?e1 ?e2 ?e3; (case e2 => k_asm); (case e3 => first | k_asm | (refine' cb_drop ?cbN ?cbS; (case cbN => assumption); (case cbS => kcj_all))); (case e1 => (rw [← fd128]; first | (rw [← and1]; rfl) | (trace_state; fail))))

theorem Cl.pre {w : World} {mean : ExcName → Option Value} {mg mb : Str → Option Value} {lv : Nat} {f : Addr} {news : List (Addr × Obj)} {pre : Prop} {vs : List Value} {R : Tok → Value} (C : Cl w mean mg mb lv f news pre vs R) (hp : pre) : Cl w mean mg mb lv f news True vs R :=
  fun _ _ _ _ _ _ _ _ _ _ _ _ _ _ _ _ _ B F X N T hk _ => C _ _ _ _ _ _ _ _ _ _ _ _ _ _ _ _ _ B F X N T hk hp
theorem d_op_mode (w mean mg mb cbNews) {i : Nat} {M : Int} (hi : i < 38) (hM : mdL.getD i 0 = M) (t0 : CbTok) : Cl w mean mg mb 5 68 cbNews True [.int (i : Int) t0] (fun t => .int (M % 4) t) := (c_op_mode w mean mg mb cbNews (i : Int) M t0).pre ⟨by omega, by omega, hM⟩
theorem d_b_mode (w mean mg mb cbNews) {i : Nat} {M : Int} (hi : i < 38) (hM : mdL.getD i 0 = M) (t0 : CbTok) : Cl w mean mg mb 5 75 cbNews True [.int (i : Int) t0] (fun t => .int (M / 16 % 4) t) := (c_b_mode w mean mg mb cbNews (i : Int) M t0).pre ⟨by omega, by omega, hM⟩
theorem d_c_mode (w mean mg mb cbNews) {i : Nat} {M : Int} (hi : i < 38) (hM : mdL.getD i 0 = M) (t0 : CbTok) : Cl w mean mg mb 5 82 cbNews True [.int (i : Int) t0] (fun t => .int (M / 4 % 4) t) := (c_c_mode w mean mg mb cbNews (i : Int) M t0).pre ⟨by omega, by omega, hM⟩
theorem d_test_a (w mean mg mb cbNews) {i : Nat} {M : Int} (hi : i < 38) (hM : mdL.getD i 0 = M) (t0 : CbTok) : Cl w mean mg mb 5 89 cbNews True [.int (i : Int) t0] (fun t => .bool (M / 64 % 2 == 1)) := (c_test_a w mean mg mb cbNews (i : Int) M t0).pre ⟨by omega, by omega, hM⟩
theorem d_test_t (w mean mg mb cbNews) {i : Nat} {M : Int} (hi : i < 38) (hM : mdL.getD i 0 = M) (t0 : CbTok) : Cl w mean mg mb 5 96 cbNews True [.int (i : Int) t0] (fun t => .bool (M / 128 % 2 == 1)) := (c_test_t w mean mg mb cbNews (i : Int) M t0).pre ⟨by omega, by omega, hM⟩
end
section
abbrev TabC (w : World) (mean : ExcName → Option Value) (mg mb : Str → Option Value) (lv : Nat) (f : Addr) : Prop :=
  ∀ (dp un : Nat) (gd : Option (List Code)) (cn : Str) (cs : Scope) (a : Addr) (ccd : Value) (cl : List (Str × Addr)) (outer : List Env) (A₀ : Around) (base h₀ : Heap) (L : Addr) (m : Str → Option Value) (s : Shared) (Q E : Value → Shared → Prop),
    Below A₀ base outer h₀ → Fr h₀ L s.heap m → (hd.heap_39 w.params).In h₀ → News h₀ L s.heap [] →
    Top vw (looseW vw [Str.ofString "SIZE_BX", Str.ofString "POS_A", Str.ofString "POS_C", Str.ofString "POS_B", Str.ofString "POS_BX", Str.ofString "MAXARG_A", Str.ofString "MAXARG_B", Str.ofString "MAXARG_C", Str.ofString "MAXARG_BX", Str.ofString "MAXARG_SBX", Str.ofString "MAX_WORD", Str.ofString "BITRK", Str.ofString "OP_NAMES", Str.ofString "OP_MODES"]) mean mg mb h₀ →
    cs.kind = .function → dp + lv < recursionLimit → un + 8 * lv < cLine →
    (∀ (T : Addr) (vs : List Value) (ts : List (Addr × Obj)) (h' : Heap) (tk' : Nat), RowsUp RowIs 38 vs ts → Fr h₀ L h' m → News h₀ L h' ((T, LCg.lst vs) :: ts) → LCg.Off1 T ts → Q (.ref T) { s with heap := h', toks := tk' }) →
    wpAny (model PySem.Challenge.rw_nt0633_01.row.prog w) (ktrTop dp un gd cn cs L a ccd cl outer) (call (.ref f) []) Q E s
theorem TabC.use {w : World} {mean : ExcName → Option Value} {mg mb : Str → Option Value} {lv : Nat} {f : Addr}
    (C : TabC w mean mg mb lv f) {dp un : Nat} {gd : Option (List Code)} {cn : Str} {cs : Scope} {a : Addr} {ccd : Value} {cl : List (Str × Addr)} {outer : List Env} {A₀ : Around} {base h₀ : Heap} {L : Addr} {m : Str → Option Value} {s : Shared} {Q E : Value → Shared → Prop}
    (B : Below A₀ base outer h₀) (F : Fr h₀ L s.heap m) (X : (hd.heap_39 w.params).In h₀) (N : News h₀ L s.heap [])
    (T : Top vw (looseW vw [Str.ofString "SIZE_BX", Str.ofString "POS_A", Str.ofString "POS_C", Str.ofString "POS_B", Str.ofString "POS_BX", Str.ofString "MAXARG_A", Str.ofString "MAXARG_B", Str.ofString "MAXARG_C", Str.ofString "MAXARG_BX", Str.ofString "MAXARG_SBX", Str.ofString "MAX_WORD", Str.ofString "BITRK", Str.ofString "OP_NAMES", Str.ofString "OP_MODES"]) mean mg mb h₀)
    (hk : cs.kind = .function) (hd' : dp + lv < recursionLimit) (hu : un + 8 * lv < cLine)
    (ret : ∀ (T : Addr) (vs : List Value) (ts : List (Addr × Obj)) (h' : Heap) (tk' : Nat), RowsUp RowIs 38 vs ts → Fr h₀ L h' m → News h₀ L h' ((T, LCg.lst vs) :: ts) → LCg.Off1 T ts → Q (.ref T) { s with heap := h', toks := tk' }) :
    wpAny (model PySem.Challenge.rw_nt0633_01.row.prog w) (ktrTop dp un gd cn cs L a ccd cl outer) (call (.ref f) []) Q E s :=
  C _ _ _ _ _ _ _ _ _ _ _ _ _ _ _ _ _ B F X N T hk hd' hu ret
local macro_rules | `(tactic| walk_at "eval ListComp") => `(tactic| (k_here; k_dflt (refine ListComp_S (F₀ := by k_asm) (by with_unfolding_all rfl) (by decide) (by rfl) (by decide) (by rfl) ?_)))
local macro_rules | `(tactic| walk_at "call builtin:str.split") => `(tactic| (k_here; (refine split_tab (by k_asm) (by k_asm) (by decide) (by exact split_words) ?_ (by kspl_size)); intro D' vs' h' k' hn9 hw9 F' N' l1; (try k_lt l1)))
local macro_rules | `(tactic| walk_at "call builtin:len") => `(tactic| (k_here; (with_reducible show wpAny _ _ (call (Value.builtin "len") [Value.ref _]) _ _ _); k_dflt (refine' kun_lenL (k := 76) ?k1 ?k2 ?k3 ?_; (case k1 => exact News.isList (by k_asm) (by k_mem)); (case k2 => (rw [List.size_toArray]; omega)); (case k3 => decide); k_whole)))
theorem c_law_table (w mean mg mb) : TabC w mean mg mb 10 248 := by
  unfold TabC
  k_fill
  intro dp un gd cn cs a0 ccd cl outer A₀ base h₀ L m s Q E B F X N T hk hd9 hu hret
  refine wpAny_call ?_
  k_dflt (walk_at "my_enterC")
  walk_at "my_walk"
  (rename IsRange _ _ _ _ _ _ _ _ => rgX); (rename Fr _ _ _ _ => lF'); (rename News _ _ _ _ => lN')
  refine CompSrcS.intro 38 (by rfl) lF' lN' rgX (by decide) (by decide) (by decide) (fun g9 => ?_)
  refine comp_tab (R := RowIs) (fun i v I oI C oC D ys ts m₂ h tk E' hi hv hC' hx' F' N' off' ne' => ?_) (fun ys ts H => ?_)
  · obtain ⟨t9, rfl⟩ := hv
    (try simp only [LCg.Off3, and_true] at off')
    clear rgX lF' lN'
    walk_at "my_walk"
    refine item_wd (2 * i) (News.isList (by k_asm) (by k_mem)) (by assumption) (by omega) (by omega) (fun t8 => ?_)
    walk_at "my_walk"
    refine item_wd (2 * i + 1) (News.isList (by k_asm) (by k_mem)) (by assumption) (by omega) (by omega) (fun t7 => ?_)
    walk_at "my_walk"
    (rename Fr _ _ _ _ => lF'); (rename News _ _ _ _ => lN'); (rename (_ ∧ _ ∧ _ ∧ _ ∧ _ ∧ AllLt _ _) => l9)
    exact turn_end lF' lN' off' l9 ⟨rfl, _, _, _, rfl⟩
  · intro D9 h9 tk9 F9 N9 o9
    (try dsimp only)
    walk_at "my_walk"
    (rename Fr _ _ _ _ => lF'); (rename News _ _ _ _ => lN')
    exact hret D9 ys ts h9 tk9 H lF' (fun p hp => lN' p (by
      rcases List.mem_cons.mp hp with hp | hp
      · rw [hp]; exact List.mem_cons_self ..
      · exact List.mem_cons_of_mem _ (List.mem_cons_of_mem _ (List.mem_cons_of_mem _ hp)))) o9.2.2
end
section
set_option hygiene false in
local macro_rules | `(tactic| walk_at "call ref") => `(tactic| (k_here; (with_reducible show wpAny _ _ (call (Value.ref 68) _) _ _ _); (rename @LT.lt Nat _ _ 38 => hi8); k_dflt (refine' Cl.use (d_op_mode _ _ _ _ _ hi8 rfl _) ?k1 ?k2 ?k3 ?k4 ?k5 ?kK ?kp ?kd ?ku ?_; walk_at "use_cl")))
set_option hygiene false in
local macro_rules | `(tactic| walk_at "call ref") => `(tactic| (k_here; (with_reducible show wpAny _ _ (call (Value.ref 75) _) _ _ _); (rename @LT.lt Nat _ _ 38 => hi8); k_dflt (refine' Cl.use (d_b_mode _ _ _ _ _ hi8 rfl _) ?k1 ?k2 ?k3 ?k4 ?k5 ?kK ?kp ?kd ?ku ?_; walk_at "use_cl")))
set_option hygiene false in
local macro_rules | `(tactic| walk_at "call ref") => `(tactic| (k_here; (with_reducible show wpAny _ _ (call (Value.ref 82) _) _ _ _); (rename @LT.lt Nat _ _ 38 => hi8); k_dflt (refine' Cl.use (d_c_mode _ _ _ _ _ hi8 rfl _) ?k1 ?k2 ?k3 ?k4 ?k5 ?kK ?kp ?kd ?ku ?_; walk_at "use_cl")))
set_option hygiene false in
local macro_rules | `(tactic| walk_at "call ref") => `(tactic| (k_here; (with_reducible show wpAny _ _ (call (Value.ref 89) _) _ _ _); (rename @LT.lt Nat _ _ 38 => hi8); k_dflt (refine' Cl.use (d_test_a _ _ _ _ _ hi8 rfl _) ?k1 ?k2 ?k3 ?k4 ?k5 ?kK ?kp ?kd ?ku ?_; walk_at "use_cl")))
set_option hygiene false in
local macro_rules | `(tactic| walk_at "call ref") => `(tactic| (k_here; (with_reducible show wpAny _ _ (call (Value.ref 96) _) _ _ _); (rename @LT.lt Nat _ _ 38 => hi8); k_dflt (refine' Cl.use (d_test_t _ _ _ _ _ hi8 rfl _) ?k1 ?k2 ?k3 ?k4 ?k5 ?kK ?kp ?kd ?ku ?_; walk_at "use_cl")))
local macro_rules | `(tactic| walk_at "call ref") => `(tactic| (k_here; (with_reducible show wpAny _ _ (call (Value.ref 248) _) _ _ _); k_dflt (refine' TabC.use (c_law_table _ _ _ _) ?k1 ?k2 ?k3 ?k4 ?k5 ?kK ?kd ?ku ?_; (case k1 => k_asm); (case k2 => k_asm); (case k3 => k_asm); (case k4 => k_asm); (case k5 => k_asm); (case kK => first | exact rfl | assumption); (case kd => ktr_room); (case ku => ktr_units); intro T9 vs9 ts9 h9 tk9 H9 F9 N9 O9; (try dsimp only); (try k_fold))))
local macro_rules | `(tactic| walk_at "call builtin:len") => `(tactic| (k_here; (with_reducible show wpAny _ _ (call (Value.builtin "len") [Value.ref _]) _ _ _); k_dflt (refine' kun_lenL (k := 38) ?k1 ?k2 ?k3 ?_; (case k1 => exact News.isList (by k_asm) (by k_mem)); (case k2 => (rw [List.size_toArray]; (rename RowsUp _ _ _ _ => hR9); rw [hR9.len]; rfl)); (case k3 => decide); k_whole)))
local macro_rules | `(tactic| walk_at "eval ListComp") => `(tactic| (k_here; k_dflt (refine LCp.ListComp_P (F₀ := by k_asm) (by with_unfolding_all rfl) (by decide) (by rfl) (by decide) (by rfl) (by rfl) (by decide) ?_)))
local macro_rules | `(tactic| walk_at "getMethod str") => `(tactic| (k_here; (refine gm_encode ?_)))
local macro_rules | `(tactic| walk_at "call builtin:str.encode") => `(tactic| (k_here; (refine encode_nm (by assumption) (fun t7 k7 => ?_))))
local macro_rules | `(tactic| walk_at "call type:list") => `(tactic| (k_here; (with_reducible show wpAny _ _ (call (Value.type _) [Value.ref 15]) _ _ _); k_dflt (refine' list_copyK ?k1 ?k2 ?k3 ?_ ?z; (case k1 => k_asm); (case k2 => k_asm); (case k3 => exact kun_topL (by k_asm) (by k_asm) (by k_is)); (case z => decide)); intro D' c' h' F' N' l1; (try k_lt l1); (try k_sweep)))
local macro_rules | `(tactic| walk_at "compareOp NotEq ref ref") => `(tactic| (k_here; (rename NamesUp _ _ => hB9); k_dflt (refine' ne_names ?hl ?hb ?hy ?hz ?hu ?_; (case hl => exact News.isList (by k_asm) (by k_mem)); (case hb => exact News.isList (by k_asm) (by k_mem)); (case hy => exact hB9); (case hz => exact BytesAre.names (by repeat' constructor)); (case hu => ke_room))))
local macro_rules | `(tactic| walk_at "exec For Tuple Call cons nil") => `(tactic| (k_here; (rename Fr _ _ _ _ => lF'); (with_unfolding_all refine' For_turns lF' ?_; k_whole)))
local macro_rules | `(tactic| walk_at "assign Tuple") => `(tactic| (k_here; (with_reducible show wpAny _ _ (assign (Expr.Tuple _ _ _) _ (Value.ref _)) _ _ _); (rename _ = Data.seq #[Value.str _ _, Value.str _ _] _ => hd8); (rename News _ _ _ _ => lN'); (rename @Membership.mem (Addr × Obj) _ _ _ _ => hm8); k_dflt (refine' unpackN_ ?F lN' ?T ?k1 ?k2 ?k3 ?_; (case F => k_asm); (case T => exact ⟨_, (lN' _ (mem4 hm8)).1, by assumption, _, hd8⟩); (case k1 => exact rfl); (case k2 => exact rfl); (case k3 => exact rfl)); intro h' F' N'; (try k_sweep)))
local macro_rules | `(tactic| walk_at "assign Tuple") => `(tactic| (k_here; (with_reducible show wpAny _ _ (assign (Expr.Tuple _ _ _) _ (Value.ref _)) _ _ _); k_dflt (refine' unpackN_ ?F ?N ?T ?k1 ?k2 ?k3 ?_; (case F => k_asm); (case N => k_asm); (case T => with_reducible assumption); (case k1 => exact rfl); (case k2 => exact rfl); (case k3 => exact rfl)); intro h' F' N'; (try k_sweep)))
local macro_rules | `(tactic| walk_at "subscriptTail") => `(tactic| (k_here; (rename @LT.lt Nat _ _ 38 => hi8); first
  | ((with_reducible show wpAny _ _ (subscriptTail _ _ (Value.str _ _) (Value.int _ _)) _ _ _); (refine item_td hi8 (by decide) (by decide) ?_))
  | ((with_reducible show wpAny _ _ (subscriptTail _ _ (Value.ref _) (Value.str _ _)) _ _ _); k_dflt (refine kys_item (knd := PySem.strKind _ _) (enc := PyData.str) PyProof.V.same_str (strKind_is _ _ _ _) (by k_tabat) ?_); k_dflt (refine kinds_at (by first | exact td_b _ hi8 | exact td_c _ hi8) (fun t9 => ?_)))
  | ((with_reducible show wpAny _ _ (subscriptTail _ _ (Value.ref _) (Value.int _ _)) _ _ _); k_dflt (refine item3 (by k_asm) (by k_mem) hi8 (fun t9 => ?_)))))
local macro_rules | `(tactic| walk_at "call type:int") => `(tactic| (k_here; (rename @LT.lt Nat _ _ 38 => hi8); (with_reducible refine int_td hi8 ?_)))
local macro_rules | `(tactic| walk_at "compareOp NotEq int int") => `(tactic| (k_here; (with_reducible refine ne_int_eq ?_)))
local macro_rules | `(tactic| walk_at "compareOp NotEq bool bool") => `(tactic| (k_here; (rename @LT.lt Nat _ _ 38 => hi8); (refine ne_bool_eq (by first | exact td_a _ hi8 | exact td_t _ hi8) ?_)))
theorem c_table (w mean mg mb cbNews) : Cl w mean mg mb 30 253 cbNews True [] (fun _ => .bool true) := by
  unfold Cl CbRet
  k_fill
  intro dp un gd cn cs a0 ccd cl outer A₀ base h₀ L m s Q E B F X N T hk hp hd9 hu hret
  unfold News at N
  refine wpAny_call ?_
  k_dflt (walk_at "my_enterS")
  intro g1 L1 h1 hg1 FG1 F1 N1 B1 X1 T1
  (try dsimp only)
  (try k_lift B1)
  (try k_fold)
  replace F1 : Fr g1 L1 h1 (fun _ => none) := F1
  walk_at "my_walk"
  (rename Fr _ _ _ _ => lF'); (rename News _ _ _ _ => lN'); (rename RowsUp _ _ _ _ => hR9)
  refine LCp.SrcLP.ledger (by rfl) lF' lN' (by k_mem) (by rw [List.size_toArray, hR9.len]; decide) (fun g9 => ?_)
  refine comp_names hR9 (fun p hp => List.mem_cons_of_mem _ (List.mem_cons_of_mem _ (List.mem_cons_of_mem _ hp))) (.inr ⟨_, by k_mem, rfl, _, rfl⟩) (fun i t t' I oI C oC D ys m₂ h tk E' hi hC' hx' hy' F' N' off' ne' => ?_) (fun ys hB => ?_)
  · (try simp only [LCg.Off3, and_true] at off')
    walk_at "my_walk"
  · clear lF' lN'
    intro D9 h9 tk9 F9 N9 o9
    (try dsimp only)
    iterate 8 (walk_at "my_step")
    (rename News _ _ _ _ => lN')
    have N5 := fun p hp => lN' p (List.mem_cons_of_mem _ (List.mem_cons_of_mem _ (List.mem_cons_of_mem _ hp)))
    change News _ _ _ _ at N5
    clear lN'
    walk_at "my_walk"
    (rename Fr _ _ _ _ => lF')
    refine loop_tab [Str.ofString "op", Str.ofString "name", Str.ofString "told"] (by rfl) lF' N5 hR9 (fun i I a P o n t t₁ t₂ oE oI u h tk hi hm9 hc9 hd9' hT9 hI9 F8 N8 => ?_) (fun u h tk F8 N8 => ?_)
    · clear lF' N5
      iterate 5 (walk_at "my_step")
      dsimp only
      walk_at "my_walk"
      (rename Fr _ _ _ _ => lF'); (rename News _ _ _ _ => lN')
      exact ⟨_, _, _, rfl, lF', (fun p hp => lN' p (by repeat (first | exact hp | refine List.mem_cons_of_mem _ ?_))), (by (intro z h2; (have h3 := h2); simp only [List.contains_cons, List.contains_nil, Bool.or_false, Bool.or_eq_false_iff, beq_eq_false_iff_ne, ne_eq] at h3; simp [h2, h3]))⟩
    · clear lF' N5
      walk_at "my_walk"
      refine' cb_retB (Q := Q) hret ?e1 ?e2 ?e3; (case e2 => k_asm); (case e3 => exact upN N hg1 (by assumption)); (case e1 => rfl)
end
section
set_option hygiene false in
local macro_rules | `(tactic| walk_at "call ref") => `(tactic| (k_here; (with_reducible show wpAny _ _ (call (Value.ref 260) _) _ _ _); k_dflt (refine' DrC.use (c_draw _ _ _ _ _ _ _ _ _ _ _ _ _ [_, _] _ _ _) ?k1 ?k2 ?k3 ?k4 ?k5 ?kK ?kne ?kl ?kpre ?kpost ?kys ?klen ?ki ?kr ?kp ?kd ?ku ?_; walk_at "use_dr")))
set_option hygiene false in
local macro_rules | `(tactic| walk_at "call ref") => `(tactic| (k_here; (with_reducible show wpAny _ _ (call (Value.ref 267) _) _ _ _); k_dflt (refine' DrC.use (c_operand _ _ _ _ _ _ _ _ _ _ _ _ _ [_, _] _ _ _) ?k1 ?k2 ?k3 ?k4 ?k5 ?kK ?kne ?kl ?kpre ?kpost ?kys ?klen ?ki ?kr ?kp ?kd ?ku ?_; walk_at "use_dr")))
set_option hygiene false in
local macro_rules | `(tactic| walk_at "call ref") => `(tactic| (k_here; (with_reducible show wpAny _ _ (call (Value.ref 260) _) _ _ _); k_dflt (refine' DrC.use (c_draw _ _ _ _ _ _ _ _ _ _ _ _ _ [_] _ _ _) ?k1 ?k2 ?k3 ?k4 ?k5 ?kK ?kne ?kl ?kpre ?kpost ?kys ?klen ?ki ?kr ?kp ?kd ?ku ?_; walk_at "use_dr")))
set_option hygiene false in
local macro_rules | `(tactic| walk_at "call ref") => `(tactic| (k_here; (with_reducible show wpAny _ _ (call (Value.ref 267) _) _ _ _); k_dflt (refine' DrC.use (c_operand _ _ _ _ _ _ _ _ _ _ _ _ _ [_] _ _ _) ?k1 ?k2 ?k3 ?k4 ?k5 ?kK ?kne ?kl ?kpre ?kpost ?kys ?klen ?ki ?kr ?kp ?kd ?ku ?_; walk_at "use_dr")))
set_option hygiene false in
local macro_rules | `(tactic| walk_at "call ref") => `(tactic| (k_here; (with_reducible show wpAny _ _ (call (Value.ref 260) _) _ _ _); k_dflt (refine' DrC.use (c_draw _ _ _ _ _ _ _ _ _ _ _ _ _ [] _ _ _) ?k1 ?k2 ?k3 ?k4 ?k5 ?kK ?kne ?kl ?kpre ?kpost ?kys ?klen ?ki ?kr ?kp ?kd ?ku ?_; walk_at "use_dr")))
set_option hygiene false in
local macro_rules | `(tactic| walk_at "call ref") => `(tactic| (k_here; (with_reducible show wpAny _ _ (call (Value.ref 267) _) _ _ _); k_dflt (refine' DrC.use (c_operand _ _ _ _ _ _ _ _ _ _ _ _ _ [] _ _ _) ?k1 ?k2 ?k3 ?k4 ?k5 ?kK ?kne ?kl ?kpre ?kpost ?kys ?klen ?ki ?kr ?kp ?kd ?ku ?_; walk_at "use_dr")))
set_option hygiene false in
local macro_rules | `(tactic| walk_at "call ref") => `(tactic| (k_here; (with_reducible show wpAny _ _ (call (Value.ref 288) _) _ _ _); k_dflt (refine' Cl.use (c_packed _ _ _ _ _ _ _ _ _ _ _ _ _ _ _) ?k1 ?k2 ?k3 ?k4 ?k5 ?kK ?kp ?kd ?ku ?_; walk_at "use_cl")))
set_option hygiene false in
local macro_rules | `(tactic| walk_at "call ref") => `(tactic| (k_here; (with_reducible show wpAny _ _ (call (Value.ref 300) _) _ _ _); k_dflt (refine' Cl.use (c_operands _ _ _ _ _ _ _) ?k1 ?k2 ?k3 ?k4 ?k5 ?kK ?kp ?kd ?ku ?_; walk_at "use_cl")))
set_option hygiene false in
local macro_rules | `(tactic| walk_at "call ref") => `(tactic| (k_here; (with_reducible show wpAny _ _ (call (Value.ref 293) _) _ _ _); k_dflt (refine' Cl.use (c_set_right _ _ _ _ _ _ _ _ _ _ _ _ _ _ _ _ _) ?k1 ?k2 ?k3 ?k4 ?k5 ?kK ?kp ?kd ?ku ?_; walk_at "use_cl")))
set_option hygiene false in
local macro_rules | `(tactic| walk_at "call ref") => `(tactic| (k_here; (with_reducible show wpAny _ _ (call (Value.ref 243) _) _ _ _); k_dflt (refine' Cl.use (c_word_in _ _ _ _ _ _ _) ?k1 ?k2 ?k3 ?k4 ?k5 ?kK ?kp ?kd ?ku ?_; walk_at "use_cl")))
set_option hygiene false in
local macro_rules | `(tactic| walk_at "call ref") => `(tactic| (k_here; (with_reducible show wpAny _ _ (call (Value.ref 243) _) _ _ _); k_dflt (refine' Cl.use (c_word_no _ _ _ _ _ _ _) ?k1 ?k2 ?k3 ?k4 ?k5 ?kK ?kp ?kd ?ku ?_; walk_at "use_cl")))
set_option hygiene false in
local macro_rules | `(tactic| walk_at "call ref") => `(tactic| (k_here; (with_reducible show wpAny _ _ (call (Value.ref 243) _) _ _ _); k_dflt (refine' Cl.use (c_word_yes _ _ _ _ _ _ _) ?k1 ?k2 ?k3 ?k4 ?k5 ?kK ?kp ?kd ?ku ?_; walk_at "use_cl")))
set_option hygiene false in
local macro_rules | `(tactic| walk_at "call ref") => `(tactic| (k_here; (with_reducible show wpAny _ _ (call (Value.ref 253) _) _ _ _); k_dflt (refine' Cl.use (c_table _ _ _ _ _ ) ?k1 ?k2 ?k3 ?k4 ?k5 ?kK ?kp ?kd ?ku ?_; walk_at "use_cl")))
local macro_rules | `(tactic| walk_at "ite") => `(tactic| (first | with_reducible refine ite_bne ?_ | with_reducible refine ite_neq ?_))
local macro_rules | `(tactic| walk_at "eval Call Name cons nil") => `(tactic| (k_here; refine Call_ ?_))
local macro_rules | `(tactic| walk_at "exec For Name Subscript cons nil") => `(tactic| (k_here; (rename Fr _ _ _ _ => lF'); (with_unfolding_all refine' For_invVF lF' ?k1 ?k2 ?_; (case k1 => exact rfl); (case k2 => exact rfl); k_whole)))
local macro_rules | `(tactic| walk_at "exec For Name Call cons nil") => `(tactic| (k_here; (rename Fr _ _ _ _ => lF'); (with_unfolding_all refine' For_invVF lF' ?k1 ?k2 ?_; (case k1 => exact rfl); (case k2 => exact rfl); k_whole)))
local macro_rules | `(tactic| walk_at "pyIter ref") => `(tactic| ((with_reducible show wpAny _ _ (pyIter (Value.ref _)) (fun it s₂ => LoopAtV _ _ _ _ _ _ _ _ _ it s₂) _ _); (rename Fr _ _ _ _ => lF'); (rename News _ _ _ _ => lN'); (with_unfolding_all refine' loop1 ?hh ?hi ?hr lF' lN' (fun k' t' r' tr' h' tk' own' hr' hoff' F' N' => ?_) (fun u' r' tr' h' tk' hr' F' N' => ?_); (case hh => exact rfl); (case hi => assumption); (case hr => decide)); (all_goals (try clear lF' lN')); (all_goals (try simp only [List.nil_append, List.cons_append, List.append_nil] at N')); (all_goals (try k_fold))))
local macro_rules | `(tactic| walk_at "pyIter ref") => `(tactic| ((with_reducible show wpAny _ _ (pyIter (Value.ref _)) (fun it s₂ => LoopAtV _ _ _ _ _ _ _ _ _ it s₂) _ _); (rename Fr _ _ _ _ => lF'); (rename News _ _ _ _ => lN'); (rename IsRange _ _ _ _ _ _ _ _ => rgX); (with_unfolding_all refine' loop2 [Str.ofString "op", Str.ofString "a", Str.ofString "b", Str.ofString "c", Str.ofString "bx", Str.ofString "word"] ?hh ?hg ?hs ?hn ?hi ?hr lF' lN' (fun k' t' i' r' ti' tr' u' h' tk' own' hi' hr' hoff' F' N' => ?_) (fun h' tk' L' m' F' hL' => ?_); (case hh => exact rfl); (case hg => exact rgX); (case hs => exact small_one (by l_bnd) (by l_bnd) (by l_bnd) (by l_bnd)); (case hn => first | exact rangeSize_nat _ _ | rfl); (case hi => omega); (case hr => omega)); (all_goals (try clear lF' lN')); (all_goals (try simp only [List.nil_append, List.cons_append, List.append_nil] at N')); (all_goals (try k_fold))))
local macro_rules | `(tactic| walk_at "InvEndN") => `(tactic| (refine InvEndN.intro (by assumption) (by assumption) ⟨_, _, rfl, ?hr, by (intro z h1; first | rfl | (simp [h1]; done) | (simp_all; done))⟩ (by rfl) (by (with_unfolding_all ((try simp only [List.nil_append, List.cons_append]); k_allIn))) (by (intro p hp; k_ownIn)); (case hr => first | omega | exact Int.fmod_nonneg_of_pos _ (by decide))))
local macro_rules | `(tactic| walk_at "InvEndN") => `(tactic| (refine InvEndN.intro (by assumption) (by assumption) ⟨_, _, _, _, rfl, ?hi, ?hr, ?hz⟩ (by rfl) (by (with_unfolding_all ((try simp only [List.nil_append, List.cons_append]); k_allIn))) (by (intro p hp; k_ownIn)); (case hi => omega); (case hr => omega); (case hz => (intro z h1 h2; (have h3 := h2); simp only [List.contains_cons, List.contains_nil, Bool.or_false, Bool.or_eq_false_iff, beq_eq_false_iff_ne, ne_eq] at h3; simp [h1, h2, h3]))))
theorem T : PySem.Challenge.rw_nt0633_01.Holds := hd (by
  k_go0
  all_goals try k_fold
  walk_at "my_walk")
end
end Mine
theorem PySem.Challenge.cw_nt0633_01_holds : PySem.Challenge.rw_nt0633_01.Holds := by
  exact Mine.T
