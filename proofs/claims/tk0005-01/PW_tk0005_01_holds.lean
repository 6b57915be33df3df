import PyProof.Rows.All
import Wide.All
import OpenK.AllK
import Wide.FinOn
import PySem.Challenge.RW_tk0005_01
set_option Elab.async false
set_option maxRecDepth 100000
set_option maxHeartbeats 8000000
set_option linter.all false
section
-- part HQ
open PySem PySem.W PyProof.Rows
namespace Mine
theorem keep {L H : Prop} (main : L → H) (hl : L) : H := main hl
structure Mark : Prop where
local macro_rules | `(tactic| k_head) => `(tactic| ((fail_if_success (have x9 : Mark := by assumption)); (have x8 : Mark := Mark.mk); apply keep; intro x7; (focus k_head); rotate_right 1; (focus (clear x8; (try (rename_i x6; clear x6)); refine' And.left (b := ?xT) ?xH)); rotate_left 3; (focus (exact And.right ?xH))))
open_top hd for PySem.Challenge.rw_tk0005_01
theorem and_split {L T H : Prop} (f : L ∧ T → H) (l : L) (t : T) : H := f ⟨l, t⟩
noncomputable section
def codeOf (o : Obj) : Obj := match o.data with
  | .func fd => { cls := .none, data := .func { name := fd.name, qualname := fd.qualname, params := fd.params, body := fd.body, scope := fd.scope, globals := 0, closure := [], defaults := .none, kwdefaults := .none } }
  | _ => o
def pick : List (Nat × Obj) → Nat → Obj
  | [], _ => default
  | (a, o) :: r, i => match Nat.beq a i with
    | true => o
    | false => pick r i
def mrg : Nat → Nat → List (Nat × Obj) → List (Nat × Obj) → List Obj
  | 0, _, _, _ => []
  | n + 1, i, [], X => (match X with
    | [] => []
    | (_, x) :: X' => x :: mrg n (i + 1) [] X')
  | n + 1, i, (a, o) :: K, X => match Nat.beq a i with
    | true => o :: mrg n (i + 1) K X
    | false => (match X with
      | [] => []
      | (_, x) :: X' => x :: mrg n (i + 1) ((a, o) :: K) X')
def extra (P : Params) : List (Nat × Obj) := [(0, boot_o_0 P), (1, boot_o_1 P), (4, boot_o_4 P), (5, boot_o_5 P), (6, boot_o_6 P), (7, boot_o_7 P), (8, boot_o_8 P), (9, boot_o_9 P), (10, boot_o_10 P), (11, { cls := PySem.Value.type "tuple", data := PySem.Data.seq #[] }), (12, { cls := PySem.Value.none, data := PySem.Data.fields #[PySem.Value.int 3 0, PySem.Value.int 0 0, PySem.Value.ref 21, PySem.Value.int 9 0, PySem.Value.int 0 0, PySem.Value.ref 43, PySem.Value.int 15 0, PySem.Value.int 0 0, PySem.Value.ref 50, PySem.Value.int 25 0, PySem.Value.int 0 0, PySem.Value.ref 57, PySem.Value.int 40 0, PySem.Value.int 0 0, PySem.Value.ref 64, PySem.Value.int 46 0, PySem.Value.int 0 0, PySem.Value.ref 71, PySem.Value.int 48 0, PySem.Value.int 0 0, PySem.Value.ref 78, PySem.Value.int 55 0, PySem.Value.int 0 0, PySem.Value.ref 85, PySem.Value.int 62 0, PySem.Value.int 0 0, PySem.Value.ref 93, PySem.Value.int 64 0, PySem.Value.int 0 0, PySem.Value.ref 100, PySem.Value.int 67 0, PySem.Value.int 0 0, PySem.Value.ref 107, PySem.Value.int 70 0, PySem.Value.int 0 0, PySem.Value.ref 114, PySem.Value.int 72 0, PySem.Value.int 0 0, PySem.Value.ref 121, PySem.Value.int 74 0, PySem.Value.int 0 0, PySem.Value.ref 128, PySem.Value.int 76 0, PySem.Value.int 0 0, PySem.Value.ref 135, PySem.Value.int 84 0, PySem.Value.int 0 0, PySem.Value.ref 142, PySem.Value.int 98 0, PySem.Value.int 0 0, PySem.Value.ref 149, PySem.Value.int 101 0, PySem.Value.int 0 0, PySem.Value.ref 156, PySem.Value.int 105 0, PySem.Value.int 0 0, PySem.Value.ref 163, PySem.Value.int 107 0, PySem.Value.int 0 0, PySem.Value.ref 170, PySem.Value.int 111 0, PySem.Value.int 0 0, PySem.Value.ref 177, PySem.Value.int 116 0, PySem.Value.int 0 0, PySem.Value.ref 184, PySem.Value.int 118 0, PySem.Value.int 0 0, PySem.Value.ref 191, PySem.Value.int 124 0, PySem.Value.int 0 0, PySem.Value.ref 198, PySem.Value.int 130 0, PySem.Value.int 0 0, PySem.Value.ref 205, PySem.Value.int 135 0, PySem.Value.int 0 0, PySem.Value.ref 212, PySem.Value.int 151 0, PySem.Value.int 0 0, PySem.Value.ref 219, PySem.Value.int 155 0, PySem.Value.int 0 0, PySem.Value.ref 226, PySem.Value.int 160 0, PySem.Value.int 0 0, PySem.Value.ref 233, PySem.Value.int 165 0, PySem.Value.int 0 0, PySem.Value.ref 238, PySem.Value.int 171 0, PySem.Value.int 0 0, PySem.Value.ref 243, PySem.Value.int 173 0, PySem.Value.int 0 0, PySem.Value.ref 250, PySem.Value.int 177 0, PySem.Value.int 0 0, PySem.Value.ref 255] }), (13, { cls := PySem.Value.type "code", data := PySem.Data.fields #[PySem.Value.str (PySem.Str.ofString "<module>") 182, PySem.Value.str (PySem.Str.ofString "<module>") 183, PySem.Value.str (PySem.Str.ofString "/claim/cut.py") 184, PySem.Value.int 1 0, PySem.Value.int 0 0, PySem.Value.int 0 0, PySem.Value.int 0 0, PySem.Value.int 0 0, PySem.Value.ref 11, PySem.Value.bool Bool.false, PySem.Value.int 181 0, PySem.Value.ref 12, PySem.Value.none, PySem.Value.none, PySem.Value.none, PySem.Value.none, PySem.Value.int 185 0, PySem.Value.int 1 0, PySem.Value.str (PySem.Str.ofString "/claim/cut.py") 186] }), (14, { cls := PySem.Value.type "frame", slots := #[Option.some (PySem.Value.ref 13), Option.some (PySem.Value.ref 3), Option.some (PySem.Value.ref 3), Option.none, Option.some (PySem.Value.str (PySem.Str.ofString "__main__") 164), Option.none, Option.some (PySem.Value.ref 0)] }), (16, { cls := PySem.Value.type "builtin_function_or_method", data := PySem.Data.fields #[PySem.Value.builtin "type.__prepare__", PySem.Value.type "type"] }), (17, { cls := PySem.Value.type "dict", data := PySem.Data.dict #[{ hash := PySem.PyData.keyHash P (PySem.Str.ofString "__module__"), key := PySem.Value.str (PySem.Str.ofString "__module__") 198, val := PySem.Value.str (PySem.Str.ofString "basicplus.values") 187 }, { hash := PySem.PyData.keyHash P (PySem.Str.ofString "__qualname__"), key := PySem.Value.str (PySem.Str.ofString "__qualname__") 200, val := PySem.Value.str (PySem.Str.ofString "BasicError") 199 }, { hash := PySem.PyData.keyHash P (PySem.Str.ofString "__firstlineno__"), key := PySem.Value.str (PySem.Str.ofString "__firstlineno__") 202, val := PySem.Value.int 3 201 }, { hash := PySem.PyData.keyHash P (PySem.Str.ofString "__init__"), key := PySem.Value.str (PySem.Str.ofString "__init__") 213, val := PySem.Value.ref 31 }, { hash := PySem.PyData.keyHash P (PySem.Str.ofString "__static_attributes__"), key := PySem.Value.str (PySem.Str.ofString "__static_attributes__") 216, val := PySem.Value.ref 32 }, { hash := PySem.PyData.keyHash P (PySem.Str.ofString "__classcell__"), key := PySem.Value.str (PySem.Str.ofString "__classcell__") 217, val := PySem.Value.ref 18 }] 6 }), (19, { cls := PySem.Value.type "tuple", data := PySem.Data.seq #[] }), (20, { cls := PySem.Value.none, data := PySem.Data.fields #[PySem.Value.int 5 0, PySem.Value.int 4 0, PySem.Value.ref 30] }), (21, { cls := PySem.Value.type "code", data := PySem.Data.fields #[PySem.Value.str (PySem.Str.ofString "BasicError") 193, PySem.Value.str (PySem.Str.ofString "BasicError") 194, PySem.Value.str (PySem.Str.ofString "/claim/cut.py") 195, PySem.Value.int 3 0, PySem.Value.int 0 0, PySem.Value.int 0 0, PySem.Value.int 0 0, PySem.Value.int 0 0, PySem.Value.ref 19, PySem.Value.bool Bool.false, PySem.Value.int 181 0, PySem.Value.ref 20, PySem.Value.none, PySem.Value.none, PySem.Value.none, PySem.Value.none, PySem.Value.int 196 0, PySem.Value.int 3 0, PySem.Value.str (PySem.Str.ofString "/claim/cut.py") 197] }), (22, { cls := PySem.Value.type "frame", slots := #[Option.some (PySem.Value.ref 21), Option.some (PySem.Value.ref 3), Option.some (PySem.Value.ref 17), Option.none, Option.some (PySem.Value.str (PySem.Str.ofString "basicplus.values") 187), Option.none, Option.some (PySem.Value.ref 0)] }), (26, { cls := PySem.Value.none, data := PySem.Data.fields #[] }), (29, codeOf (pick (Mine.hd.heap_39 P) 31)), (36, { cls := PySem.Value.type "super", data := PySem.Data.fields #[PySem.Value.ref 34, PySem.Value.ref 34, PySem.Value.ref 34] }), (37, { cls := PySem.Value.type "builtin_function_or_method", data := PySem.Data.fields #[PySem.Value.builtin "object.__init_subclass__", PySem.Value.ref 34] }), (39, { cls := PySem.Value.none, data := PySem.Data.fields #[] }), (42, codeOf (pick (Mine.hd.heap_39 P) 44)), (46, { cls := PySem.Value.none, data := PySem.Data.fields #[] }), (49, codeOf (pick (Mine.hd.heap_39 P) 51)), (53, { cls := PySem.Value.none, data := PySem.Data.fields #[] }), (56, codeOf (pick (Mine.hd.heap_39 P) 58)), (60, { cls := PySem.Value.none, data := PySem.Data.fields #[] }), (63, codeOf (pick (Mine.hd.heap_39 P) 65)), (67, { cls := PySem.Value.none, data := PySem.Data.fields #[] }), (70, codeOf (pick (Mine.hd.heap_39 P) 72)), (74, { cls := PySem.Value.none, data := PySem.Data.fields #[] }), (77, codeOf (pick (Mine.hd.heap_39 P) 79)), (81, { cls := PySem.Value.none, data := PySem.Data.fields #[] }), (84, codeOf (pick (Mine.hd.heap_39 P) 86)), (89, { cls := PySem.Value.none, data := PySem.Data.fields #[] }), (92, codeOf (pick (Mine.hd.heap_39 P) 94)), (96, { cls := PySem.Value.none, data := PySem.Data.fields #[] }), (99, codeOf (pick (Mine.hd.heap_39 P) 101)), (103, { cls := PySem.Value.none, data := PySem.Data.fields #[] }), (106, codeOf (pick (Mine.hd.heap_39 P) 108)), (110, { cls := PySem.Value.none, data := PySem.Data.fields #[] }), (113, codeOf (pick (Mine.hd.heap_39 P) 115)), (117, { cls := PySem.Value.none, data := PySem.Data.fields #[] }), (120, codeOf (pick (Mine.hd.heap_39 P) 122)), (124, { cls := PySem.Value.none, data := PySem.Data.fields #[] }), (127, codeOf (pick (Mine.hd.heap_39 P) 129)), (131, { cls := PySem.Value.none, data := PySem.Data.fields #[] }), (134, codeOf (pick (Mine.hd.heap_39 P) 136)), (138, { cls := PySem.Value.none, data := PySem.Data.fields #[] }), (141, codeOf (pick (Mine.hd.heap_39 P) 143)), (145, { cls := PySem.Value.none, data := PySem.Data.fields #[] }), (148, codeOf (pick (Mine.hd.heap_39 P) 150)), (152, { cls := PySem.Value.none, data := PySem.Data.fields #[] }), (155, codeOf (pick (Mine.hd.heap_39 P) 157)), (159, { cls := PySem.Value.none, data := PySem.Data.fields #[] }), (162, codeOf (pick (Mine.hd.heap_39 P) 164)), (166, { cls := PySem.Value.none, data := PySem.Data.fields #[] }), (169, codeOf (pick (Mine.hd.heap_39 P) 171)), (173, { cls := PySem.Value.none, data := PySem.Data.fields #[] }), (176, codeOf (pick (Mine.hd.heap_39 P) 178)), (180, { cls := PySem.Value.none, data := PySem.Data.fields #[] }), (183, codeOf (pick (Mine.hd.heap_39 P) 185)), (187, { cls := PySem.Value.none, data := PySem.Data.fields #[] }), (190, codeOf (pick (Mine.hd.heap_39 P) 192)), (194, { cls := PySem.Value.none, data := PySem.Data.fields #[] }), (197, codeOf (pick (Mine.hd.heap_39 P) 199)), (201, { cls := PySem.Value.none, data := PySem.Data.fields #[] }), (204, codeOf (pick (Mine.hd.heap_39 P) 206)), (208, { cls := PySem.Value.none, data := PySem.Data.fields #[] }), (211, codeOf (pick (Mine.hd.heap_39 P) 213)), (215, { cls := PySem.Value.none, data := PySem.Data.fields #[] }), (218, codeOf (pick (Mine.hd.heap_39 P) 220)), (222, { cls := PySem.Value.none, data := PySem.Data.fields #[] }), (225, codeOf (pick (Mine.hd.heap_39 P) 227)), (229, { cls := PySem.Value.none, data := PySem.Data.fields #[] }), (232, codeOf (pick (Mine.hd.heap_39 P) 234)), (236, { cls := PySem.Value.none, data := PySem.Data.fields #[] }), (237, codeOf (pick (Mine.hd.heap_39 P) 239)), (241, { cls := PySem.Value.none, data := PySem.Data.fields #[] }), (242, codeOf (pick (Mine.hd.heap_39 P) 244)), (246, { cls := PySem.Value.none, data := PySem.Data.fields #[] }), (249, codeOf (pick (Mine.hd.heap_39 P) 251)), (253, { cls := PySem.Value.none, data := PySem.Data.fields #[] }), (254, codeOf (pick (Mine.hd.heap_39 P) 256))]
def fin (P : Params) : List Obj := mrg 257 0 (Mine.hd.heap_39 P) (extra P)
def dictTake (e : Nat) (nm : Value) (o : Obj) : Obj := { o with data := match o.data with
  | .dict es _ => .dict ⟨match es.toList.take e with
    | [] => []
    | x :: r => { x with val := nm } :: r⟩ e
  | d => d }
def fieldsTake (t : Nat) (o : Obj) : Obj := { o with data := match o.data with
  | .fields xs => .fields ⟨xs.toList.take t⟩
  | d => d }
def cutL (m e t : Nat) (nm : Value) : List Obj → List Obj
  | a0 :: a1 :: a2 :: a3 :: a4 :: a5 :: a6 :: a7 :: a8 :: a9 :: a10 :: a11 :: a12 :: r => a0 :: a1 :: a2 :: dictTake e nm a3 :: a4 :: a5 :: a6 :: a7 :: a8 :: a9 :: a10 :: a11 :: fieldsTake (3 * t) a12 :: r.take (m - 13)
  | l => l
def cutH (P : Params) (m e t : Nat) (nm : Value) : Heap := { objs := ⟨cutL m e t nm (fin P)⟩ }
def cutA (P : Params) : Heap := { objs := ⟨[boot_o_0 P, boot_o_1 P, boot_o_2 P, boot_o_3 P, boot_o_4 P, boot_o_5 P, boot_o_6 P, boot_o_7 P, boot_o_8 P, boot_o_9 P, boot_o_10 P, pick (extra P) 11, fieldsTake 0 (pick (extra P) 12), pick (extra P) 13, pick (extra P) 14]⟩ }
def envT : Env := { scope := PySem.Challenge.pw_tk0005_01.main.scope, locals := mainNs, globals := mainNs, cells := [], code := .ref 13, frame := some 14 }
def sts (a b : Nat) : List Stmt := ((behindTheImports PySem.Challenge.pw_tk0005_01).drop a).take (b - a)
theorem run_at {tb : String → Option Builtin} {p : Program} {w : World} {n₀ : Nat} {ann : Option Value} {env : Env} {N : Nat} {s r : Shared} {l l' : List Stmt} {c : Code} {q : Pos} {B : List Frame} (e : l = l') (k : topRun tb p w n₀ ann N s (restOf l' env c q B) = some r) : topRun tb p w n₀ ann N s (restOf l env c q B) = some r := by rw [e]; exact k
theorem sts_all : behindTheImports PySem.Challenge.pw_tk0005_01 = sts 0 3 ++ (sts 3 10 ++ (sts 10 18 ++ (sts 18 26 ++ (sts 26 33 ++ (sts 33 40 ++ ([])))))) := by kernel_rfl
theorem t_size (w : World) : ((boot_heap w.params).isNs mainGlobals && (Array.mk [] : Array GenState).size == 0, (boot_heap w.params).objs.size, (boot_heap w.params).nsMap mainGlobals "__annotations__") = (true, 11, some (Value.ref 6)) := by kernel_rfl
theorem t_pre (w : World) (os : OsState) : topGo treeTable PySem.Challenge.pw_tk0005_01 w 11 (some (Value.ref 6)) 12 ⟨boot_heap w.params, Array.mk [], boot_drawn, boot_toks, os⟩ (topStub PySem.Challenge.pw_tk0005_01) = some (⟨cutA w.params, Array.mk [], boot_drawn, 187, os⟩, ⟨denote treeTable (Code.body (behindTheImports PySem.Challenge.pw_tk0005_01) envT), (Code.body (behindTheImports PySem.Challenge.pw_tk0005_01) envT), { line := 0, col := 0, endLine := 0, endCol := 0 }, [topFrame { line := 0, col := 0, endLine := 0, endCol := 0 }]⟩) := by kernel_rfl
theorem t_block (w : World) (os : OsState) : segRun treeTable PySem.Challenge.pw_tk0005_01 w 11 (some (Value.ref 6)) 1 1 ⟨cutA w.params, Array.mk [], boot_drawn, 187, os⟩ (blockOf (behindTheImports PySem.Challenge.pw_tk0005_01) envT (Code.body (behindTheImports PySem.Challenge.pw_tk0005_01) envT) { line := 0, col := 0, endLine := 0, endCol := 0 } [topFrame { line := 0, col := 0, endLine := 0, endCol := 0 }]) = some (.next, ⟨cutA w.params, Array.mk [], boot_drawn, 187, os⟩, (Code.body (behindTheImports PySem.Challenge.pw_tk0005_01) envT), { line := 0, col := 0, endLine := 0, endCol := 0 }) := by kernel_rfl
theorem t_p0 (w : World) (os : OsState) : segRun treeTable PySem.Challenge.pw_tk0005_01 w 11 (some (Value.ref 6)) 1 267 ⟨cutA w.params, Array.mk [], boot_drawn, 187, os⟩ (piecesOf (sts 0 3) envT (Code.body (behindTheImports PySem.Challenge.pw_tk0005_01) envT) { line := 0, col := 0, endLine := 0, endCol := 0 } [topFrame { line := 0, col := 0, endLine := 0, endCol := 0 }]) = some (.next, ⟨cutH w.params 38 11 1 (PySem.Value.str (PySem.Str.ofString "basicplus.values") 187), Array.mk [], boot_drawn, 225, os⟩, (Code.body (behindTheImports PySem.Challenge.pw_tk0005_01) envT), { line := 3, col := 0, endLine := 8, endCol := 24 }) := by kernel_rfl
theorem t_p1 (w : World) (os : OsState) : segRun treeTable PySem.Challenge.pw_tk0005_01 w 11 (some (Value.ref 6)) 1 222 ⟨cutH w.params 38 11 1 (PySem.Value.str (PySem.Str.ofString "basicplus.values") 187), Array.mk [], boot_drawn, 225, os⟩ (piecesOf (sts 3 10) envT (Code.body (behindTheImports PySem.Challenge.pw_tk0005_01) envT) { line := 3, col := 0, endLine := 8, endCol := 24 } [topFrame { line := 0, col := 0, endLine := 0, endCol := 0 }]) = some (.next, ⟨cutH w.params 87 18 8 (PySem.Value.str (PySem.Str.ofString "basicplus.values") 187), Array.mk [], boot_drawn, 292, os⟩, (Code.body (behindTheImports PySem.Challenge.pw_tk0005_01) envT), { line := 55, col := 0, endLine := 58, endCol := 99 }) := by kernel_rfl
theorem t_p2 (w : World) (os : OsState) : segRun treeTable PySem.Challenge.pw_tk0005_01 w 11 (some (Value.ref 6)) 1 187 ⟨cutH w.params 87 18 8 (PySem.Value.str (PySem.Str.ofString "basicplus.values") 187), Array.mk [], boot_drawn, 292, os⟩ (piecesOf (sts 10 18) envT (Code.body (behindTheImports PySem.Challenge.pw_tk0005_01) envT) { line := 55, col := 0, endLine := 58, endCol := 99 } [topFrame { line := 0, col := 0, endLine := 0, endCol := 0 }]) = some (.next, ⟨cutH w.params 123 25 13 (PySem.Value.str (PySem.Str.ofString "basicplus.decimals") 292), Array.mk [], boot_drawn, 345, os⟩, (Code.body (behindTheImports PySem.Challenge.pw_tk0005_01) envT), { line := 72, col := 0, endLine := 73, endCol := 49 }) := by kernel_rfl
theorem t_p3 (w : World) (os : OsState) : segRun treeTable PySem.Challenge.pw_tk0005_01 w 11 (some (Value.ref 6)) 1 234 ⟨cutH w.params 123 25 13 (PySem.Value.str (PySem.Str.ofString "basicplus.decimals") 292), Array.mk [], boot_drawn, 345, os⟩ (piecesOf (sts 18 26) envT (Code.body (behindTheImports PySem.Challenge.pw_tk0005_01) envT) { line := 72, col := 0, endLine := 73, endCol := 49 } [topFrame { line := 0, col := 0, endLine := 0, endCol := 0 }]) = some (.next, ⟨cutH w.params 172 32 20 (PySem.Value.str (PySem.Str.ofString "basicplus.arith") 388), Array.mk [], boot_drawn, 417, os⟩, (Code.body (behindTheImports PySem.Challenge.pw_tk0005_01) envT), { line := 107, col := 0, endLine := 110, endCol := 63 }) := by kernel_rfl
theorem t_p4 (w : World) (os : OsState) : segRun treeTable PySem.Challenge.pw_tk0005_01 w 11 (some (Value.ref 6)) 1 203 ⟨cutH w.params 172 32 20 (PySem.Value.str (PySem.Str.ofString "basicplus.arith") 388), Array.mk [], boot_drawn, 417, os⟩ (piecesOf (sts 26 33) envT (Code.body (behindTheImports PySem.Challenge.pw_tk0005_01) envT) { line := 107, col := 0, endLine := 110, endCol := 63 } [topFrame { line := 0, col := 0, endLine := 0, endCol := 0 }]) = some (.next, ⟨cutH w.params 214 38 26 (PySem.Value.str (PySem.Str.ofString "law_tk0005_01") 478), Array.mk [], boot_drawn, 480, os⟩, (Code.body (behindTheImports PySem.Challenge.pw_tk0005_01) envT), { line := 150, col := 0, endLine := 150, endCol := 8 }) := by kernel_rfl
theorem t_p5 (w : World) (os : OsState) : segRun treeTable PySem.Challenge.pw_tk0005_01 w 11 (some (Value.ref 6)) 1 205 ⟨cutH w.params 214 38 26 (PySem.Value.str (PySem.Str.ofString "law_tk0005_01") 478), Array.mk [], boot_drawn, 480, os⟩ (piecesOf (sts 33 40) envT (Code.body (behindTheImports PySem.Challenge.pw_tk0005_01) envT) { line := 150, col := 0, endLine := 150, endCol := 8 } [topFrame { line := 0, col := 0, endLine := 0, endCol := 0 }]) = some (.next, ⟨cutH w.params 257 45 33 (PySem.Value.str (PySem.Str.ofString "law_tk0005_01") 478), Array.mk [], boot_drawn, 536, os⟩, (Code.body (behindTheImports PySem.Challenge.pw_tk0005_01) envT), { line := 177, col := 0, endLine := 206, endCol := 15 }) := by kernel_rfl
theorem t_fin (w : World) (os : OsState) : topRun treeTable PySem.Challenge.pw_tk0005_01 w 11 (some (Value.ref 6)) 2 ⟨cutH w.params 257 45 33 (PySem.Value.str (PySem.Str.ofString "law_tk0005_01") 478), Array.mk [], boot_drawn, 536, os⟩ ⟨doneF .next, (Code.body (behindTheImports PySem.Challenge.pw_tk0005_01) envT), { line := 177, col := 0, endLine := 206, endCol := 15 }, [topFrame { line := 0, col := 0, endLine := 0, endCol := 0 }]⟩ = some ⟨cutH w.params 257 45 33 (PySem.Value.str (PySem.Str.ofString "law_tk0005_01") 478), Array.mk [], boot_drawn, 536, os⟩ := by kernel_rfl
theorem t_run (w : World) (os : OsState) : topRun treeTable PySem.Challenge.pw_tk0005_01 w 11 (some (Value.ref 6)) (12 + (1 + (267 + (222 + (187 + (234 + (203 + (205 + (2))))))))) ⟨boot_heap w.params, Array.mk [], boot_drawn, boot_toks, os⟩ (topStub PySem.Challenge.pw_tk0005_01) = some ⟨cutH w.params 257 45 33 (PySem.Value.str (PySem.Str.ofString "law_tk0005_01") 478), Array.mk [], boot_drawn, 536, os⟩ :=
  go_top (t_pre w os) (piece_block (t_block w os) (run_at sts_all (piece_app (t_p0 w os) (piece_app (t_p1 w os) (piece_app (t_p2 w os) (piece_app (t_p3 w os) (piece_app (t_p4 w os) (piece_app (t_p5 w os) (piece_nil (t_fin w os))))))))))
theorem whole_of {q : Program} {loose : List Str} {Xt : Shared → Bool} {α : Type} {Yf : Shared → α} {Ya : World → α} {g0 : Bool}
    (looks : ∀ w : World, (fun os => ((staticsOk (importedModules PySem.Challenge.pw_tk0005_01.main.body) (boot_heap w.params) (cutH w.params 257 45 33 (PySem.Value.str (PySem.Str.ofString "law_tk0005_01") 478)) && namesBound PySem.Challenge.pw_tk0005_01 (cutH w.params 257 45 33 (PySem.Value.str (PySem.Str.ofString "law_tk0005_01") 478)) && gensDone ⟨cutH w.params 257 45 33 (PySem.Value.str (PySem.Str.ofString "law_tk0005_01") 478), Array.mk [], boot_drawn, 536, os⟩ && laidKept (boot_heap w.params) (cutH w.params 257 45 33 (PySem.Value.str (PySem.Str.ofString "law_tk0005_01") 478))),
        openSeen q loose (importedModules PySem.Challenge.pw_tk0005_01.main.body) Xt g0 ⟨cutH w.params 257 45 33 (PySem.Value.str (PySem.Str.ofString "law_tk0005_01") 478), Array.mk [], boot_drawn, 536, os⟩, Yf ⟨cutH w.params 257 45 33 (PySem.Value.str (PySem.Str.ofString "law_tk0005_01") 478), Array.mk [], boot_drawn, 536, os⟩)) = fun _ => (true, openGood q loose, Ya w)) : LeftO PySem.Challenge.pw_tk0005_01 q loose Xt Yf Ya 2750 g0 :=
  LeftO.of_pieces (H₀ := boot_heap) (H₁ := (fun P => cutH P 257 45 33 (PySem.Value.str (PySem.Str.ofString "law_tk0005_01") 478))) (boot_open (by kernel_rfl) rfl (by intro s; kernel_rfl)) t_size t_run (by decide) looks
theorem left : LeftO PySem.Challenge.rw_tk0005_01.row.prog Mine.hd.view_39 [Str.ofString "BasicError"] (fun s => xlAt Mine.hd.view_39 [] s && recOk PySem.Challenge.rw_tk0005_01.row.records s) (kHook Mine.hd.heap_39 [2, 3, 15, 18, 23, 24, 25, 27, 28, 30, 31, 32, 33, 34, 35, 38, 40, 41, 43, 44, 45, 47, 48, 50, 51, 52, 54, 55, 57, 58, 59, 61, 62, 64, 65, 66, 68, 69, 71, 72, 73, 75, 76, 78, 79, 80, 82, 83, 85, 86, 87, 88, 90, 91, 93, 94, 95, 97, 98, 100, 101, 102, 104, 105, 107, 108, 109, 111, 112, 114, 115, 116, 118, 119, 121, 122, 123, 125, 126, 128, 129, 130, 132, 133, 135, 136, 137, 139, 140, 142, 143, 144, 146, 147, 149, 150, 151, 153, 154, 156, 157, 158, 160, 161, 163, 164, 165, 167, 168, 170, 171, 172, 174, 175, 177, 178, 179, 181, 182, 184, 185, 186, 188, 189, 191, 192, 193, 195, 196, 198, 199, 200, 202, 203, 205, 206, 207, 209, 210, 212, 213, 214, 216, 217, 219, 220, 221, 223, 224, 226, 227, 228, 230, 231, 233, 234, 235, 238, 239, 240, 243, 244, 245, 247, 248, 250, 251, 252, 255, 256] (fun _ => by kernel_rfl)).obs (kHook Mine.hd.heap_39 [2, 3, 15, 18, 23, 24, 25, 27, 28, 30, 31, 32, 33, 34, 35, 38, 40, 41, 43, 44, 45, 47, 48, 50, 51, 52, 54, 55, 57, 58, 59, 61, 62, 64, 65, 66, 68, 69, 71, 72, 73, 75, 76, 78, 79, 80, 82, 83, 85, 86, 87, 88, 90, 91, 93, 94, 95, 97, 98, 100, 101, 102, 104, 105, 107, 108, 109, 111, 112, 114, 115, 116, 118, 119, 121, 122, 123, 125, 126, 128, 129, 130, 132, 133, 135, 136, 137, 139, 140, 142, 143, 144, 146, 147, 149, 150, 151, 153, 154, 156, 157, 158, 160, 161, 163, 164, 165, 167, 168, 170, 171, 172, 174, 175, 177, 178, 179, 181, 182, 184, 185, 186, 188, 189, 191, 192, 193, 195, 196, 198, 199, 200, 202, 203, 205, 206, 207, 209, 210, 212, 213, 214, 216, 217, 219, 220, 221, 223, 224, 226, 227, 228, 230, 231, 233, 234, 235, 238, 239, 240, 243, 244, 245, 247, 248, 250, 251, 252, 255, 256] (fun _ => by kernel_rfl)).val 2750 :=
  whole_of (by intro w; kernel_rfl)
end
end Mine
end
local macro_rules | `(tactic| walk_at $s:str) => `(tactic| k_extra $s)
local macro_rules | `(tactic| k_mem) => `(tactic| k_extra "mine mem")
local macro_rules | `(tactic| k_ne) => `(tactic| k_extra "mine kne")
local macro_rules | `(tactic| k_all) => `(tactic| k_extra "mine kall")
section
-- part M1
namespace Mine

/-- zeros struck from the end, at most f of them -/
def strip : Nat → Int → Int → Int × Int
  | 0, c, e => (c, e)
  | f + 1, c, e => if c % 10 = 0 then strip f (c / 10) (e + 1) else (c, e)
/-- the one form of n tens-to-the-k -/
def nf (k n : Int) : Int × Int := if n = 0 then (0, 0) else strip n.natAbs n k

/-- (c, e) is n tens-to-the-k -/
def Is (k n c e : Int) : Prop := ∃ j : Nat, e = k + j ∧ c * 10 ^ j = n ∧ j ≤ 60

theorem pow10_pos (j : Nat) : (0 : Int) < 10 ^ j := Int.pow_pos (by decide)
theorem pow10_succ (j : Nat) : (10 : Int) ^ (j + 1) = 10 ^ j * 10 := Int.pow_succ 10 j

theorem strip_spec : ∀ (f : Nat) (c e : Int), c ≠ 0 → c.natAbs ≤ f → ∃ j : Nat, (strip f c e).2 = e + j ∧ (strip f c e).1 * 10 ^ j = c ∧ (strip f c e).1 % 10 ≠ 0
  | 0, c, e, h, hf => by omega
  | f + 1, c, e, h, hf => by
    unfold strip
    by_cases h10 : c % 10 = 0
    · rw [if_pos h10]
      obtain ⟨j, h1, h2, h3⟩ := strip_spec f (c / 10) (e + 1) (by omega) (by omega)
      refine ⟨j + 1, by omega, ?_, h3⟩
      rw [pow10_succ, ← Int.mul_assoc, h2]; omega
    · rw [if_neg h10]
      exact ⟨0, by simp, by simp, h10⟩

theorem nf_zero (k : Int) : nf k 0 = (0, 0) := by unfold nf; simp
theorem nf_spec {k n : Int} (h : n ≠ 0) : ∃ j : Nat, (nf k n).2 = k + j ∧ (nf k n).1 * 10 ^ j = n ∧ (nf k n).1 % 10 ≠ 0 := by
  unfold nf; rw [if_neg h]; exact strip_spec _ _ _ h (Nat.le_refl _)

theorem pow10_big {j : Nat} (h : 9 ≤ j) : (1000000000 : Int) ≤ 10 ^ j := by
  obtain ⟨d, rfl⟩ := Nat.exists_eq_add_of_le h
  rw [Int.pow_add]
  have := pow10_pos d
  have e9 : (10 : Int) ^ 9 = 1000000000 := by decide
  rw [e9]; omega
theorem j_small {c n : Int} {j : Nat} (h : n ≠ 0) (hb : n.natAbs < 1000000000) (e : c * 10 ^ j = n) : j ≤ 8 := by
  refine Nat.le_of_not_lt fun hj => ?_
  have hp := pow10_big (j := j) (by omega)
  have hc : c ≠ 0 := by intro hc; subst hc; simp at e; exact h e.symm
  have h1 : c.natAbs * ((10 : Int) ^ j).natAbs = n.natAbs := by rw [← Int.natAbs_mul, e]
  have h2 : 1000000000 ≤ ((10 : Int) ^ j).natAbs := by omega
  have h3 : 1 ≤ c.natAbs := by omega
  have h4 : 1 * 1000000000 ≤ c.natAbs * ((10 : Int) ^ j).natAbs := Nat.mul_le_mul h3 h2
  omega
theorem abs_le_of_mul {c n : Int} {j : Nat} (e : c * 10 ^ j = n) : c.natAbs ≤ n.natAbs := by
  rw [← e, Int.natAbs_mul]
  exact Nat.le_mul_of_pos_right _ (by have := pow10_pos j; omega)

/-- one form alone -/
theorem form_unique {c c' : Int} {j j' : Nat} (e : c * 10 ^ j = c' * 10 ^ j') (h : c % 10 ≠ 0) (h' : c' % 10 ≠ 0) : c = c' ∧ j = j' := by
  have key : ∀ {a b : Int} {i d : Nat}, a * 10 ^ i = b * 10 ^ (i + d) → a = b * 10 ^ d := by
    intro a b i d q
    rw [Int.pow_add, ← Int.mul_assoc, Int.mul_right_comm] at q
    exact Int.eq_of_mul_eq_mul_right (Int.ne_of_gt (pow10_pos i)) q
  have zero : ∀ {a b : Int} {d : Nat}, a = b * 10 ^ (d + 1) → a % 10 = 0 := by
    intro a b d q
    rw [q, pow10_succ, ← Int.mul_assoc]; omega
  rcases Nat.lt_trichotomy j j' with hj | hj | hj
  · obtain ⟨d, rfl⟩ := Nat.exists_eq_add_of_lt hj
    exact absurd (zero (key (by rw [Nat.add_assoc] at e; exact e))) h
  · subst hj
    exact ⟨by simpa using key (d := 0) (by simpa using e), rfl⟩
  · obtain ⟨d, rfl⟩ := Nat.exists_eq_add_of_lt hj
    exact absurd (zero (key (by rw [Nat.add_assoc] at e; exact e.symm))) h'

theorem nf_of {k n c e : Int} (h : n ≠ 0) (j : Nat) (he : e = k + j) (hc : c * 10 ^ j = n) (h10 : c % 10 ≠ 0) : nf k n = (c, e) := by
  obtain ⟨j', h1, h2, h3⟩ := nf_spec (k := k) h
  obtain ⟨q1, q2⟩ := form_unique (h2.trans hc.symm) h3 h10
  subst q2
  exact Prod.ext q1 (by rw [h1, he])

theorem is_nf {k n : Int} (hk : k ≤ 0) (hk' : -50 ≤ k) (hb : n.natAbs < 1000000000) : Is k n (nf k n).1 (nf k n).2 := by
  by_cases h : n = 0
  · subst h; rw [nf_zero]
    exact ⟨(-k).toNat, by simp; omega, by simp, by omega⟩
  · obtain ⟨j, h1, h2, h3⟩ := nf_spec (k := k) h
    exact ⟨j, h1, h2, by have := j_small h hb h2; omega⟩
theorem Is.self (k n : Int) : Is k n n k := ⟨0, by simp, by simp, by omega⟩
/-- what is n tens-to-the-k has its form -/
theorem nf_is {k n c e : Int} (h : Is k n c e) : nf e c = nf k n := by
  obtain ⟨j, he, hc, _⟩ := h
  by_cases h0 : c = 0
  · subst h0
    have : n = 0 := by rw [← hc]; simp
    subst this; rw [nf_zero, nf_zero]
  · have hn : n ≠ 0 := by
      intro q; rw [q] at hc
      rcases Int.mul_eq_zero.mp hc with q | q
      · exact h0 q
      · exact absurd q (Int.ne_of_gt (pow10_pos j))
    obtain ⟨i, h1, h2, h3⟩ := nf_spec (k := e) h0
    symm
    refine (nf_of (c := (nf e c).1) (e := (nf e c).2) hn (i + j) ?_ ?_ h3).trans rfl
    · rw [h1, he]; omega
    · rw [Int.pow_add, ← Int.mul_assoc, h2, hc]
theorem Is.abs {k n c e : Int} (h : Is k n c e) : c.natAbs ≤ n.natAbs := by obtain ⟨j, _, hc, _⟩ := h; exact abs_le_of_mul hc
theorem Is.shift {k n c e : Int} (h : Is k n c e) (i : Nat) (hi : e ≤ k - i + 60) : Is (k - i) (n * 10 ^ i) c e := by
  obtain ⟨j, he, hc, hj⟩ := h
  exact ⟨j + i, by omega, by rw [Int.pow_add, ← Int.mul_assoc, hc], by omega⟩
theorem Is.neg {k n c e : Int} (h : Is k n c e) : Is k (-n) (0 - c) e := by
  obtain ⟨j, he, hc, hj⟩ := h
  exact ⟨j, he, by rw [Int.zero_sub, Int.neg_mul, hc], hj⟩
theorem Is.mul {k l a b c e c' e' : Int} (h : Is k a c e) (h' : Is l b c' e') (hb : e + e' ≤ k + l + 60) : Is (k + l) (a * b) (c * c') (e + e') := by
  obtain ⟨j, he, hc, hj⟩ := h
  obtain ⟨i, he', hc', hi⟩ := h'
  refine ⟨j + i, by omega, ?_, by omega⟩
  rw [Int.pow_add, ← hc, ← hc']; simp only [Int.mul_assoc, Int.mul_left_comm]
theorem Is.alike {k a b c e c' e' : Int} (h : Is k a c e) (h' : Is k b c' e') :
    Is k (a + b) (c * 10 ^ (e - min e e').toNat + c' * 10 ^ (e' - min e e').toNat) (min e e') := by
  obtain ⟨j, he, hc, hj⟩ := h
  obtain ⟨i, he', hc', hi⟩ := h'
  refine ⟨min j i, by omega, ?_, by omega⟩
  rw [Int.add_mul, Int.mul_assoc, Int.mul_assoc, ← Int.pow_add, ← Int.pow_add]
  rw [show (e - min e e').toNat + min j i = j from by omega, show (e' - min e e').toNat + min j i = i from by omega, hc, hc']
theorem Is.alike2 {k a b c e c' e' : Int} (h : Is k a c e) (h' : Is k b c' e') :
    Is k (a + b) (c * 10 ^ (e - if e' < e then e' else e).toNat + c' * 10 ^ (e' - if e' < e then e' else e).toNat) (if e' < e then e' else e) := by
  have q : (if e' < e then e' else e) = min e e' := by split <;> omega
  rw [q]; exact h.alike h'
theorem Is.range {k n c e : Int} (h : Is k n c e) : k ≤ e ∧ e ≤ k + 60 := by obtain ⟨j, he, _, hj⟩ := h; omega
/-- the form's exponent, where n is no nought -/
theorem Is.small {k n c e : Int} (h : Is k n c e) (h0 : c ≠ 0) (hb : n.natAbs < 1000000000) : e ≤ k + 8 := by
  obtain ⟨j, he, hc, _⟩ := h
  have hn : n ≠ 0 := by
    intro q; rw [q] at hc
    rcases Int.mul_eq_zero.mp hc with q | q
    · exact h0 q
    · exact absurd q (Int.ne_of_gt (pow10_pos j))
  have := j_small hn hb hc
  omega
end Mine
end
section
-- part Sp
open PySem PySem.W PySem.Calls PyProof.Rows
namespace Mine
noncomputable section
abbrev tupO (x y : Int) (t1 t2 : Tok) (c : Nat) : Obj := { cls := .type "tuple", data := .seq #[.int x t1, .int y t2] c }

/-- a call of the text's, from any frame: what it hands on -/
def Sp (prog : Program) (w : World) (mean : ExcName → Option Value) (mg mb : Str → Option Value) (f : Addr) (k : Nat) (vs : List Value) (need : List (Addr × Obj))
    (Ret : (h₀ : Heap) → (L : Addr) → (m : Str → Option Value) → (news : List (Addr × Obj)) → Heap → Value → Prop) : Prop :=
  ∀ (dp un : Nat) (gd : Option (List Code)) (cn : Str) (cs : Scope) (a : Addr) (ccd : Value) (cl : List (Str × Addr)) (outer : List Env) (A₀ : Around) (base h₀ : Heap) (L : Addr) (m : Str → Option Value) (news : List (Addr × Obj)) (s : Shared) (Q E : Value → Shared → Prop),
    Below A₀ base outer h₀ → Fr h₀ L s.heap m → Frag.In (Mine.hd.heap_39 w.params) h₀ → News h₀ L s.heap news → Top Mine.hd.view_39 (looseW Mine.hd.view_39 [Str.ofString "BasicError"]) mean mg mb h₀ → cs.kind = .function → (∀ p ∈ need, p ∈ news) → dp + k < recursionLimit → un + 8 * k < cLine →
    (∀ (v : Value) (h' : Heap) (tk' : Nat), Ret h₀ L m news h' v → Q v { s with heap := h', toks := tk' }) →
    wpAny (model prog w) (ktrTop dp un gd cn cs L a ccd cl outer) (call (.ref f) vs) Q E s

/-- an int comes back -/
abbrev RI (P : Int → Prop) (h₀ : Heap) (L : Addr) (m : Str → Option Value) (news : List (Addr × Obj)) (h' : Heap) (v : Value) : Prop :=
  ∃ r t, v = .int r t ∧ P r ∧ Fr h₀ L h' m ∧ News h₀ L h' news


/-- what stands at a call's place -/
structure Gd (prog : Program) (w : World) (mean : ExcName → Option Value) (mg mb : Str → Option Value) (cs : Scope) (outer : List Env) (A₀ : Around) (base h₀ : Heap) (L : Addr) (m : Str → Option Value) (news : List (Addr × Obj)) (h : Heap) (dp un k : Nat) : Prop where
  B : Below A₀ base outer h₀
  F : Fr h₀ L h m
  X : Frag.In (Mine.hd.heap_39 w.params) h₀
  N : News h₀ L h news
  T : Top Mine.hd.view_39 (looseW Mine.hd.view_39 [Str.ofString "BasicError"]) mean mg mb h₀
  hk : cs.kind = .function
  hd : dp + k < recursionLimit
  hu : un + 8 * k < cLine
theorem sp_use {prog : Program} {w : World} {mean : ExcName → Option Value} {mg mb : Str → Option Value} {f : Addr} {k : Nat} {vs : List Value} {need : List (Addr × Obj)}
    {Ret : (h₀ : Heap) → (L : Addr) → (m : Str → Option Value) → (news : List (Addr × Obj)) → Heap → Value → Prop}
    {dp un : Nat} {gd : Option (List Code)} {cn : Str} {cs : Scope} {a : Addr} {ccd : Value} {cl : List (Str × Addr)} {outer : List Env} {A₀ : Around} {base h₀ : Heap} {L : Addr} {m : Str → Option Value} {news : List (Addr × Obj)} {s : Shared} {Q E : Value → Shared → Prop}
    (C : Sp prog w mean mg mb f k vs need Ret)
    (G : Gd prog w mean mg mb cs outer A₀ base h₀ L m news s.heap dp un k) (hn : ∀ p ∈ need, p ∈ news)
        (ret : ∀ (v : Value) (h' : Heap) (tk' : Nat), Ret h₀ L m news h' v → Q v { s with heap := h', toks := tk' }) :
    wpAny (model prog w) (ktrTop dp un gd cn cs L a ccd cl outer) (call (.ref f) vs) Q E s :=
  C dp un gd cn cs a ccd cl outer A₀ base h₀ L m news s Q E G.B G.F G.X G.N G.T G.hk hn G.hd G.hu ret


/-- an item of a list of the ledger -/
theorem lst_item {prog : Program} {w : World} {A : Around} {E : Value → Shared → Prop} {s : Shared} {h₀ : Heap} {L l : Addr} {news : List (Addr × Obj)} {value slice : PySem.Expr} {vs : List Value} {n : Nat} {k : Int} {u : Tok} {v : Value} {Q : Value → Shared → Prop}
    (N : News h₀ L s.heap news) (hm : (l, W.listOf vs.toArray n) ∈ news) (h0 : 0 ≤ k) (hhi : k < 2 ^ 63) (hx : vs[k.toNat]? = some v) (h : Q v s)
    (hs : subscripted slice false (.ref l) (.int k u) = operate [.ref l, .int k u] (getItem (.ref l) (.int k u)) := by with_unfolding_all rfl) :
    wpAny (model prog w) A (subscriptTail value slice (.ref l) (.int k u)) Q E s :=
  have hl : s.heap.IsList l vs.toArray := ⟨_, (N _ hm).1, rfl, n, rfl⟩
  tail_any hl.typeIs slot_list_getitem.lookup (wpAny_getItem_list hl h0 hhi (by simpa using hx) h) hs

/-- a def entered: its names, in order, and what is handed in -/
theorem enter_by {prog : Program} {w : World} {A A₀ : Around} {s : Shared} {K : Frag} {L f : Addr} {h₀ base : Heap} {m mg mb : Str → Option Value} {news : List (Addr × Obj)} {p : Program} {loose : List Str} {mean : ExcName → Option Value}
    {env : Env} {outer : List Env} {Q E : Value → Shared → Prop} {name qual : Str} {params : Arguments} {body : List Stmt} {scope : Scope} {dV kV doc pm cdv ct oc : Value} {an od : Option Addr} {osl : Array (Option Value)} {vs : List Value} (ns : List Str)
    (B : Below A₀ base outer h₀) (F : Fr h₀ L s.heap m) (X : K.In h₀) (N : News h₀ L s.heap news) (T : Top p loose mean mg mb h₀) (hA : A.frames = some (env :: outer)) (hf : env.frame = some L) (hke : env.scope.kind = .function)
    (ho : K.lookup f = some ⟨oc, od, .func (fnOf name qual params body scope dV kV doc pm an cdv ct), osl⟩) (hcd : codeIn K cdv qual = true) (hroom : A.depth < recursionLimit)
    (hb : BindsTo s (fnOf name qual params body scope dV kV doc pm an cdv ct) ⟨vs, []⟩ (ns.zip vs)) (hl : ∀ y ∈ ns.zip vs, scope.names.lookup y.1 = some .local)
    (c1 : scope.isCoroutine = false) (c2 : scope.isGenerator = false) (c3 : scope.kind = .function) (c4 : ∀ x ∈ scope.names, x.2 ≠ .cell)
    (h : ∀ g L' h₁, Fr h₀ L g m → Fr g L' h₁ (fun y => (ns.zip vs).reverse.lookup y) → News g L' h₁ news → Below A base (env :: outer) g → K.In g → Top p loose mean mg mb g →
      wpAny (model prog w) (A.deeper (envOf qual scope L' f cdv)) (execs body (envOf qual scope L' f cdv))
        (fun fl s' => LeaveK h₀ L m g (fun r s'' => match r with | .ok (.ret v) => Q v s'' | .ok _ => False | .error e => E e s'') (match fl with | .ret v => v | _ => .none) s')
        (fun e s' => wpAny (model prog w) (A.deeper (envOf qual scope L' f cdv)) (leaving (envOf qual scope L' f cdv) e) (fun _ s'' => E e s'') (fun e' s'' => E e' s'') s')
        { s with heap := h₁, toks := s.toks + (ns.zip vs).length }) :
    wpAny (model prog w) A (call (.ref f) vs) Q E s :=
  wpAny_call (code_def B F X N T hA hf hke ho hcd hroom hb hl h c1 c2 c3 c4)

/-- a def entered with a part of the ledger alone: all else stands in the new ground -/
theorem enter_cl {prog : Program} {w : World} {A A₀ : Around} {s : Shared} {K : Frag} {L f : Addr} {h₀ base : Heap} {m mg mb : Str → Option Value} {news : List (Addr × Obj)} {p : Program} {loose : List Str} {mean : ExcName → Option Value}
    {env : Env} {outer : List Env} {Q E : Value → Shared → Prop} {name qual : Str} {params : Arguments} {body : List Stmt} {scope : Scope} {dV kV doc pm cdv ct oc : Value} {an od : Option Addr} {osl : Array (Option Value)} {vs : List Value} (ns : List Str) (need : List (Addr × Obj)) (hR : ∀ p ∈ need, p ∈ news)
    (B : Below A₀ base outer h₀) (F : Fr h₀ L s.heap m) (X : K.In h₀) (N : News h₀ L s.heap news) (T : Top p loose mean mg mb h₀) (hA : A.frames = some (env :: outer)) (hf : env.frame = some L) (hke : env.scope.kind = .function)
    (ho : K.lookup f = some ⟨oc, od, .func (fnOf name qual params body scope dV kV doc pm an cdv ct), osl⟩) (hcd : codeIn K cdv qual = true) (hroom : A.depth < recursionLimit)
    (hb : BindsTo s (fnOf name qual params body scope dV kV doc pm an cdv ct) ⟨vs, []⟩ (ns.zip vs)) (hl : ∀ y ∈ ns.zip vs, scope.names.lookup y.1 = some .local)
    (c1 : scope.isCoroutine = false) (c2 : scope.isGenerator = false) (c3 : scope.kind = .function) (c4 : ∀ x ∈ scope.names, x.2 ≠ .cell)
    (h : ∀ g L' h₁, Fr h₀ L g m → Fr g L' h₁ (fun y => (ns.zip vs).reverse.lookup y) → News g L' h₁ need → Below A base (env :: outer) g → K.In g → Top p loose mean mg mb g → GSub s.heap g (need.map (·.1)) →
      wpAny (model prog w) (A.deeper (envOf qual scope L' f cdv)) (execs body (envOf qual scope L' f cdv))
        (fun fl s' => LeaveK h₀ L m g (fun r s'' => match r with | .ok (.ret v) => Q v s'' | .ok _ => False | .error e => E e s'') (match fl with | .ret v => v | _ => .none) s')
        (fun e s' => wpAny (model prog w) (A.deeper (envOf qual scope L' f cdv)) (leaving (envOf qual scope L' f cdv) e) (fun _ s'' => E e s'') (fun e' s'' => E e' s'') s')
        { s with heap := h₁, toks := s.toks + (ns.zip vs).length }) :
    wpAny (model prog w) A (call (.ref f) vs) Q E s :=
  wpAny_call (code_defG B F X (fun q hq => N q (hR q hq)) T hA hf hke ho hcd hroom hb hl h c1 c2 c3 c4)

/-- a pair comes back, unlike all that stood -/
abbrev RN (x y : Int) (h₀ : Heap) (L : Addr) (m : Str → Option Value) (news : List (Addr × Obj)) (h' : Heap) (v : Value) : Prop :=
  ∃ D t1 t2 c, v = .ref D ∧ Fr h₀ L h' m ∧ News h₀ L h' ((D, tupO x y t1 t2 c) :: news) ∧ ∀ p ∈ news, p.1 ≠ D
theorem sp_rn {prog : Program} {w : World} {mean : ExcName → Option Value} {mg mb : Str → Option Value} {f : Addr} {k : Nat} {vs : List Value} {need : List (Addr × Obj)}
    {x y : Int}
    {dp un : Nat} {gd : Option (List Code)} {cn : Str} {cs : Scope} {a : Addr} {ccd : Value} {cl : List (Str × Addr)} {outer : List Env} {A₀ : Around} {base h₀ : Heap} {L : Addr} {m : Str → Option Value} {news : List (Addr × Obj)} {s : Shared} {Q E : Value → Shared → Prop}
    (C : Sp prog w mean mg mb f k vs need (RN x y))
    (G : Gd prog w mean mg mb cs outer A₀ base h₀ L m news s.heap dp un k) (hn : ∀ p ∈ need, p ∈ news)
        (ret : ∀ (D : Addr) (t1 t2 : Tok) (c : Nat) (h' : Heap) (tk' : Nat), Fr h₀ L h' m → News h₀ L h' ((D, tupO x y t1 t2 c) :: news) → (∀ p ∈ news, p.1 ≠ D) → Q (.ref D) { s with heap := h', toks := tk' }) :
    wpAny (model prog w) (ktrTop dp un gd cn cs L a ccd cl outer) (call (.ref f) vs) Q E s :=
  C dp un gd cn cs a ccd cl outer A₀ base h₀ L m news s Q E G.B G.F G.X G.N G.T G.hk hn G.hd G.hu (by intro v h' tk' R; obtain ⟨D, t1, t2, c, e, F', N', l⟩ := R; subst e; exact ret D t1 t2 c h' tk' F' N' l)
/-- what stood ahead of a call stands behind it -/
theorem news_back {s : Shared} {h₀ g h' : Heap} {L L' : Addr} {m' : Str → Option Value} {news need led : List (Addr × Obj)} (N : News h₀ L s.heap news) (hR : ∀ p ∈ need, p ∈ news) (G : GSub s.heap g (need.map (·.1))) (F' : Fr g L' h' m') (kN : News h₀ L h' led) (hs : ∀ p ∈ need, p ∈ led) :
    News h₀ L h' news := fun p hp => by
  refine ⟨?_, (N p hp).2⟩
  by_cases hb : p.1 ∈ need.map (·.1)
  · obtain ⟨q, hq, e⟩ := List.mem_map.mp hb
    have h1 := (N q (hR q hq)).1
    rw [e, (N p hp).1] at h1
    have h2 := (kN q (hs q hq)).1
    rw [e, ← Option.some.inj h1] at h2
    exact h2
  · exact F'.keep _ _ (G _ _ (N p hp).1 hb)
theorem fresh_back {s : Shared} {h₀ g h' : Heap} {L L' D : Addr} {o : Obj} {news need led : List (Addr × Obj)} (N : News h₀ L s.heap news) (G : GSub s.heap g (need.map (·.1))) (N' : News g L' h' led) (hm : (D, o) ∈ led) (hl : ∀ p ∈ need, p.1 ≠ D) : ∀ p ∈ news, p.1 ≠ D := fun p hp e => by
  by_cases hb : p.1 ∈ need.map (·.1)
  · obtain ⟨q, hq, e'⟩ := List.mem_map.mp hb
    exact hl q hq (e'.trans e)
  · have h1 := G _ _ (N p hp).1 hb
    rw [e, (N' _ hm).2.2] at h1
    cases h1
theorem rn_end {x y x' y' : Int} {s : Shared} {h₀ g h' : Heap} {L L' D : Addr} {m m' : Str → Option Value} {news need led : List (Addr × Obj)} {t1 t2 : Tok} {c : Nat}
    (N : News h₀ L s.heap news) (hR : ∀ p ∈ need, p ∈ news) (e1 : x = x') (e2 : y = y') (G : GSub s.heap g (need.map (·.1))) (F' : Fr g L' h' m') (N' : News g L' h' led) (kF : Fr h₀ L h' m) (kN : News h₀ L h' led)
    (hm : (D, tupO x' y' t1 t2 c) ∈ led) (hs : ∀ p ∈ need, p ∈ led) (hl : ∀ p ∈ need, p.1 ≠ D) : RN x y h₀ L m news h' (.ref D) := by
  subst e1; subst e2
  refine ⟨D, t1, t2, c, rfl, kF, fun p hp => ?_, fresh_back N G N' hm hl⟩
  rcases List.mem_cons.mp hp with rfl | hp
  · exact kN _ hm
  · exact news_back N hR G F' kN hs p hp
theorem ne_of_lts {D : Addr} {news news' : List (Addr × Obj)} (h : ∀ p ∈ news', p.1 < D) (hs : ∀ p ∈ news, p ∈ news') : ∀ p ∈ news, p.1 ≠ D := fun p hp => Nat.ne_of_lt (h p (hs p hp))
theorem ne_of_nes {D : Addr} {news news' : List (Addr × Obj)} (h : ∀ p ∈ news', p.1 ≠ D) (hs : ∀ p ∈ news, p ∈ news') : ∀ p ∈ news, p.1 ≠ D := fun p hp => h p (hs p hp)
end
end Mine
end
section
-- part C1
open PySem PySem.W PySem.Calls PyProof.Rows
namespace Mine
noncomputable section
def FigInv (b m : Int) : Prop := 1 ≤ m ∧ m ≤ 9 ∧ b = 10 ^ m.toNat
theorem figInv_0 : FigInv 10 1 := ⟨by decide, by decide, by decide⟩
theorem figInv_s {n b m : Int} (h : FigInv b m) (hb : b ≤ n) (hn : n < 1000000000) : FigInv (b * 10) (m + 1) ∧ (9 - (m + 1)).toNat < (9 - m).toNat := by
  obtain ⟨h1, h2, h3⟩ := h
  have h9 : m ≠ 9 := by
    intro q; subst q
    rw [show (10 : Int) ^ (Int.toNat 9) = 1000000000 from by decide] at h3
    omega
  refine ⟨⟨by omega, by omega, ?_⟩, by omega⟩
  rw [h3, show (m + 1).toNat = m.toNat + 1 from by omega, Int.pow_succ]
theorem figInv_e {b m : Int} (h : FigInv b m) : 1 ≤ m ∧ m ≤ 9 := ⟨h.1, h.2.1⟩
theorem fig_spec {prog : Program} {w : World} {mean : ExcName → Option Value} {mg mb : Str → Option Value} (n : Int) (t : Tok) (h0 : 0 ≤ n) (h1 : n < 1000000000) : Sp prog w mean mg mb 44 1 [.int n t] [] (RI fun r => 1 ≤ r ∧ r ≤ 9) := by
  unfold Sp
  intro dp un gd cn cs a ccd cl outer A₀ base h₀ L m news s Q E B F X N T hk hR hd hu hret
  (have dummy : (PySem.Challenge.rw_tk0005_01.Holds → Frag.In (Mine.hd.heap_39 w.params) h₀ → True) := by (k_fill; intros; trivial))
  clear dummy
  refine wpAny_call ?_
  (refine' code_def (binds := [(Str.ofString "number", .int n t)]) ?k1 ?k2 ?k3 ?k4 ?k5 ?kA ?kF ?kK ?k6 ?k7 ?k8 ?k9 ?kB ?_ ?c2 ?c3 ?c4 ?c5; (case kA => exact rfl); (case kF => exact rfl); (case kK => assumption); (case k1 => k_asm); (case k2 => k_asm); (case k3 => k_asm); (case k4 => k_asm); (case k5 => k_asm); (case k6 => k_is); (case k7 => k_is); (case k8 => ktr_room); (case k9 => exact BindsTo.of_eq rfl); (case c5 => decide); (case kB => exact locs rfl); (case c2 => exact rfl); (case c3 => exact rfl); (case c4 => exact rfl); k_whole; intro g' L' h' FG' F' N' B' X' T'; (try dsimp only); (try k_fold))
  k_with "exec While Compare cons nil" => k_while (fun _ b m => FigInv b m) (fun _ _ m => (9 - m).toNat) "bound" "many"
  k_with "state" => first | exact figInv_0 | exact (figInv_s (by assumption) (by assumption) (by assumption)).1
  k_with "measure" => exact (figInv_s (by assumption) (by assumption) (by assumption)).2
  w_top off
  k_steps
  all_goals (refine hret _ _ _ ⟨_, _, rfl, figInv_e (by assumption), by k_asm, ?_⟩; (refine' cb_drop ?cbN ?cbS; (case cbN => assumption); (case cbS => kcj_all)))
end
end Mine
end
section
-- part C2
open PySem PySem.W PySem.Calls PyProof.Rows
namespace Mine
noncomputable section
/-- a pair comes back, newest of all -/
abbrev RT (x y : Int) (h₀ : Heap) (L : Addr) (m : Str → Option Value) (news : List (Addr × Obj)) (h' : Heap) (v : Value) : Prop :=
  ∃ D t1 t2 c, v = .ref D ∧ Fr h₀ L h' m ∧ News h₀ L h' ((D, tupO x y t1 t2 c) :: news) ∧ ∀ p ∈ news, p.1 < D
theorem sp_rt {prog : Program} {w : World} {mean : ExcName → Option Value} {mg mb : Str → Option Value} {f : Addr} {k : Nat} {vs : List Value} {need : List (Addr × Obj)}
    {x y : Int}
    {dp un : Nat} {gd : Option (List Code)} {cn : Str} {cs : Scope} {a : Addr} {ccd : Value} {cl : List (Str × Addr)} {outer : List Env} {A₀ : Around} {base h₀ : Heap} {L : Addr} {m : Str → Option Value} {news : List (Addr × Obj)} {s : Shared} {Q E : Value → Shared → Prop}
    (C : Sp prog w mean mg mb f k vs need (RT x y))
    (G : Gd prog w mean mg mb cs outer A₀ base h₀ L m news s.heap dp un k) (hn : ∀ p ∈ need, p ∈ news)
        (ret : ∀ (D : Addr) (t1 t2 : Tok) (c : Nat) (h' : Heap) (tk' : Nat), Fr h₀ L h' m → News h₀ L h' ((D, tupO x y t1 t2 c) :: news) → (∀ p ∈ news, p.1 < D) → Q (.ref D) { s with heap := h', toks := tk' }) :
    wpAny (model prog w) (ktrTop dp un gd cn cs L a ccd cl outer) (call (.ref f) vs) Q E s :=
  C dp un gd cn cs a ccd cl outer A₀ base h₀ L m news s Q E G.B G.F G.X G.N G.T G.hk hn G.hd G.hu (by intro v h' tk' R; obtain ⟨D, t1, t2, c, e, F', N', l⟩ := R; subst e; exact ret D t1 t2 c h' tk' F' N' l)

theorem rt_end {x y x' y' : Int} {h₀ h' : Heap} {L D : Addr} {m : Str → Option Value} {news news' : List (Addr × Obj)} {t1 t2 : Tok} {c : Nat}
    (e1 : x = x') (e2 : y = y') (F : Fr h₀ L h' m) (N : News h₀ L h' news') (hm : (D, tupO x' y' t1 t2 c) ∈ news') (hn : ∀ p ∈ news, p ∈ news') (hl : ∀ p ∈ news, p.1 < D) : RT x y h₀ L m news h' (.ref D) := by
  subst e1; subst e2
  refine ⟨D, t1, t2, c, rfl, F, fun p hp => ?_, hl⟩
  rcases List.mem_cons.mp hp with rfl | hp
  · exact N _ hm
  · exact N p (hn p hp)
theorem lt_drop {D : Addr} {news news' : List (Addr × Obj)} (h : ∀ p ∈ news', p.1 < D) (hs : ∀ p ∈ news, p ∈ news') : ∀ p ∈ news, p.1 < D := fun p hp => h p (hs p hp)

theorem lines_C2_1 : True := by
  k_with_none
  (k_with "mine lt" => (first | assumption | (refine' lt_drop ?ltac21 ?ltbc21; (case ltac21 => assumption); (case ltbc21 => kcj_all))))
  (k_with "mine rt" => ((refine' rt_end ?_ ?_ ?fFc22 ?fNc22 ?fmc22 ?fsc22 ?flc22; (case fFc22 => k_asm); (case fNc22 => assumption); (case fmc22 => k_mem); (case fsc22 => kcj_all); (case flc22 => k_extra "mine lt"))))
  trivial
def StripInv (c e sz ex : Int) : Prop := 0 < sz ∧ ∃ j : Nat, ex = e + j ∧ sz * 10 ^ j = c.natAbs


theorem strip_0 {k n c e : Int} (hI : Is k n c e) (hn : n.natAbs < 1000000000) (hk0 : k ≤ 0) (hk1 : -40 ≤ k) (h : (if c < 0 then -c else c) ≠ 0) :
    StripInv c e (if c < 0 then -c else c) e ∧ (0 < if c < 0 then -c else c) ∧ (if c < 0 then -c else c) < 1000000000 ∧ -40 ≤ e ∧ e ≤ 8 := by
  have hc0 : c ≠ 0 := by intro q; subst q; exact h rfl
  have h1 := hI.small hc0 hn
  have h2 := hI.range
  have h3 := hI.abs
  refine ⟨⟨by split <;> omega, 0, by simp, by simp; split <;> omega⟩, by split <;> omega, by split <;> omega, by omega, by omega⟩
theorem strip_is {k n c e sz ex : Int} (hI : Is k n c e) (h : StripInv c e sz ex) : ∃ j : Nat, ex = k + j ∧ sz * 10 ^ j = n.natAbs := by
  obtain ⟨i, he, hc, _⟩ := hI
  obtain ⟨_, j, hx, hs⟩ := h
  refine ⟨i + j, by omega, ?_⟩
  rw [Int.add_comm i j |> fun _ => Nat.add_comm i j, Int.pow_add, ← Int.mul_assoc, hs, ← hc, Int.natAbs_mul, Int.natCast_mul]
  have := pow10_pos i
  rw [Int.natAbs_of_nonneg (a := (10 : Int) ^ i) (by omega)]
theorem strip_j {n sz : Int} {j : Nat} (hn : n.natAbs < 1000000000) (h0 : 0 < sz) (hs : sz * 10 ^ j = n.natAbs) : j ≤ 8 ∧ sz ≤ n.natAbs ∧ n ≠ 0 := by
  have hp := pow10_pos j
  have hm : 0 < sz * 10 ^ j := Int.mul_pos h0 hp
  have hn0 : n ≠ 0 := by intro q; subst q; simp at hs; omega
  refine ⟨j_small (n := (n.natAbs : Int)) (c := sz) (by omega) (by simpa using hn) hs, ?_, hn0⟩
  have := abs_le_of_mul hs
  omega
theorem strip_s {k n c e sz ex : Int} (hI : Is k n c e) (hn : n.natAbs < 1000000000) (hk0 : k ≤ 0) (hk1 : -40 ≤ k) (h : StripInv c e sz ex) (hm : sz.fmod 10 = 0) :
    StripInv c e (sz.fdiv 10) (ex + 1) ∧ 0 < sz.fdiv 10 ∧ sz.fdiv 10 < 1000000000 ∧ -40 ≤ ex + 1 ∧ ex + 1 ≤ 8 := by
  rw [Int.fmod_eq_emod_of_nonneg _ (by decide)] at hm
  rw [Int.fdiv_eq_ediv_of_nonneg _ (by decide)]
  have h' : StripInv c e (sz / 10) (ex + 1) := by
    obtain ⟨h0, j, hx, hs⟩ := h
    refine ⟨by omega, j + 1, by omega, ?_⟩
    rw [pow10_succ, Int.mul_comm (10 ^ j) 10, ← Int.mul_assoc, show sz / 10 * 10 = sz from by omega, hs]
  obtain ⟨j, hx, hs⟩ := strip_is hI h'
  have h0 := h'.1
  have h3 := strip_j hn h0 hs
  exact ⟨h', h0, by omega, by omega, by omega⟩
theorem strip_m {c e sz ex : Int} (h : StripInv c e sz ex) : (sz.fdiv 10).toNat < sz.toNat := by
  rw [Int.fdiv_eq_ediv_of_nonneg _ (by decide)]
  have := h.1
  omega
theorem strip_zero {k n c e : Int} (hI : Is k n c e) (h : (if c < 0 then -c else c) = 0) : (nf k n).1 = 0 ∧ (nf k n).2 = 0 := by
  have hc : c = 0 := by split at h <;> omega
  obtain ⟨j, _, hj, _⟩ := hI
  subst hc
  have : n = 0 := by rw [← hj]; simp
  subst this
  rw [nf_zero]; exact ⟨rfl, rfl⟩
theorem strip_pos {k n c e sz ex : Int} (hI : Is k n c e) (hn : n.natAbs < 1000000000) (h : StripInv c e sz ex) (hm : ¬ sz.fmod 10 = 0) (hc : ¬ c < 0) : (nf k n).1 = sz ∧ (nf k n).2 = ex := by
  rw [Int.fmod_eq_emod_of_nonneg _ (by decide)] at hm
  obtain ⟨j, hx, hs⟩ := strip_is hI h
  obtain ⟨_, _, hn0⟩ := strip_j hn h.1 hs
  have hnn : 0 ≤ n := by
    obtain ⟨i, _, hi, _⟩ := hI
    rw [← hi]; exact Int.mul_nonneg (by omega) (Int.le_of_lt (pow10_pos i))
  rw [nf_of (c := sz) (e := ex) hn0 j hx (by omega) (by omega)]
  exact ⟨rfl, rfl⟩
theorem strip_neg {k n c e sz ex : Int} (hI : Is k n c e) (hn : n.natAbs < 1000000000) (h : StripInv c e sz ex) (hm : ¬ sz.fmod 10 = 0) (hc : c < 0) : (nf k n).1 = -sz ∧ (nf k n).2 = ex := by
  rw [Int.fmod_eq_emod_of_nonneg _ (by decide)] at hm
  obtain ⟨j, hx, hs⟩ := strip_is hI h
  obtain ⟨_, _, hn0⟩ := strip_j hn h.1 hs
  have hnn : n < 0 := by
    obtain ⟨i, _, hi, _⟩ := hI
    rw [← hi]; exact Int.mul_neg_of_neg_of_pos (by omega) (pow10_pos i)
  rw [nf_of (c := -sz) (e := ex) hn0 j hx (by rw [Int.neg_mul]; omega) (by omega)]
  exact ⟨rfl, rfl⟩


theorem lines_C2_2 : True := by
  (k_with "mine gs" => ((refine' Gd.mk ?k1c23 ?k2c23 ?k3c23 ?k4c23 ?k5c23 ?kKc23 ?kdc23 ?kuc23; (case k1c23 => k_asm); (case k2c23 => k_asm); (case k3c23 => k_asm); (case k4c23 => k_asm); (case k5c23 => k_asm); (case kKc23 => first | exact rfl | assumption); (case kdc23 => ktr_room); (case kuc23 => ktr_units))))
  (k_with "call ref" => ((k_here; (with_reducible show wpAny _ _ (call (Value.ref 44) _) _ _ _); k_dflt (refine' sp_use (fig_spec _ _ ?h0c24 ?h1c24) ?kgc24 ?knc24 ?_; (case h0c24 => omega); (case h1c24 => omega); (case kgc24 => k_extra "mine gs"); (case knc24 => exact fun _ zzh9 => nomatch zzh9); intro zzv9 zzh9 zztk9 zzR9; obtain ⟨zzr9, zzt9, zze9, zzP9, zzF9, zzN9⟩ := zzR9; subst zze9; (try dsimp only); (try k_fold); (try k_sweep)))))
  trivial
theorem made_spec {prog : Program} {w : World} {mean : ExcName → Option Value} {mg mb : Str → Option Value} (k n c e : Int) (t1 t2 t3 : Tok) (hI : Is k n c e) (hn : n.natAbs < 1000000000) (hk0 : k ≤ 0) (hk1 : -40 ≤ k) :
    Sp prog w mean mg mb 58 2 [.int c t1, .int e t2, .int 9 t3] [] (RT (nf k n).1 (nf k n).2) := by
  unfold Sp
  intro dp un gd cn cs a ccd cl outer A₀ base h₀ L m news s Q E B F X N T hk hR hd hu hret
  (have dummy : (PySem.Challenge.rw_tk0005_01.Holds → Frag.In (Mine.hd.heap_39 w.params) h₀ → True) := by (k_fill; intros; trivial))
  clear dummy
  have hc := hI.abs
  have hc' : c.natAbs < 1000000000 := by omega
  refine wpAny_call ?_
  (refine' code_def (binds := [(Str.ofString "coefficient", .int c t1), (Str.ofString "exponent", .int e t2), (Str.ofString "digits", .int 9 t3)]) ?k1 ?k2 ?k3 ?k4 ?k5 ?kA ?kF ?kK ?k6 ?k7 ?k8 ?k9 ?kB ?_ ?c2 ?c3 ?c4 ?c5; (case kA => exact rfl); (case kF => exact rfl); (case kK => assumption); (case k1 => k_asm); (case k2 => k_asm); (case k3 => k_asm); (case k4 => k_asm); (case k5 => k_asm); (case k6 => k_is); (case k7 => k_is); (case k8 => ktr_room); (case k9 => exact BindsTo.of_eq rfl); (case c5 => decide); (case kB => exact locs rfl); (case c2 => exact rfl); (case c3 => exact rfl); (case c4 => exact rfl); k_whole; intro g' L' h' FG' F' N' B' X' T'; (try dsimp only); (try k_fold))
  k_with "exec While Compare cons nil" => k_while (fun _ sz ex => StripInv c e sz ex ∧ 0 < sz ∧ sz < 1000000000 ∧ -40 ≤ ex ∧ ex ≤ 8) (fun _ sz _ => sz.toNat) "size" "exponent"
  k_with "state" => first | exact strip_0 hI hn hk0 hk1 (by assumption) | exact strip_s hI hn hk0 hk1 (by assumption) (by assumption)
  k_with "measure" => exact strip_m (by assumption)
  w_top off
  k_steps
  all_goals refine hret _ _ _ ?_
  all_goals k_extra "mine rt"
  · exact (strip_zero hI (by assumption)).1
  · exact (strip_zero hI (by assumption)).2
  · exact (strip_neg hI hn (by assumption) (by assumption) (by assumption)).1
  · exact (strip_neg hI hn (by assumption) (by assumption) (by assumption)).2
  · exact (strip_pos hI hn (by assumption) (by assumption) (by assumption)).1
  · exact (strip_pos hI hn (by assumption) (by assumption) (by assumption)).2
end
end Mine
end
section
-- part C3
open PySem PySem.W PySem.Calls PyProof.Rows
namespace Mine
noncomputable section

theorem lines_C3_1 : True := by
  k_with_none
  (k_with "mine need" => (first | exact List.forall_mem_nil _ | (intro zzp9 zzhp9; (simp only [List.mem_cons, List.not_mem_nil, or_false] at zzhp9); (rcases zzhp9 with rfl | rfl | rfl | rfl) <;> k_mem)))
  (k_with "mine gs" => ((refine' Gd.mk ?k1c32 ?k2c32 ?k3c32 ?k4c32 ?k5c32 ?kKc32 ?kdc32 ?kuc32; (case k1c32 => k_asm); (case k2c32 => k_asm); (case k3c32 => k_asm); (case k4c32 => k_asm); (case k5c32 => k_asm); (case kKc32 => first | exact rfl | assumption); (case kdc32 => ktr_room); (case kuc32 => ktr_units))))
  (k_with "mine got" => ((intro zzD9 zzt9 zzu9 zzc9 zzh9 zztk9 zzF9 zzN9 zzl9; (try dsimp only); (try k_fold); (try k_sweep))))
  (k_with "mine lt" => (first | assumption | (refine' lt_drop ?ltac34 ?ltbc34; (case ltac34 => assumption); (case ltbc34 => kcj_all))))
  (k_with "mine rt" => ((refine' rt_end ?_ ?_ ?fFc35 ?fNc35 ?fmc35 ?fsc35 ?flc35; (case fFc35 => k_asm); (case fNc35 => assumption); (case fmc35 => k_mem); (case fsc35 => kcj_all); (case flc35 => k_extra "mine lt"))))
  (k_with "mine is" => ((refine' Is.alike2 ?iac36 ?ibc36; (case iac36 => assumption); (case ibc36 => assumption))))
  trivial
theorem pow10_step {prog : Program} {w : World} {A : Around} {E : Value → Shared → Prop} {s : Shared} {n : Int} {t u : Tok} {Q : Value → Shared → Prop} (hn : 0 ≤ n) (hm : n ≤ 1000) (h : Q (.int (10 ^ n.toNat) s.toks) { s with toks := s.toks + 1 }) : wpAny (model prog w) A (binaryOp .Pow (.int 10 t) (.int n u)) Q E s :=
  pow_int hn (by have : Builtin.Int.intBits 10 = 4 := by decide
                 rw [this]; omega) h

theorem lines_C3_2 : True := by
  (k_with "binaryOp Pow int int" => ((k_here; refine' pow10_step ?p1c37 ?p2c37 ?_; (case p1c37 => first | assumption | (split <;> omega)); (case p2c37 => first | assumption | (split <;> omega)))))
  (k_with "call ref" => ((k_here; (with_reducible show wpAny _ _ (call (Value.ref 58) _) _ _ _); k_dflt (refine' sp_rt (made_spec _ _ _ _ _ _ _ ?hIc38 ?hnc38 ?h0c38 ?h1c38) ?kgc38 ?knc38 ?_; (case hIc38 => k_extra "mine is"); (case hnc38 => first | assumption | omega); (case h0c38 => first | assumption | omega); (case h1c38 => first | assumption | omega); (case kgc38 => k_extra "mine gs"); (case knc38 => k_extra "mine need"); k_extra "mine got"))))
  (k_with "call ref" => ((k_here; (with_reducible show wpAny _ _ (call (Value.ref 101) _) _ _ _); k_dflt (refine' enter_by [Str.ofString "a", Str.ofString "b"] ?k1c39 ?k2c39 ?k3c39 ?k4c39 ?k5c39 ?kAc39 ?kFc39 ?kKc39 ?k6c39 ?k7c39 ?k8c39 ?k9c39 ?kBc39 ?c2c39 ?c3c39 ?c4c39 ?c5c39 ?_; (case kAc39 => exact rfl); (case kFc39 => exact rfl); (case kKc39 => first | exact rfl | assumption); (case k1c39 => k_asm); (case k2c39 => k_asm); (case k3c39 => k_asm); (case k4c39 => k_asm); (case k5c39 => k_asm); (case k6c39 => k_is); (case k7c39 => k_is); (case k8c39 => ktr_room); (case k9c39 => exact BindsTo.of_eq rfl); (case kBc39 => exact locs rfl); (case c2c39 => exact rfl); (case c3c39 => exact rfl); (case c4c39 => exact rfl); (case c5c39 => decide); k_whole; intro zzg' zzL' zzh' zzFG' zzF' zzN' zzB' zzX' zzT'; (try dsimp only [List.zip, List.zipWith, List.length, Nat.zero_add] at *); (try k_fold)))))
  trivial
theorem add_spec {prog : Program} {w : World} {mean : ExcName → Option Value} {mg mb : Str → Option Value} (k A B : Int) (p q : Addr) (x y x' y' : Int) (t1 t2 u1 u2 t3 : Tok) (c c' : Nat) (hA : Is k A x y) (hB : Is k B x' y') (hn : (A + B).natAbs < 1000000000) (hx : x.natAbs < 1000000000) (hx' : x'.natAbs < 1000000000) (hk0 : k ≤ 0) (hk1 : -40 ≤ k) :
    Sp prog w mean mg mb 108 3 [.ref p, .ref q, .int 9 t3] [(p, tupO x y t1 t2 c), (q, tupO x' y' u1 u2 c')] (RT (nf k (A + B)).1 (nf k (A + B)).2) := by
  unfold Sp
  intro dp un gd cn cs a ccd cl outer A₀ base h₀ L m news s Q E B F X N T hk hR hd hu hret
  (have dummy : (PySem.Challenge.rw_tk0005_01.Holds → Frag.In (Mine.hd.heap_39 w.params) h₀ → True) := by (k_fill; intros; trivial))
  clear dummy
  have hp9 : (p, tupO x y t1 t2 c) ∈ news := hR _ (.head _)
  have hq9 : (q, tupO x' y' u1 u2 c') ∈ news := hR _ (.tail _ (.head _))
  have hrA := hA.range
  have hrB := hB.range
  k_dflt (refine' enter_by [Str.ofString "a", Str.ofString "b", Str.ofString "digits"] ?k1 ?k2 ?k3 ?k4 ?k5 ?kA ?kF ?kK ?k6 ?k7 ?k8 ?k9 ?kB ?c2 ?c3 ?c4 ?c5 ?_; (case kA => exact rfl); (case kF => exact rfl); (case kK => first | exact rfl | assumption); (case k1 => k_asm); (case k2 => k_asm); (case k3 => k_asm); (case k4 => k_asm); (case k5 => k_asm); (case k6 => k_is); (case k7 => k_is); (case k8 => ktr_room); (case k9 => exact BindsTo.of_eq rfl); (case kB => exact locs rfl); (case c2 => exact rfl); (case c3 => exact rfl); (case c4 => exact rfl); (case c5 => decide); k_whole; intro g' L' h' FG' F' N' B' X' T'; (try dsimp only [List.zip, List.zipWith, List.length, Nat.zero_add] at *); (try k_fold))
  w_top off
  k_steps
  all_goals refine hret _ _ _ ?_
  all_goals k_extra "mine rt"
  all_goals rfl
end
end Mine
end
section
-- part C4
open PySem PySem.W PySem.Calls PyProof.Rows
namespace Mine
noncomputable section



theorem lines_C4_1 : True := by
  k_with_none
  (k_with "subscriptTail Name Constant ref int" => ((k_here; k_dflt (refine' item_tupleT ?tc41 ?ac41 ?bc41 ?cc41 ?dc41 ?_; (case tc41 => exact News.isTup (by k_asm) (by k_extra "mine mem")); (case ac41 => decide); (case bc41 => decide); (case cc41 => rfl); (case dc41 => rfl); k_whole))))
  (k_with "mine item" => ((k_here; k_dflt (refine' lst_item ?tc42 ?ac42 ?bc42 ?cc42 ?dc42 ?_; (case tc42 => k_asm); (case ac42 => k_extra "mine mem"); (case bc42 => first | decide | omega); (case cc42 => first | decide | omega); (case dc42 => rfl); k_whole))))
  (k_with "subscriptTail Name Constant ref int" => (k_extra "mine item"))
  (k_with "subscriptTail Name Name ref int" => (k_extra "mine item"))
  (k_with "subscriptTail Name BinOp ref int" => (k_extra "mine item"))
  (k_with "mine gotb" => ((intro zzh9 zztk9 zzF9 zzN9; (try dsimp only); (try k_fold); (try k_sweep))))
  (k_with "mine mem" => (first | (with_reducible assumption) | exact List.Mem.head _ | (refine' List.mem_cons_of_mem _ ?mmc47; (case mmc47 => k_extra "mine mem"))))
  (k_with "mine need" => (first | exact List.forall_mem_nil _ | (refine' List.forall_mem_cons.mpr (And.intro ?nac48 ?nbc48); (case nac48 => k_mem); (case nbc48 => k_extra "mine need"))))
  (k_with "mine gs" => ((refine' Gd.mk ?k1c49 ?k2c49 ?k3c49 ?k4c49 ?k5c49 ?kKc49 ?kdc49 ?kuc49; (case k1c49 => k_asm); (case k2c49 => k_asm); (case k3c49 => k_asm); (case k4c49 => k_asm); (case k5c49 => k_asm); (case kKc49 => first | exact rfl | assumption); (case kdc49 => ktr_room); (case kuc49 => ktr_units))))
  (k_with "mine got" => ((intro zzD9 zzt9 zzu9 zzc9 zzh9 zztk9 zzF9 zzN9 zzl9; (try dsimp only); (try k_fold); (try k_sweep))))
  (k_with "mine lt" => (first | assumption | (refine' lt_drop ?ltac411 ?ltbc411; (case ltac411 => assumption); (case ltbc411 => kcj_all))))
  (k_with "mine rt" => ((refine' rt_end ?_ ?_ ?fFc412 ?fNc412 ?fmc412 ?fsc412 ?flc412; (case fFc412 => k_asm); (case fNc412 => assumption); (case fmc412 => k_mem); (case fsc412 => kcj_all); (case flc412 => k_extra "mine lt"))))
  (k_with "mine ne" => (first | (refine' ne_of_lts ?ltac413 ?ltbc413; (case ltac413 => assumption); (case ltbc413 => kcj_all)) | (refine' ne_of_nes ?ltac413 ?ltbc413; (case ltac413 => assumption); (case ltbc413 => kcj_all))))
  (k_with "mine rn" => ((refine' rn_end ?n0c414 ?n1c414 ?_ ?_ ?n2c414 ?n3c414 ?n4c414 ?n5c414 ?n6c414 ?n7c414 ?n8c414 ?n9c414; (case n0c414 => assumption); (case n1c414 => assumption); (case n2c414 => assumption); (case n3c414 => assumption); (case n4c414 => assumption); (case n5c414 => k_asm); (case n6c414 => assumption); (case n7c414 => k_mem); (case n8c414 => kcj_all); (case n9c414 => k_extra "mine ne"))))
  (k_with "mine is" => (first | assumption | (refine' Is.neg ?iac415; (case iac415 => assumption))))
  (k_with "call ref" => ((k_here; (with_reducible show wpAny _ _ (call (Value.ref 108) _) _ _ _); k_dflt (refine' sp_rt (add_spec _ _ _ _ _ _ _ _ _ _ _ _ _ _ _ _ ?hAc416 ?hBc416 ?hnc416 ?hxc416 ?hxpc416 ?h0c416 ?h1c416) ?kgc416 ?knc416 ?_; (case kgc416 => k_extra "mine gs"); (case knc416 => k_extra "mine need"); (case hAc416 => k_extra "mine is"); (case hBc416 => k_extra "mine is"); (case hnc416 => first | assumption | omega); (case hxc416 => first | assumption | omega); (case hxpc416 => first | assumption | omega); (case h0c416 => first | assumption | omega); (case h1c416 => first | assumption | omega); k_extra "mine got"))))
  (k_with "call ref" => ((k_here; (with_reducible show wpAny _ _ (call (Value.ref 94) _) _ _ _); k_dflt (refine' enter_by [Str.ofString "a"] ?k1c417 ?k2c417 ?k3c417 ?k4c417 ?k5c417 ?kAc417 ?kFc417 ?kKc417 ?k6c417 ?k7c417 ?k8c417 ?k9c417 ?kBc417 ?c2c417 ?c3c417 ?c4c417 ?c5c417 ?_; (case kAc417 => exact rfl); (case kFc417 => exact rfl); (case kKc417 => first | exact rfl | assumption); (case k1c417 => k_asm); (case k2c417 => k_asm); (case k3c417 => k_asm); (case k4c417 => k_asm); (case k5c417 => k_asm); (case k6c417 => k_is); (case k7c417 => k_is); (case k8c417 => ktr_room); (case k9c417 => exact BindsTo.of_eq rfl); (case kBc417 => exact locs rfl); (case c2c417 => exact rfl); (case c3c417 => exact rfl); (case c4c417 => exact rfl); (case c5c417 => decide); k_whole; intro zzg' zzL' zzh' zzFG' zzF' zzN' zzB' zzX' zzT'; (try dsimp only [List.zip, List.zipWith, List.length, Nat.zero_add] at *); (try k_fold)))))
  trivial
theorem sub_spec {prog : Program} {w : World} {mean : ExcName → Option Value} {mg mb : Str → Option Value} (k A B : Int) (p q : Addr) (x y x' y' : Int) (t1 t2 u1 u2 t3 : Tok) (c c' : Nat) (hA : Is k A x y) (hB : Is k B x' y') (hn : (A - B).natAbs < 1000000000) (hx : x.natAbs < 1000000000) (hx' : x'.natAbs < 1000000000) (hk0 : k ≤ 0) (hk1 : -40 ≤ k) :
    Sp prog w mean mg mb 115 4 [.ref p, .ref q, .int 9 t3] [(p, tupO x y t1 t2 c), (q, tupO x' y' u1 u2 c')] (RT (nf k (A - B)).1 (nf k (A - B)).2) := by
  unfold Sp
  intro dp un gd cn cs a ccd cl outer A₀ base h₀ L m news s Q E B F X N T hk hR hd hu hret
  (have dummy : (PySem.Challenge.rw_tk0005_01.Holds → Frag.In (Mine.hd.heap_39 w.params) h₀ → True) := by (k_fill; intros; trivial))
  clear dummy
  have hp9 : (p, tupO x y t1 t2 c) ∈ news := hR _ (.head _)
  have hq9 : (q, tupO x' y' u1 u2 c') ∈ news := hR _ (.tail _ (.head _))
  rw [Int.sub_eq_add_neg] at hret hn
  k_dflt (refine' enter_by [Str.ofString "a", Str.ofString "b", Str.ofString "digits"] ?k1 ?k2 ?k3 ?k4 ?k5 ?kA ?kF ?kK ?k6 ?k7 ?k8 ?k9 ?kB ?c2 ?c3 ?c4 ?c5 ?_; (case kA => exact rfl); (case kF => exact rfl); (case kK => first | exact rfl | assumption); (case k1 => k_asm); (case k2 => k_asm); (case k3 => k_asm); (case k4 => k_asm); (case k5 => k_asm); (case k6 => k_is); (case k7 => k_is); (case k8 => ktr_room); (case k9 => exact BindsTo.of_eq rfl); (case kB => exact locs rfl); (case c2 => exact rfl); (case c3 => exact rfl); (case c4 => exact rfl); (case c5 => decide); k_whole; intro g' L' h' FG' F' N' B' X' T'; (try dsimp only [List.zip, List.zipWith, List.length, Nat.zero_add] at *); (try k_fold))
  w_top off
  k_steps
  all_goals refine hret _ _ _ ?_
  all_goals k_extra "mine rt"
  all_goals rfl


theorem lines_C4_2 : True := by
  (k_with "mine is" => ((refine' Is.mul ?iac418 ?ibc418 ?icc418; (case iac418 => assumption); (case ibc418 => assumption); (case icc418 => first | assumption | omega))))
  (k_with "call ref" => ((k_here; (with_reducible show wpAny _ _ (call (Value.ref 58) _) _ _ _); k_dflt (refine' sp_rt (made_spec _ _ _ _ _ _ _ ?hIc419 ?hnc419 ?h0c419 ?h1c419) ?kgc419 ?knc419 ?_; (case hIc419 => k_extra "mine is"); (case hnc419 => first | assumption | omega); (case h0c419 => first | assumption | omega); (case h1c419 => first | assumption | omega); (case kgc419 => k_extra "mine gs"); (case knc419 => k_extra "mine need"); k_extra "mine got"))))
  trivial
theorem mul_spec {prog : Program} {w : World} {mean : ExcName → Option Value} {mg mb : Str → Option Value} (k l A B : Int) (p q : Addr) (x y x' y' : Int) (t1 t2 u1 u2 t3 : Tok) (c c' : Nat) (hA : Is k A x y) (hB : Is l B x' y') (hn : (A * B).natAbs < 1000000000) (hx : x.natAbs < 1000000000) (hy : y + y' ≤ k + l + 60) (hk0 : k + l ≤ 0) (hk1 : -40 ≤ k + l) :
    Sp prog w mean mg mb 122 3 [.ref p, .ref q, .int 9 t3] [(p, tupO x y t1 t2 c), (q, tupO x' y' u1 u2 c')] (RT (nf (k + l) (A * B)).1 (nf (k + l) (A * B)).2) := by
  unfold Sp
  intro dp un gd cn cs a ccd cl outer A₀ base h₀ L m news s Q E B F X N T hk hR hd hu hret
  (have dummy : (PySem.Challenge.rw_tk0005_01.Holds → Frag.In (Mine.hd.heap_39 w.params) h₀ → True) := by (k_fill; intros; trivial))
  clear dummy
  have hp9 : (p, tupO x y t1 t2 c) ∈ news := hR _ (.head _)
  have hq9 : (q, tupO x' y' u1 u2 c') ∈ news := hR _ (.tail _ (.head _))
  k_dflt (refine' enter_by [Str.ofString "a", Str.ofString "b", Str.ofString "digits"] ?k1 ?k2 ?k3 ?k4 ?k5 ?kA ?kF ?kK ?k6 ?k7 ?k8 ?k9 ?kB ?c2 ?c3 ?c4 ?c5 ?_; (case kA => exact rfl); (case kF => exact rfl); (case kK => first | exact rfl | assumption); (case k1 => k_asm); (case k2 => k_asm); (case k3 => k_asm); (case k4 => k_asm); (case k5 => k_asm); (case k6 => k_is); (case k7 => k_is); (case k8 => ktr_room); (case k9 => exact BindsTo.of_eq rfl); (case kB => exact locs rfl); (case c2 => exact rfl); (case c3 => exact rfl); (case c4 => exact rfl); (case c5 => decide); k_whole; intro g' L' h' FG' F' N' B' X' T'; (try dsimp only [List.zip, List.zipWith, List.length, Nat.zero_add] at *); (try k_fold))
  w_top off
  k_steps
  all_goals refine hret _ _ _ ?_
  all_goals k_extra "mine rt"
  all_goals rfl
end
end Mine
end
section
-- part C5
open PySem PySem.W PySem.Calls PyProof.Rows
namespace Mine
noncomputable section


theorem lines_C5_1 : True := by
  k_with_none
  (k_with "subscriptTail Name Constant ref int" => ((k_here; k_dflt (refine' item_tupleT ?tc51 ?ac51 ?bc51 ?cc51 ?dc51 ?_; (case tc51 => exact News.isTup (by k_asm) (by k_extra "mine mem")); (case ac51 => decide); (case bc51 => decide); (case cc51 => rfl); (case dc51 => rfl); k_whole))))
  (k_with "mine item" => ((k_here; k_dflt (refine' lst_item ?tc52 ?ac52 ?bc52 ?cc52 ?dc52 ?_; (case tc52 => k_asm); (case ac52 => k_extra "mine mem"); (case bc52 => first | decide | omega); (case cc52 => first | decide | omega); (case dc52 => rfl); k_whole))))
  (k_with "subscriptTail Name Constant ref int" => (k_extra "mine item"))
  (k_with "subscriptTail Name Name ref int" => (k_extra "mine item"))
  (k_with "subscriptTail Name BinOp ref int" => (k_extra "mine item"))
  (k_with "mine gotb" => ((intro zzh9 zztk9 zzF9 zzN9; (try dsimp only); (try k_fold); (try k_sweep))))
  (k_with "mine mem" => (first | (with_reducible assumption) | exact List.Mem.head _ | (refine' List.mem_cons_of_mem _ ?mmc57; (case mmc57 => k_extra "mine mem"))))
  (k_with "mine need" => (first | exact List.forall_mem_nil _ | (refine' List.forall_mem_cons.mpr (And.intro ?nac58 ?nbc58); (case nac58 => k_mem); (case nbc58 => k_extra "mine need"))))
  (k_with "mine gs" => ((refine' Gd.mk ?k1c59 ?k2c59 ?k3c59 ?k4c59 ?k5c59 ?kKc59 ?kdc59 ?kuc59; (case k1c59 => k_asm); (case k2c59 => k_asm); (case k3c59 => k_asm); (case k4c59 => k_asm); (case k5c59 => k_asm); (case kKc59 => first | exact rfl | assumption); (case kdc59 => ktr_room); (case kuc59 => ktr_units))))
  (k_with "mine got" => ((intro zzD9 zzt9 zzu9 zzc9 zzh9 zztk9 zzF9 zzN9 zzl9; (try dsimp only); (try k_fold); (try k_sweep))))
  (k_with "mine lt" => (first | assumption | (refine' lt_drop ?ltac511 ?ltbc511; (case ltac511 => assumption); (case ltbc511 => kcj_all))))
  (k_with "mine rt" => ((refine' rt_end ?_ ?_ ?fFc512 ?fNc512 ?fmc512 ?fsc512 ?flc512; (case fFc512 => k_asm); (case fNc512 => assumption); (case fmc512 => k_mem); (case fsc512 => kcj_all); (case flc512 => k_extra "mine lt"))))
  (k_with "mine ne" => (first | (refine' ne_of_lts ?ltac513 ?ltbc513; (case ltac513 => assumption); (case ltbc513 => kcj_all)) | (refine' ne_of_nes ?ltac513 ?ltbc513; (case ltac513 => assumption); (case ltbc513 => kcj_all))))
  (k_with "mine rn" => ((refine' rn_end ?n0c514 ?n1c514 ?_ ?_ ?n2c514 ?n3c514 ?n4c514 ?n5c514 ?n6c514 ?n7c514 ?n8c514 ?n9c514; (case n0c514 => assumption); (case n1c514 => assumption); (case n2c514 => assumption); (case n3c514 => assumption); (case n4c514 => assumption); (case n5c514 => k_asm); (case n6c514 => assumption); (case n7c514 => k_mem); (case n8c514 => kcj_all); (case n9c514 => k_extra "mine ne"))))
  trivial
/-- a bool comes back -/
abbrev RB (b : Bool) (h₀ : Heap) (L : Addr) (m : Str → Option Value) (news : List (Addr × Obj)) (h' : Heap) (v : Value) : Prop :=
  v = .bool b ∧ Fr h₀ L h' m ∧ News h₀ L h' news
theorem sp_rb {prog : Program} {w : World} {mean : ExcName → Option Value} {mg mb : Str → Option Value} {f : Addr} {k : Nat} {vs : List Value} {need : List (Addr × Obj)}
    {b : Bool}
    {dp un : Nat} {gd : Option (List Code)} {cn : Str} {cs : Scope} {a : Addr} {ccd : Value} {cl : List (Str × Addr)} {outer : List Env} {A₀ : Around} {base h₀ : Heap} {L : Addr} {m : Str → Option Value} {news : List (Addr × Obj)} {s : Shared} {Q E : Value → Shared → Prop}
    (C : Sp prog w mean mg mb f k vs need (RB b))
    (G : Gd prog w mean mg mb cs outer A₀ base h₀ L m news s.heap dp un k) (hn : ∀ p ∈ need, p ∈ news)
        (ret : ∀ (h' : Heap) (tk' : Nat), Fr h₀ L h' m → News h₀ L h' news → Q (.bool b) { s with heap := h', toks := tk' }) :
    wpAny (model prog w) (ktrTop dp un gd cn cs L a ccd cl outer) (call (.ref f) vs) Q E s :=
  C dp un gd cn cs a ccd cl outer A₀ base h₀ L m news s Q E G.B G.F G.X G.N G.T G.hk hn G.hd G.hu (by intro v h' tk' R; obtain ⟨e, F', N'⟩ := R; subst e; exact ret h' tk' F' N')
theorem rb_end {b b' : Bool} {h₀ h' : Heap} {L : Addr} {m : Str → Option Value} {news news' : List (Addr × Obj)} (e : b = b') (F : Fr h₀ L h' m) (N : News h₀ L h' news') (hn : ∀ p ∈ news, p ∈ news') : RB b h₀ L m news h' (.bool b') := by
  subst e; exact ⟨rfl, F, fun p hp => N p (hn p hp)⟩
theorem lines_C5_2 : True := by
  (k_with "mine rb" => ((refine' rb_end ?_ ?fFc515 ?fNc515 ?fsc515; (case fFc515 => k_asm); (case fNc515 => assumption); (case fsc515 => kcj_all))))
  trivial
theorem nf_abs {k n : Int} (hk : k ≤ 0) (hk' : -50 ≤ k) (hb : n.natAbs < 1000000000) : (nf k n).1.natAbs < 1000000000 := by
  have := (is_nf hk hk' hb).abs
  omega
theorem nf_top {k n : Int} (hk : k ≤ 0) (hk' : -50 ≤ k) (hb : n.natAbs < 1000000000) : (nf k n).2 ≤ 8 := by
  by_cases h : n = 0
  · subst h; rw [nf_zero]; decide
  · obtain ⟨j, h1, h2, _⟩ := nf_spec (k := k) h
    have := j_small h hb h2
    omega
theorem lines_C5_3 : True := by
  (k_with "mine is" => (first | assumption | (refine' is_nf ?iac516 ?ibc516 ?icc516; (case iac516 => first | assumption | omega); (case ibc516 => first | assumption | omega); (case icc516 => first | assumption | omega)) | exact Is.self _ _))
  trivial
theorem isw_t {prog : Program} {w : World} {mean : ExcName → Option Value} {mg mb : Str → Option Value} (p : Addr) (x y : Int) (t1 t2 : Tok) (c : Nat) :
    Sp prog w mean mg mb 157 1 [.ref p] [(p, tupO x y t1 t2 c)] (RB false) := by
  unfold Sp
  intro dp un gd cn cs a ccd cl outer A₀ base h₀ L m news s Q E B F X N T hk hR hd hu hret
  (have dummy : (PySem.Challenge.rw_tk0005_01.Holds → Frag.In (Mine.hd.heap_39 w.params) h₀ → True) := by (k_fill; intros; trivial))
  clear dummy
  have hp9 : (p, tupO x y t1 t2 c) ∈ news := hR _ (.head _)
  k_dflt (refine' enter_by [Str.ofString "value"] ?k1 ?k2 ?k3 ?k4 ?k5 ?kA ?kF ?kK ?k6 ?k7 ?k8 ?k9 ?kB ?c2 ?c3 ?c4 ?c5 ?_; (case kA => exact rfl); (case kF => exact rfl); (case kK => first | exact rfl | assumption); (case k1 => k_asm); (case k2 => k_asm); (case k3 => k_asm); (case k4 => k_asm); (case k5 => k_asm); (case k6 => k_is); (case k7 => k_is); (case k8 => ktr_room); (case k9 => exact BindsTo.of_eq rfl); (case kB => exact locs rfl); (case c2 => exact rfl); (case c3 => exact rfl); (case c4 => exact rfl); (case c5 => decide); k_whole; intro g' L' h' FG' F' N' B' X' T'; (try dsimp only [List.zip, List.zipWith, List.length, Nat.zero_add] at *); (try k_fold))
  w_top off
  k_steps
  all_goals refine hret _ _ _ ?_
  all_goals k_extra "mine rb"
  all_goals rfl
theorem isw_i {prog : Program} {w : World} {mean : ExcName → Option Value} {mg mb : Str → Option Value} (n : Int) (t : Tok) :
    Sp prog w mean mg mb 157 1 [.int n t] [] (RB true) := by
  unfold Sp
  intro dp un gd cn cs a ccd cl outer A₀ base h₀ L m news s Q E B F X N T hk hR hd hu hret
  (have dummy : (PySem.Challenge.rw_tk0005_01.Holds → Frag.In (Mine.hd.heap_39 w.params) h₀ → True) := by (k_fill; intros; trivial))
  clear dummy
  k_dflt (refine' enter_by [Str.ofString "value"] ?k1 ?k2 ?k3 ?k4 ?k5 ?kA ?kF ?kK ?k6 ?k7 ?k8 ?k9 ?kB ?c2 ?c3 ?c4 ?c5 ?_; (case kA => exact rfl); (case kF => exact rfl); (case kK => first | exact rfl | assumption); (case k1 => k_asm); (case k2 => k_asm); (case k3 => k_asm); (case k4 => k_asm); (case k5 => k_asm); (case k6 => k_is); (case k7 => k_is); (case k8 => ktr_room); (case k9 => exact BindsTo.of_eq rfl); (case kB => exact locs rfl); (case c2 => exact rfl); (case c3 => exact rfl); (case c4 => exact rfl); (case c5 => decide); k_whole; intro g' L' h' FG' F' N' B' X' T'; (try dsimp only [List.zip, List.zipWith, List.length, Nat.zero_add] at *); (try k_fold))
  w_top off
  k_steps
  all_goals refine hret _ _ _ ?_
  all_goals k_extra "mine rb"
  all_goals rfl
theorem lines_C5_4 : True := by
  (k_with "call ref" => ((k_here; (with_reducible show wpAny _ _ (call (Value.ref 58) _) _ _ _); k_dflt (refine' sp_rt (made_spec _ _ _ _ _ _ _ ?hIc517 ?hnc517 ?h0c517 ?h1c517) ?kgc517 ?knc517 ?_; (case hIc517 => k_extra "mine is"); (case hnc517 => first | assumption | omega); (case h0c517 => first | assumption | omega); (case h1c517 => first | assumption | omega); (case kgc517 => k_extra "mine gs"); (case knc517 => k_extra "mine need"); k_extra "mine got"))))
  trivial
theorem dec_t {prog : Program} {w : World} {mean : ExcName → Option Value} {mg mb : Str → Option Value} (p : Addr) (x y : Int) (t1 t2 : Tok) (c : Nat) (k A : Int) (t3 : Tok) (hA : Is k A x y) (hn : A.natAbs < 1000000000) (hk0 : k ≤ 0) (hk1 : -40 ≤ k) :
    Sp prog w mean mg mb 86 3 [.ref p, .int 9 t3] [(p, tupO x y t1 t2 c)] (RT (nf k A).1 (nf k A).2) := by
  unfold Sp
  intro dp un gd cn cs a ccd cl outer A₀ base h₀ L m news s Q E B F X N T hk hR hd hu hret
  (have dummy : (PySem.Challenge.rw_tk0005_01.Holds → Frag.In (Mine.hd.heap_39 w.params) h₀ → True) := by (k_fill; intros; trivial))
  clear dummy
  have hp9 : (p, tupO x y t1 t2 c) ∈ news := hR _ (.head _)
  k_dflt (refine' enter_by [Str.ofString "value", Str.ofString "digits"] ?k1 ?k2 ?k3 ?k4 ?k5 ?kA ?kF ?kK ?k6 ?k7 ?k8 ?k9 ?kB ?c2 ?c3 ?c4 ?c5 ?_; (case kA => exact rfl); (case kF => exact rfl); (case kK => first | exact rfl | assumption); (case k1 => k_asm); (case k2 => k_asm); (case k3 => k_asm); (case k4 => k_asm); (case k5 => k_asm); (case k6 => k_is); (case k7 => k_is); (case k8 => ktr_room); (case k9 => exact BindsTo.of_eq rfl); (case kB => exact locs rfl); (case c2 => exact rfl); (case c3 => exact rfl); (case c4 => exact rfl); (case c5 => decide); k_whole; intro g' L' h' FG' F' N' B' X' T'; (try dsimp only [List.zip, List.zipWith, List.length, Nat.zero_add] at *); (try k_fold))
  w_top off
  k_steps
  all_goals refine hret _ _ _ ?_
  all_goals k_extra "mine rt"
  all_goals rfl
theorem dec_i {prog : Program} {w : World} {mean : ExcName → Option Value} {mg mb : Str → Option Value} (n : Int) (t t3 : Tok) (hn : n.natAbs < 1000000000) :
    Sp prog w mean mg mb 86 3 [.int n t, .int 9 t3] [] (RT (nf 0 n).1 (nf 0 n).2) := by
  unfold Sp
  intro dp un gd cn cs a ccd cl outer A₀ base h₀ L m news s Q E B F X N T hk hR hd hu hret
  (have dummy : (PySem.Challenge.rw_tk0005_01.Holds → Frag.In (Mine.hd.heap_39 w.params) h₀ → True) := by (k_fill; intros; trivial))
  clear dummy
  k_dflt (refine' enter_by [Str.ofString "value", Str.ofString "digits"] ?k1 ?k2 ?k3 ?k4 ?k5 ?kA ?kF ?kK ?k6 ?k7 ?k8 ?k9 ?kB ?c2 ?c3 ?c4 ?c5 ?_; (case kA => exact rfl); (case kF => exact rfl); (case kK => first | exact rfl | assumption); (case k1 => k_asm); (case k2 => k_asm); (case k3 => k_asm); (case k4 => k_asm); (case k5 => k_asm); (case k6 => k_is); (case k7 => k_is); (case k8 => ktr_room); (case k9 => exact BindsTo.of_eq rfl); (case kB => exact locs rfl); (case c2 => exact rfl); (case c3 => exact rfl); (case c4 => exact rfl); (case c5 => decide); k_whole; intro g' L' h' FG' F' N' B' X' T'; (try dsimp only [List.zip, List.zipWith, List.length, Nat.zero_add] at *); (try k_fold))
  w_top off
  k_steps
  all_goals refine hret _ _ _ ?_
  all_goals k_extra "mine rt"
  all_goals rfl

theorem lines_C5_5 : True := by
  (k_with "call ref" => ((k_here; (with_reducible show wpAny _ _ (call (Value.ref 157) [Value.ref _]) _ _ _); k_dflt (refine' sp_rb (isw_t _ _ _ _ _ _) ?kgc518 ?knc518 ?_; (case kgc518 => k_extra "mine gs"); (case knc518 => k_extra "mine need"); skip; k_extra "mine gotb"))))
  (k_with "call ref" => ((k_here; (with_reducible show wpAny _ _ (call (Value.ref 157) [Value.int _ _]) _ _ _); k_dflt (refine' sp_rb (isw_i _ _) ?kgc519 ?knc519 ?_; (case kgc519 => k_extra "mine gs"); (case knc519 => k_extra "mine need"); skip; k_extra "mine gotb"))))
  (k_with "call ref" => ((k_here; (with_reducible show wpAny _ _ (call (Value.ref 86) [Value.ref _, _]) _ _ _); k_dflt (refine' sp_rt (dec_t _ _ _ _ _ _ _ _ _ ?hAc520 ?hnc520 ?h0c520 ?h1c520) ?kgc520 ?knc520 ?_; (case kgc520 => k_extra "mine gs"); (case knc520 => k_extra "mine need"); (case hAc520 => k_extra "mine is"); (case hnc520 => first | assumption | omega); (case h0c520 => first | assumption | omega); (case h1c520 => first | assumption | omega); k_extra "mine got"))))
  (k_with "call ref" => ((k_here; (with_reducible show wpAny _ _ (call (Value.ref 86) [Value.int _ _, _]) _ _ _); k_dflt (refine' sp_rt (dec_i _ _ _ ?hnc521) ?kgc521 ?knc521 ?_; (case kgc521 => k_extra "mine gs"); (case knc521 => k_extra "mine need"); (case hnc521 => first | assumption | omega); k_extra "mine got"))))
  (k_with "call ref" => ((k_here; (with_reducible show wpAny _ _ (call (Value.ref 108) _) _ _ _); k_dflt (refine' sp_rt (add_spec _ _ _ _ _ _ _ _ _ _ _ _ _ _ _ _ ?hAc522 ?hBc522 ?hnc522 ?hxc522 ?hxpc522 ?h0c522 ?h1c522) ?kgc522 ?knc522 ?_; (case kgc522 => k_extra "mine gs"); (case knc522 => k_extra "mine need"); (case hAc522 => k_extra "mine is"); (case hBc522 => k_extra "mine is"); (case hnc522 => first | assumption | omega); (case hxc522 => first | (refine' nf_abs ?iac522 ?ibc522 ?icc522; (case iac522 => first | assumption | omega); (case ibc522 => first | assumption | omega); (case icc522 => first | assumption | omega)) | assumption | omega); (case hxpc522 => first | (refine' nf_abs ?iac522 ?ibc522 ?icc522; (case iac522 => first | assumption | omega); (case ibc522 => first | assumption | omega); (case icc522 => first | assumption | omega)) | assumption | omega); (case h0c522 => first | assumption | omega); (case h1c522 => first | assumption | omega); k_extra "mine got"))))
  (k_with "call ref" => ((k_here; (with_reducible show wpAny _ _ (call (Value.ref 115) _) _ _ _); k_dflt (refine' sp_rt (sub_spec _ _ _ _ _ _ _ _ _ _ _ _ _ _ _ _ ?hAc523 ?hBc523 ?hnc523 ?hxc523 ?hxpc523 ?h0c523 ?h1c523) ?kgc523 ?knc523 ?_; (case kgc523 => k_extra "mine gs"); (case knc523 => k_extra "mine need"); (case hAc523 => k_extra "mine is"); (case hBc523 => k_extra "mine is"); (case hnc523 => first | assumption | omega); (case hxc523 => first | (refine' nf_abs ?iac523 ?ibc523 ?icc523; (case iac523 => first | assumption | omega); (case ibc523 => first | assumption | omega); (case icc523 => first | assumption | omega)) | assumption | omega); (case hxpc523 => first | (refine' nf_abs ?iac523 ?ibc523 ?icc523; (case iac523 => first | assumption | omega); (case ibc523 => first | assumption | omega); (case icc523 => first | assumption | omega)) | assumption | omega); (case h0c523 => first | assumption | omega); (case h1c523 => first | assumption | omega); k_extra "mine got"))))
  (k_with "call ref" => ((k_here; (with_reducible show wpAny _ _ (call (Value.ref 122) _) _ _ _); k_dflt (refine' sp_rt (mul_spec _ _ _ _ _ _ _ _ _ _ _ _ _ _ _ _ _ ?hAc524 ?hBc524 ?hnc524 ?hxc524 ?hyc524 ?h0c524 ?h1c524) ?kgc524 ?knc524 ?_; (case kgc524 => k_extra "mine gs"); (case knc524 => k_extra "mine need"); (case hAc524 => k_extra "mine is"); (case hBc524 => k_extra "mine is"); (case hnc524 => first | assumption | omega); (case hxc524 => first | (refine' nf_abs ?iac524 ?ibc524 ?icc524; (case iac524 => first | assumption | omega); (case ibc524 => first | assumption | omega); (case icc524 => first | assumption | omega)) | assumption | omega); (case hyc524 => first | k_extra "mine hy" | assumption | omega); (case h0c524 => first | assumption | omega); (case h1c524 => first | assumption | omega); k_extra "mine got"))))
  trivial
theorem rka_spec {prog : Program} {w : World} {mean : ExcName → Option Value} {mg mb : Str → Option Value} (k A B : Int) (p q : Addr) (x y x' y' : Int) (t0 t1 t2 u1 u2 t3 t4 : Tok) (c c' : Nat) (hA : Is k A x y) (hB : Is k B x' y') (hn : (A + B).natAbs < 1000000000) (hnA : A.natAbs < 1000000000) (hnB : B.natAbs < 1000000000) (hk0 : k ≤ 0) (hk1 : -40 ≤ k) :
    Sp prog w mean mg mb 213 5 [.str (Str.ofString "+") t0, .ref p, .ref q, .int 16 t3, .int 9 t4] [(p, tupO x y t1 t2 c), (q, tupO x' y' u1 u2 c')] (RT (nf k (A + B)).1 (nf k (A + B)).2) := by
  unfold Sp
  intro dp un gd cn cs a ccd cl outer A₀ base h₀ L m news s Q E B F X N T hk hR hd hu hret
  (have dummy : (PySem.Challenge.rw_tk0005_01.Holds → Frag.In (Mine.hd.heap_39 w.params) h₀ → True) := by (k_fill; intros; trivial))
  clear dummy
  have hp9 : (p, tupO x y t1 t2 c) ∈ news := hR _ (.head _)
  have hq9 : (q, tupO x' y' u1 u2 c') ∈ news := hR _ (.tail _ (.head _))
  k_dflt (refine' enter_by [Str.ofString "op", Str.ofString "a", Str.ofString "b", Str.ofString "bits", Str.ofString "digits"] ?k1 ?k2 ?k3 ?k4 ?k5 ?kA ?kF ?kK ?k6 ?k7 ?k8 ?k9 ?kB ?c2 ?c3 ?c4 ?c5 ?_; (case kA => exact rfl); (case kF => exact rfl); (case kK => first | exact rfl | assumption); (case k1 => k_asm); (case k2 => k_asm); (case k3 => k_asm); (case k4 => k_asm); (case k5 => k_asm); (case k6 => k_is); (case k7 => k_is); (case k8 => ktr_room); (case k9 => exact BindsTo.of_eq rfl); (case kB => exact locs rfl); (case c2 => exact rfl); (case c3 => exact rfl); (case c4 => exact rfl); (case c5 => decide); k_whole; intro g' L' h' FG' F' N' B' X' T'; (try dsimp only [List.zip, List.zipWith, List.length, Nat.zero_add] at *); (try k_fold))
  w_top off
  k_steps
  all_goals refine hret _ _ _ ?_
  all_goals k_extra "mine rt"
  all_goals rfl

theorem rks_spec {prog : Program} {w : World} {mean : ExcName → Option Value} {mg mb : Str → Option Value} (k A B : Int) (p q : Addr) (x y x' y' : Int) (t0 t1 t2 u1 u2 t3 t4 : Tok) (c c' : Nat) (hA : Is k A x y) (hB : Is k B x' y') (hn : (A - B).natAbs < 1000000000) (hnA : A.natAbs < 1000000000) (hnB : B.natAbs < 1000000000) (hk0 : k ≤ 0) (hk1 : -40 ≤ k) :
    Sp prog w mean mg mb 213 6 [.str (Str.ofString "-") t0, .ref p, .ref q, .int 16 t3, .int 9 t4] [(p, tupO x y t1 t2 c), (q, tupO x' y' u1 u2 c')] (RT (nf k (A - B)).1 (nf k (A - B)).2) := by
  unfold Sp
  intro dp un gd cn cs a ccd cl outer A₀ base h₀ L m news s Q E B F X N T hk hR hd hu hret
  (have dummy : (PySem.Challenge.rw_tk0005_01.Holds → Frag.In (Mine.hd.heap_39 w.params) h₀ → True) := by (k_fill; intros; trivial))
  clear dummy
  have hp9 : (p, tupO x y t1 t2 c) ∈ news := hR _ (.head _)
  have hq9 : (q, tupO x' y' u1 u2 c') ∈ news := hR _ (.tail _ (.head _))
  k_dflt (refine' enter_by [Str.ofString "op", Str.ofString "a", Str.ofString "b", Str.ofString "bits", Str.ofString "digits"] ?k1 ?k2 ?k3 ?k4 ?k5 ?kA ?kF ?kK ?k6 ?k7 ?k8 ?k9 ?kB ?c2 ?c3 ?c4 ?c5 ?_; (case kA => exact rfl); (case kF => exact rfl); (case kK => first | exact rfl | assumption); (case k1 => k_asm); (case k2 => k_asm); (case k3 => k_asm); (case k4 => k_asm); (case k5 => k_asm); (case k6 => k_is); (case k7 => k_is); (case k8 => ktr_room); (case k9 => exact BindsTo.of_eq rfl); (case kB => exact locs rfl); (case c2 => exact rfl); (case c3 => exact rfl); (case c4 => exact rfl); (case c5 => decide); k_whole; intro g' L' h' FG' F' N' B' X' T'; (try dsimp only [List.zip, List.zipWith, List.length, Nat.zero_add] at *); (try k_fold))
  w_top off
  k_steps
  all_goals refine hret _ _ _ ?_
  all_goals k_extra "mine rt"
  all_goals rfl

theorem hy_top {k A B : Int} (hk0 : k ≤ 0) (hk1 : -40 ≤ k) (hA : A.natAbs < 1000000000) (hB : B.natAbs < 1000000000) : (nf k A).2 + (nf 0 B).2 ≤ k + 0 + 60 := by
  have h1 := nf_top hk0 (by omega) hA
  have h2 := nf_top (k := 0) (by decide) (by decide) hB
  omega

theorem lines_C5_6 : True := by
  (k_with "mine hy" => ((refine' hy_top ?_ ?_ ?_ ?_ <;> assumption)))
  trivial
theorem rkm_spec {prog : Program} {w : World} {mean : ExcName → Option Value} {mg mb : Str → Option Value} (k A B : Int) (p : Addr) (x y : Int) (t0 t1 t2 u1 t3 t4 : Tok) (c : Nat) (hA : Is k A x y) (hn : (A * B).natAbs < 1000000000) (hnA : A.natAbs < 1000000000) (hnB : B.natAbs < 1000000000) (hk0 : k ≤ 0) (hk1 : -40 ≤ k) :
    Sp prog w mean mg mb 213 5 [.str (Str.ofString "*") t0, .ref p, .int B u1, .int 16 t3, .int 9 t4] [(p, tupO x y t1 t2 c)] (RT (nf k (A * B)).1 (nf k (A * B)).2) := by
  unfold Sp
  intro dp un gd cn cs a ccd cl outer A₀ base h₀ L m news s Q E B F X N T hk hR hd hu hret
  (have dummy : (PySem.Challenge.rw_tk0005_01.Holds → Frag.In (Mine.hd.heap_39 w.params) h₀ → True) := by (k_fill; intros; trivial))
  clear dummy
  have hp9 : (p, tupO x y t1 t2 c) ∈ news := hR _ (.head _)
  k_dflt (refine' enter_by [Str.ofString "op", Str.ofString "a", Str.ofString "b", Str.ofString "bits", Str.ofString "digits"] ?k1 ?k2 ?k3 ?k4 ?k5 ?kA ?kF ?kK ?k6 ?k7 ?k8 ?k9 ?kB ?c2 ?c3 ?c4 ?c5 ?_; (case kA => exact rfl); (case kF => exact rfl); (case kK => first | exact rfl | assumption); (case k1 => k_asm); (case k2 => k_asm); (case k3 => k_asm); (case k4 => k_asm); (case k5 => k_asm); (case k6 => k_is); (case k7 => k_is); (case k8 => ktr_room); (case k9 => exact BindsTo.of_eq rfl); (case kB => exact locs rfl); (case c2 => exact rfl); (case c3 => exact rfl); (case c4 => exact rfl); (case c5 => decide); k_whole; intro g' L' h' FG' F' N' B' X' T'; (try dsimp only [List.zip, List.zipWith, List.length, Nat.zero_add] at *); (try k_fold))
  w_top off
  k_steps
  all_goals refine hret _ _ _ ?_
  all_goals k_extra "mine rt"
  all_goals rw [Int.add_zero]
end
end Mine
end
section
-- part C6
open PySem PySem.W PySem.Calls PyProof.Rows
namespace Mine
noncomputable section


theorem lines_C6_1 : True := by
  k_with_none
  (k_with "subscriptTail Name Constant ref int" => ((k_here; k_dflt (refine' item_tupleT ?tc61 ?ac61 ?bc61 ?cc61 ?dc61 ?_; (case tc61 => exact News.isTup (by k_asm) (by k_extra "mine mem")); (case ac61 => decide); (case bc61 => decide); (case cc61 => rfl); (case dc61 => rfl); k_whole))))
  (k_with "mine item" => ((k_here; k_dflt (refine' lst_item ?tc62 ?ac62 ?bc62 ?cc62 ?dc62 ?_; (case tc62 => k_asm); (case ac62 => k_extra "mine mem"); (case bc62 => first | decide | omega); (case cc62 => first | decide | omega); (case dc62 => rfl); k_whole))))
  (k_with "subscriptTail Name Constant ref int" => (k_extra "mine item"))
  (k_with "subscriptTail Name Name ref int" => (k_extra "mine item"))
  (k_with "subscriptTail Name BinOp ref int" => (k_extra "mine item"))
  (k_with "mine gotb" => ((intro zzh9 zztk9 zzF9 zzN9; (try dsimp only); (try k_fold); (try k_sweep))))
  (k_with "mine mem" => (first | (with_reducible assumption) | exact List.Mem.head _ | (refine' List.mem_cons_of_mem _ ?mmc67; (case mmc67 => k_extra "mine mem"))))
  (k_with "mine need" => (first | exact List.forall_mem_nil _ | (refine' List.forall_mem_cons.mpr (And.intro ?nac68 ?nbc68); (case nac68 => k_mem); (case nbc68 => k_extra "mine need"))))
  (k_with "mine gs" => ((refine' Gd.mk ?k1c69 ?k2c69 ?k3c69 ?k4c69 ?k5c69 ?kKc69 ?kdc69 ?kuc69; (case k1c69 => k_asm); (case k2c69 => k_asm); (case k3c69 => k_asm); (case k4c69 => k_asm); (case k5c69 => k_asm); (case kKc69 => first | exact rfl | assumption); (case kdc69 => ktr_room); (case kuc69 => ktr_units))))
  (k_with "mine got" => ((intro zzD9 zzt9 zzu9 zzc9 zzh9 zztk9 zzF9 zzN9 zzl9; (try dsimp only); (try k_fold); (try k_sweep))))
  (k_with "mine lt" => (first | assumption | (refine' lt_drop ?ltac611 ?ltbc611; (case ltac611 => assumption); (case ltbc611 => kcj_all))))
  (k_with "mine rt" => ((refine' rt_end ?_ ?_ ?fFc612 ?fNc612 ?fmc612 ?fsc612 ?flc612; (case fFc612 => k_asm); (case fNc612 => assumption); (case fmc612 => k_mem); (case fsc612 => kcj_all); (case flc612 => k_extra "mine lt"))))
  (k_with "mine ne" => (first | (refine' ne_of_lts ?ltac613 ?ltbc613; (case ltac613 => assumption); (case ltbc613 => kcj_all)) | (refine' ne_of_nes ?ltac613 ?ltbc613; (case ltac613 => assumption); (case ltbc613 => kcj_all))))
  (k_with "mine rn" => ((refine' rn_end ?n0c614 ?n1c614 ?_ ?_ ?n2c614 ?n3c614 ?n4c614 ?n5c614 ?n6c614 ?n7c614 ?n8c614 ?n9c614; (case n0c614 => assumption); (case n1c614 => assumption); (case n2c614 => assumption); (case n3c614 => assumption); (case n4c614 => assumption); (case n5c614 => k_asm); (case n6c614 => assumption); (case n7c614 => k_mem); (case n8c614 => kcj_all); (case n9c614 => k_extra "mine ne"))))
  (k_with "mine rb" => ((refine' rb_end ?_ ?fFc615 ?fNc615 ?fsc615; (case fFc615 => k_asm); (case fNc615 => assumption); (case fsc615 => kcj_all))))
  trivial
theorem lift1 {a : Int} (h : a.natAbs < 10000) : Is (-1 + -1) (10 * a) (nf (-1) a).1 (nf (-1) a).2 := by
  have h1 := (is_nf (k := -1) (n := a) (by decide) (by decide) (by omega)).shift 1 (by have := nf_top (k := -1) (n := a) (by decide) (by decide) (by omega); omega)
  rw [Int.mul_comm 10 a]; exact h1
theorem lift2 {a : Int} (h : a.natAbs < 10000) : Is (-1 + -1 + -1) (100 * a) (nf (-1) a).1 (nf (-1) a).2 := by
  have h1 := (is_nf (k := -1) (n := a) (by decide) (by decide) (by omega)).shift 2 (by have := nf_top (k := -1) (n := a) (by decide) (by decide) (by omega); omega)
  rw [Int.mul_comm 100 a]; exact h1
theorem lift3 {a : Int} (h : a.natAbs < 10000) : Is (-1 + -1 + -1 + -1) (1000 * a) (nf (-1) a).1 (nf (-1) a).2 := by
  have h1 := (is_nf (k := -1) (n := a) (by decide) (by decide) (by omega)).shift 3 (by have := nf_top (k := -1) (n := a) (by decide) (by decide) (by omega); omega)
  rw [Int.mul_comm 1000 a]; exact h1
theorem hy_nf {k l A B j : Int} (hk0 : k ≤ 0) (hk1 : -50 ≤ k) (hl0 : l ≤ 0) (hl1 : -50 ≤ l) (hA : A.natAbs < 1000000000) (hB : B.natAbs < 1000000000) (hj : 16 ≤ j) : (nf k A).2 + (nf l B).2 ≤ j := by
  have h1 := nf_top hk0 hk1 hA
  have h2 := nf_top hl0 hl1 hB
  omega
/-- the polynomial's value in ten-thousandths -/
def wv (a0 a1 a2 a3 b : Int) : Int := ((a3 * b + 10 * a2) * b + 100 * a1) * b + 1000 * a0
theorem mul_bd {a b : Int} {m n k : Nat} (ha : a.natAbs ≤ m) (hb : b.natAbs ≤ n) (h : m * n ≤ k) : (a * b).natAbs ≤ k := by
  rw [Int.natAbs_mul]; exact Nat.le_trans (Nat.mul_le_mul ha hb) h
theorem wv_bd {a0 a1 a2 a3 b : Int} (h0 : a0.natAbs ≤ 9) (h1 : a1.natAbs ≤ 9) (h2 : a2.natAbs ≤ 9) (h3 : a3.natAbs ≤ 9) (hb : b.natAbs ≤ 60) :
    (a3 * b).natAbs ≤ 540 ∧ (a3 * b + 10 * a2).natAbs ≤ 630 ∧ ((a3 * b + 10 * a2) * b).natAbs ≤ 37800 ∧ ((a3 * b + 10 * a2) * b + 100 * a1).natAbs ≤ 38700 ∧ (((a3 * b + 10 * a2) * b + 100 * a1) * b).natAbs ≤ 2322000 ∧ (((a3 * b + 10 * a2) * b + 100 * a1) * b + 1000 * a0).natAbs ≤ 2331000 := by
  have q1 : (a3 * b).natAbs ≤ 540 := mul_bd h3 hb (by decide)
  have q2 : (a3 * b + 10 * a2).natAbs ≤ 630 := by omega
  have q3 : ((a3 * b + 10 * a2) * b).natAbs ≤ 37800 := mul_bd q2 hb (by decide)
  have q4 : ((a3 * b + 10 * a2) * b + 100 * a1).natAbs ≤ 38700 := by omega
  have q5 : (((a3 * b + 10 * a2) * b + 100 * a1) * b).natAbs ≤ 2322000 := mul_bd q4 hb (by decide)
  exact ⟨q1, q2, q3, q4, q5, by omega⟩

theorem lines_C6_2 : True := by
  (k_with "mine is" => (first | assumption | (refine' is_nf ?iac616 ?ibc616 ?icc616; (case iac616 => first | assumption | decide | omega); (case ibc616 => first | assumption | decide | omega); (case icc616 => first | assumption | omega))))
  (k_with "mine isB" => (first | (refine' lift1 ?iac617; (case iac617 => omega)) | (refine' lift2 ?iac617; (case iac617 => omega)) | (refine' lift3 ?iac617; (case iac617 => omega))))
  (k_with "mine hy" => ((refine' hy_nf ?_ ?_ ?_ ?_ ?_ ?_ ?_ <;> first | decide | omega)))
  (k_with "call ref" => ((k_here; (with_reducible show wpAny _ _ (call (Value.ref 108) _) _ _ _); k_dflt (refine' sp_rt (add_spec _ _ _ _ _ _ _ _ _ _ _ _ _ _ _ _ ?hAc619 ?hBc619 ?hnc619 ?hxc619 ?hxpc619 ?h0c619 ?h1c619) ?kgc619 ?knc619 ?_; (case kgc619 => k_extra "mine gs"); (case knc619 => k_extra "mine need"); (case hAc619 => k_extra "mine is"); (case hBc619 => k_extra "mine isB"); (case hnc619 => first | assumption | omega); (case hxc619 => first | (refine' nf_abs ?iac619 ?ibc619 ?icc619; (case iac619 => first | assumption | omega); (case ibc619 => first | assumption | omega); (case icc619 => first | assumption | omega)) | assumption | omega); (case hxpc619 => first | (refine' nf_abs ?iac619 ?ibc619 ?icc619; (case iac619 => first | assumption | omega); (case ibc619 => first | assumption | omega); (case icc619 => first | assumption | omega)) | assumption | omega); (case h0c619 => first | assumption | omega); (case h1c619 => first | assumption | omega); k_extra "mine got"))))
  (k_with "call ref" => ((k_here; (with_reducible show wpAny _ _ (call (Value.ref 122) _) _ _ _); k_dflt (refine' sp_rt (mul_spec _ _ _ _ _ _ _ _ _ _ _ _ _ _ _ _ _ ?hAc620 ?hBc620 ?hnc620 ?hxc620 ?hyc620 ?h0c620 ?h1c620) ?kgc620 ?knc620 ?_; (case kgc620 => k_extra "mine gs"); (case knc620 => k_extra "mine need"); (case hAc620 => k_extra "mine is"); (case hBc620 => k_extra "mine is"); (case hnc620 => first | assumption | omega); (case hxc620 => first | (refine' nf_abs ?iac620 ?ibc620 ?icc620; (case iac620 => first | assumption | omega); (case ibc620 => first | assumption | omega); (case icc620 => first | assumption | omega)) | assumption | omega); (case hyc620 => first | k_extra "mine hy" | assumption | omega); (case h0c620 => first | assumption | omega); (case h1c620 => first | assumption | omega); k_extra "mine got"))))
  trivial
theorem worth_spec {prog : Program} {w : World} {mean : ExcName → Option Value} {mg mb : Str → Option Value} (R r0 r1 r2 r3 Z : Addr) (a0 a1 a2 a3 b : Int) (t0 u0 t1 u1 t2 u2 t3 u3 t4 u4 : Tok) (c0 c1 c2 c3 c4 c : Nat) (h0 : a0.natAbs ≤ 9) (h1 : a1.natAbs ≤ 9) (h2 : a2.natAbs ≤ 9) (h3 : a3.natAbs ≤ 9) (hb : b.natAbs ≤ 60) :
    Sp prog w mean mg mb 227 4 [.ref R, .ref Z] [(R, W.listOf #[.ref r0, .ref r1, .ref r2, .ref r3] c), (r0, tupO (nf (-1) a0).1 (nf (-1) a0).2 t0 u0 c0), (r1, tupO (nf (-1) a1).1 (nf (-1) a1).2 t1 u1 c1), (r2, tupO (nf (-1) a2).1 (nf (-1) a2).2 t2 u2 c2), (r3, tupO (nf (-1) a3).1 (nf (-1) a3).2 t3 u3 c3), (Z, tupO (nf (-1) b).1 (nf (-1) b).2 t4 u4 c4)] (RN (nf (-4) (wv a0 a1 a2 a3 b)).1 (nf (-4) (wv a0 a1 a2 a3 b)).2) := by
  unfold Sp
  intro dp un gd cn cs a ccd cl outer A₀ base h₀ L m news s Q E B F X N T hk hR hd hu hret
  (have dummy : (PySem.Challenge.rw_tk0005_01.Holds → Frag.In (Mine.hd.heap_39 w.params) h₀ → True) := by (k_fill; intros; trivial))
  clear dummy
  obtain ⟨q1, q2, q3, q4, q5, q6⟩ := wv_bd h0 h1 h2 h3 hb
  k_dflt (refine' enter_cl [Str.ofString "rates", Str.ofString "x"] _ hR ?k1 ?k2 ?k3 ?k4 ?k5 ?kA ?kF ?kK ?k6 ?k7 ?k8 ?k9 ?kB ?c2 ?c3 ?c4 ?c5 ?_; (case kA => exact rfl); (case kF => exact rfl); (case kK => first | exact rfl | assumption); (case k1 => k_asm); (case k2 => k_asm); (case k3 => k_asm); (case k4 => exact N); (case k5 => k_asm); (case k6 => k_is); (case k7 => k_is); (case k8 => ktr_room); (case k9 => exact BindsTo.of_eq rfl); (case kB => exact locs rfl); (case c2 => exact rfl); (case c3 => exact rfl); (case c4 => exact rfl); (case c5 => decide); k_whole; intro g' L' h' FG' F' N' B' X' T' G'; (try dsimp only [List.zip, List.zipWith, List.length, Nat.zero_add] at *); (try k_fold))
  w_top off
  k_steps
  all_goals refine hret _ _ _ ?_
  all_goals k_extra "mine rn"
  all_goals rfl
end
end Mine
end
section
-- part C7
open PySem PySem.W PySem.Calls PyProof.Rows
namespace Mine
noncomputable section


theorem lines_C7_1 : True := by
  k_with_none
  (k_with "subscriptTail Name Constant ref int" => ((k_here; k_dflt (refine' item_tupleT ?tc71 ?ac71 ?bc71 ?cc71 ?dc71 ?_; (case tc71 => exact News.isTup (by k_asm) (by k_extra "mine mem")); (case ac71 => decide); (case bc71 => decide); (case cc71 => rfl); (case dc71 => rfl); k_whole))))
  (k_with "mine item" => ((k_here; k_dflt (refine' lst_item ?tc72 ?ac72 ?bc72 ?cc72 ?dc72 ?_; (case tc72 => k_asm); (case ac72 => k_extra "mine mem"); (case bc72 => first | decide | omega); (case cc72 => first | decide | omega); (case dc72 => rfl); k_whole))))
  (k_with "subscriptTail Name Constant ref int" => (k_extra "mine item"))
  (k_with "subscriptTail Name Name ref int" => (k_extra "mine item"))
  (k_with "subscriptTail Name BinOp ref int" => (k_extra "mine item"))
  (k_with "mine gotb" => ((intro zzh9 zztk9 zzF9 zzN9; (try dsimp only); (try k_fold); (try k_sweep))))
  (k_with "mine mem" => (first | (with_reducible assumption) | exact List.Mem.head _ | (refine' List.mem_cons_of_mem _ ?mmc77; (case mmc77 => k_extra "mine mem"))))
  (k_with "mine need" => (first | exact List.forall_mem_nil _ | (refine' List.forall_mem_cons.mpr (And.intro ?nac78 ?nbc78); (case nac78 => k_mem); (case nbc78 => k_extra "mine need"))))
  (k_with "mine gs" => ((refine' Gd.mk ?k1c79 ?k2c79 ?k3c79 ?k4c79 ?k5c79 ?kKc79 ?kdc79 ?kuc79; (case k1c79 => k_asm); (case k2c79 => k_asm); (case k3c79 => k_asm); (case k4c79 => k_asm); (case k5c79 => k_asm); (case kKc79 => first | exact rfl | assumption); (case kdc79 => ktr_room); (case kuc79 => ktr_units))))
  (k_with "mine got" => ((intro zzD9 zzt9 zzu9 zzc9 zzh9 zztk9 zzF9 zzN9 zzl9; (try dsimp only); (try k_fold); (try k_sweep))))
  (k_with "mine lt" => (first | assumption | (refine' lt_drop ?ltac711 ?ltbc711; (case ltac711 => assumption); (case ltbc711 => kcj_all))))
  (k_with "mine rt" => ((refine' rt_end ?_ ?_ ?fFc712 ?fNc712 ?fmc712 ?fsc712 ?flc712; (case fFc712 => k_asm); (case fNc712 => assumption); (case fmc712 => k_mem); (case fsc712 => kcj_all); (case flc712 => k_extra "mine lt"))))
  (k_with "mine ne" => (first | (refine' ne_of_lts ?ltac713 ?ltbc713; (case ltac713 => assumption); (case ltbc713 => kcj_all)) | (refine' ne_of_nes ?ltac713 ?ltbc713; (case ltac713 => assumption); (case ltbc713 => kcj_all))))
  (k_with "mine rn" => ((refine' rn_end ?n0c714 ?n1c714 ?_ ?_ ?n2c714 ?n3c714 ?n4c714 ?n5c714 ?n6c714 ?n7c714 ?n8c714 ?n9c714; (case n0c714 => assumption); (case n1c714 => assumption); (case n2c714 => assumption); (case n3c714 => assumption); (case n4c714 => assumption); (case n5c714 => k_asm); (case n6c714 => assumption); (case n7c714 => k_mem); (case n8c714 => kcj_all); (case n9c714 => k_extra "mine ne"))))
  trivial
theorem reads_tt {h : Heap} {a : Addr} {x y : Int} {t1 t2 : Tok} {c : Nat} (hm : h.get? a = some (tupO x y t1 t2 c)) : Reads h (.ref a) (.tuple [.int x, .int y]) [] :=
  reads_tuple_at hm rfl rfl (ReadsAll.cons (Reads.int _ _) (ReadsAll.cons (Reads.int _ _) ReadsAll.nil))
theorem eqv_tt (x y : Int) : PyData.eqv (.tuple [.int x, .int y]) (.tuple [.int x, .int y]) = true := by simp [PyData.eqv, PyData.eqvAll]
theorem eq_tt {prog : Program} {w : World} {A : Around} {E : Value → Shared → Prop} {s : Shared} {h₀ : Heap} {L a b : Addr} {news : List (Addr × Obj)} {x y x' y' : Int} {t1 t2 u1 u2 : Tok} {c c' : Nat} {Q : Value → Shared → Prop}
    (N : News h₀ L s.heap news) (ha : (a, tupO x y t1 t2 c) ∈ news) (hb : (b, tupO x' y' u1 u2 c') ∈ news) (hx : x = x') (hy : y = y') (hu : A.units + 64 < cLine) (h : Q (.bool true) s) : wpAny (model prog w) A (compareOp .Eq (.ref a) (.ref b)) Q E s := by
  subst hx; subst hy
  exact eq_dataH (reads_tt (N _ ha).1) (reads_tt (N _ hb).1) rfl rfl hu (by rw [eqv_tt]; exact h)
theorem ne_tt {prog : Program} {w : World} {A : Around} {E : Value → Shared → Prop} {s : Shared} {h₀ : Heap} {L a b : Addr} {news : List (Addr × Obj)} {x y x' y' : Int} {t1 t2 u1 u2 : Tok} {c c' : Nat} {Q : Value → Shared → Prop}
    (N : News h₀ L s.heap news) (ha : (a, tupO x y t1 t2 c) ∈ news) (hb : (b, tupO x' y' u1 u2 c') ∈ news) (hx : x = x') (hy : y = y') (hu : A.units + 64 < cLine) (h : Q (.bool false) s) : wpAny (model prog w) A (compareOp .NotEq (.ref a) (.ref b)) Q E s := by
  subst hx; subst hy
  exact ne_dataH (reads_tt (N _ ha).1) (reads_tt (N _ hb).1) rfl rfl hu (by rw [eqv_tt]; exact h)

theorem lines_C7_2 : True := by
  (k_with "compareOp Eq ref ref" => ((k_here; k_dflt (refine' eq_tt ?cac715 ?cbc715 ?ccc715 ?cxc715 ?cyc715 ?cuc715 ?_; (case cac715 => k_asm); (case cbc715 => k_mem); (case ccc715 => k_mem); (case cxc715 => k_extra "mine same"); (case cyc715 => k_extra "mine same"); (case cuc715 => ktr_units)))))
  (k_with "compareOp NotEq ref ref" => ((k_here; k_dflt (refine' ne_tt ?cac716 ?cbc716 ?ccc716 ?cxc716 ?cyc716 ?cuc716 ?_; (case cac716 => k_asm); (case cbc716 => k_mem); (case ccc716 => k_mem); (case cxc716 => k_extra "mine same"); (case cyc716 => k_extra "mine same"); (case cuc716 => ktr_units)))))
  trivial
theorem is_facts {V : Int} (hV : V.natAbs < 1000000000) : -4 ≤ (nf (-4) V).2 ∧ (nf (-4) V).2 ≤ 8 ∧ (nf (-4) V).1 * 10 ^ ((nf (-4) V).2 + 4).toNat = V ∧ (V ≠ 0 → (nf (-4) V).1.fmod 10 ≠ 0) ∧ (nf (-4) V).1.natAbs < 1000000000 := by
  have h1 := is_nf (k := -4) (n := V) (by decide) (by decide) hV
  obtain ⟨j, he, hc, _⟩ := id h1
  have ht := nf_top (k := -4) (n := V) (by decide) (by decide) hV
  refine ⟨by omega, ht, ?_, fun h0 => ?_, by have := h1.abs; omega⟩
  · rw [he, show (-4 + (j : Int) + 4).toNat = j from by omega, hc]
  · obtain ⟨_, _, _, h3⟩ := nf_spec (k := -4) h0
    rw [Int.fmod_eq_emod_of_nonneg _ (by decide)]; exact h3
theorem nf_z1 {k e V : Int} (h : e = 0) (due : e = V) : (nf k V).1 = 0 := by rw [← due, h, nf_zero]
theorem nf_z2 {k e V : Int} (h : e = 0) (due : e = V) : (nf k V).2 = 0 := by rw [← due, h, nf_zero]
theorem lines_C7_3 : True := by
  (k_with "mine same" => (first | (refine' nf_z1 ?zac717 ?zbc717; (case zac717 => assumption); (case zbc717 => assumption)) | (refine' nf_z2 ?zac717 ?zbc717; (case zac717 => assumption); (case zbc717 => assumption))))
  trivial
theorem rbn_end {b b' : Bool} {s : Shared} {h₀ g h' : Heap} {L L' : Addr} {m m' : Str → Option Value} {news need led : List (Addr × Obj)}
    (N : News h₀ L s.heap news) (hR : ∀ p ∈ need, p ∈ news) (e : b = b') (G : GSub s.heap g (need.map (·.1))) (F' : Fr g L' h' m') (kF : Fr h₀ L h' m) (kN : News h₀ L h' led) (hs : ∀ p ∈ need, p ∈ led) : RB b h₀ L m news h' (.bool b') := by
  subst e; exact ⟨rfl, kF, news_back N hR G F' kN hs⟩
theorem lines_C7_4 : True := by
  (k_with "mine rbn" => ((refine' rbn_end ?n0c718 ?n1c718 ?_ ?n2c718 ?n3c718 ?n5c718 ?n6c718 ?n8c718; (case n0c718 => assumption); (case n1c718 => assumption); (case n2c718 => assumption); (case n3c718 => assumption); (case n5c718 => k_asm); (case n6c718 => assumption); (case n8c718 => kcj_all))))
  trivial
theorem due_t2 {V e x : Int} (q3 : x = V) (due : e = V) : true = (x == e) := by rw [q3, due]; simp
theorem due_tt {V e : Int} (q4 : V ≠ 0 → (nf (-4) V).1.fmod 10 ≠ 0) (due : e = V) (h : ¬ e = 0) : true = ((nf (-4) V).1.fmod 10 != 0) := by
  have := q4 (by omega)
  simp [this]

theorem is_spec {prog : Program} {w : World} {mean : ExcName → Option Value} {mg mb : Str → Option Value} (R Z : Addr) (a0 a1 a2 a3 b V : Int) (t0 t1 t2 t3 tb t4 u4 : Tok) (c c4 : Nat) (h0 : a0.natAbs ≤ 1000) (h1 : a1.natAbs ≤ 1000) (h2 : a2.natAbs ≤ 1000) (h3 : a3.natAbs ≤ 1000) (hb : b.natAbs ≤ 1000) (hV : V.natAbs < 1000000000) (due : 1000 * a0 + 100 * a1 * b + 10 * a2 * b * b + a3 * b * b * b = V) :
    Sp prog w mean mg mb 234 10 [.ref Z, .ref R, .int b tb] [(R, W.listOf #[.int a0 t0, .int a1 t1, .int a2 t2, .int a3 t3] c), (Z, tupO (nf (-4) V).1 (nf (-4) V).2 t4 u4 c4)] (RB true) := by
  unfold Sp
  intro dp un gd cn cs a ccd cl outer A₀ base h₀ L m news s Q E B F X N T hk hR hd hu hret
  (have dummy : (PySem.Challenge.rw_tk0005_01.Holds → Frag.In (Mine.hd.heap_39 w.params) h₀ → True) := by (k_fill; intros; trivial))
  clear dummy
  obtain ⟨q1, q2, q3, q4, q5⟩ := is_facts hV
  k_dflt (refine' enter_cl [Str.ofString "value", Str.ofString "rates", Str.ofString "x"] _ hR ?k1 ?k2 ?k3 ?k4 ?k5 ?kA ?kF ?kK ?k6 ?k7 ?k8 ?k9 ?kB ?c2 ?c3 ?c4 ?c5 ?_; (case kA => exact rfl); (case kF => exact rfl); (case kK => first | exact rfl | assumption); (case k1 => k_asm); (case k2 => k_asm); (case k3 => k_asm); (case k4 => exact N); (case k5 => k_asm); (case k6 => k_is); (case k7 => k_is); (case k8 => ktr_room); (case k9 => exact BindsTo.of_eq rfl); (case kB => exact locs rfl); (case c2 => exact rfl); (case c3 => exact rfl); (case c4 => exact rfl); (case c5 => decide); k_whole; intro g' L' h' FG' F' N' B' X' T' G'; (try dsimp only [List.zip, List.zipWith, List.length, Nat.zero_add] at *); (try k_fold))
  w_top off
  k_steps
  all_goals refine hret _ _ _ ?_
  all_goals k_extra "mine rbn"
  all_goals first | rfl | exact due_t2 q3 due | (refine' due_tt q4 due ?qq; (case qq => assumption))
end
end Mine
end
section
-- part C8
open PySem PySem.W PySem.Calls PyProof.Rows
namespace Mine
noncomputable section


theorem lines_C8_1 : True := by
  k_with_none
  (k_with "subscriptTail Name Constant ref int" => ((k_here; k_dflt (refine' item_tupleT ?tc81 ?ac81 ?bc81 ?cc81 ?dc81 ?_; (case tc81 => exact News.isTup (by k_asm) (by k_extra "mine mem")); (case ac81 => decide); (case bc81 => decide); (case cc81 => rfl); (case dc81 => rfl); k_whole))))
  (k_with "mine item" => ((k_here; k_dflt (refine' lst_item ?tc82 ?ac82 ?bc82 ?cc82 ?dc82 ?_; (case tc82 => k_asm); (case ac82 => k_extra "mine mem"); (case bc82 => first | decide | omega); (case cc82 => first | decide | omega); (case dc82 => rfl); k_whole))))
  (k_with "subscriptTail Name Constant ref int" => (k_extra "mine item"))
  (k_with "subscriptTail Name Name ref int" => (k_extra "mine item"))
  (k_with "subscriptTail Name BinOp ref int" => (k_extra "mine item"))
  (k_with "mine gotb" => ((intro zzh9 zztk9 zzF9 zzN9; (try dsimp only); (try k_fold); (try k_sweep))))
  (k_with "mine mem" => (first | (with_reducible assumption) | exact List.Mem.head _ | (refine' List.mem_cons_of_mem _ ?mmc87; (case mmc87 => k_extra "mine mem"))))
  (k_with "mine need" => (first | exact List.forall_mem_nil _ | (refine' List.forall_mem_cons.mpr (And.intro ?nac88 ?nbc88); (case nac88 => k_mem); (case nbc88 => k_extra "mine need"))))
  (k_with "mine gs" => ((refine' Gd.mk ?k1c89 ?k2c89 ?k3c89 ?k4c89 ?k5c89 ?kKc89 ?kdc89 ?kuc89; (case k1c89 => k_asm); (case k2c89 => k_asm); (case k3c89 => k_asm); (case k4c89 => k_asm); (case k5c89 => k_asm); (case kKc89 => first | exact rfl | assumption); (case kdc89 => ktr_room); (case kuc89 => ktr_units))))
  (k_with "mine got" => ((intro zzD9 zzt9 zzu9 zzc9 zzh9 zztk9 zzF9 zzN9 zzl9; (try dsimp only); (try k_fold); (try k_sweep))))
  (k_with "mine lt" => (first | assumption | (refine' lt_drop ?ltac811 ?ltbc811; (case ltac811 => assumption); (case ltbc811 => kcj_all))))
  (k_with "mine rt" => ((refine' rt_end ?_ ?_ ?fFc812 ?fNc812 ?fmc812 ?fsc812 ?flc812; (case fFc812 => k_asm); (case fNc812 => assumption); (case fmc812 => k_mem); (case fsc812 => kcj_all); (case flc812 => k_extra "mine lt"))))
  (k_with "mine ne" => (first | (refine' ne_of_lts ?ltac813 ?ltbc813; (case ltac813 => assumption); (case ltbc813 => kcj_all)) | (refine' ne_of_nes ?ltac813 ?ltbc813; (case ltac813 => assumption); (case ltbc813 => kcj_all))))
  (k_with "mine rn" => ((refine' rn_end ?n0c814 ?n1c814 ?_ ?_ ?n2c814 ?n3c814 ?n4c814 ?n5c814 ?n6c814 ?n7c814 ?n8c814 ?n9c814; (case n0c814 => assumption); (case n1c814 => assumption); (case n2c814 => assumption); (case n3c814 => assumption); (case n4c814 => assumption); (case n5c814 => k_asm); (case n6c814 => assumption); (case n7c814 => k_mem); (case n8c814 => kcj_all); (case n9c814 => k_extra "mine ne"))))
  trivial
theorem upd_back {s : Shared} {h₀ g h' : Heap} {L L' R S₀ : Addr} {m' : Str → Option Value} {news led : List (Addr × Obj)} {gU : Obj → List (Addr × Obj)} {o o' oS : Obj} (N : News h₀ L s.heap news) (hU : UpdF R o news gU) (hS : (S₀, oS) ∈ news) (G : GSub s.heap g [R, S₀]) (F' : Fr g L' h' m') (kN : News h₀ L h' led)
    (hm : (R, o') ∈ led) (hs : (S₀, oS) ∈ led) : News h₀ L h' (gU o') := by
  obtain ⟨pre, post, e, eg, a, b⟩ := hU.split
  have step : ∀ p ∈ news, p.1 ≠ R → h'.get? p.1 = some p.2 ∧ p.1 ≠ L ∧ h₀.get? p.1 = none := fun p hp hne => by
    refine ⟨?_, (N p hp).2⟩
    by_cases h1 : p.1 = S₀
    · have h2 := (N _ hS).1
      rw [← h1, (N p hp).1] at h2
      have h3 := (kN _ hs).1
      rw [h1, Option.some.inj h2]; exact h3
    · exact F'.keep _ _ (G _ _ (N p hp).1 (by simp [hne, h1]))
  rw [eg]
  intro p hp
  rcases List.mem_append.mp hp with hp | hp
  · exact step p (by rw [e]; exact List.mem_append.mpr (.inl hp)) (a p hp)
  · rcases List.mem_cons.mp hp with rfl | hp
    · exact kN _ hm
    · exact step p (by rw [e]; exact List.mem_append.mpr (.inr (.tail _ hp))) (b p hp)
theorem updF_mem {R : Addr} {o : Obj} {news : List (Addr × Obj)} {gU : Obj → List (Addr × Obj)} (hU : UpdF R o news gU) : (R, o) ∈ news := by
  obtain ⟨pre, post, e, _⟩ := hU.split
  rw [e]; exact List.mem_append.mpr (.inr (.head _))
theorem fm_bd {x b : Int} (hb : 0 < b) : 0 ≤ x.fmod b ∧ x.fmod b < b := by
  rw [Int.fmod_eq_emod_of_nonneg _ (Int.le_of_lt hb)]
  exact ⟨Int.emod_nonneg _ (Int.ne_of_gt hb), Int.emod_lt_of_pos _ hb⟩

theorem spool_spec {prog : Program} {w : World} {mean : ExcName → Option Value} {mg mb : Str → Option Value} (R S₀ : Addr) (ws : List Value) (ns : List Int) (spot below : Int) (ts tb : Tok) (n k : Nat) (hi : IntsAre ws ns) (hlen : ns.length ≤ 100) (hs0 : 0 ≤ spot) (hs1 : spot < 100) (hb0 : 0 < below) (hb1 : below < 1000)
    {dp un : Nat} {gd : Option (List Code)} {cn : Str} {cs : Scope} {a : Addr} {ccd : Value} {cl : List (Str × Addr)} {outer : List Env} {A₀ : Around} {base h₀ : Heap} {L : Addr} {m : Str → Option Value} {news : List (Addr × Obj)} {s : Shared} {Q E : Value → Shared → Prop} {gU : Obj → List (Addr × Obj)}
    (B : Below A₀ base outer h₀) (F : Fr h₀ L s.heap m) (X : Frag.In (Mine.hd.heap_39 w.params) h₀) (N : News h₀ L s.heap news) (T : Top Mine.hd.view_39 (looseW Mine.hd.view_39 [Str.ofString "BasicError"]) mean mg mb h₀) (hk : cs.kind = .function)
    (hU : UpdF R (W.listOf #[.ref S₀, .int spot ts] n) news gU) (hS : (S₀, W.listOf ws.toArray k) ∈ news) (hne : @Ne Nat S₀ R) (hd : dp + 2 < recursionLimit) (hu : un + 8 * 2 < cLine)
    (hret : ∀ (r : Int) (t t' : Tok) (h' : Heap) (tk' : Nat), 0 ≤ r → r < below → Fr h₀ L h' m → News h₀ L h' (gU (W.listOf #[.ref S₀, .int (spot + 1) t'] n)) → Q (.int r t) { s with heap := h', toks := tk' }) :
    wpAny (model prog w) (ktrTop dp un gd cn cs L a ccd cl outer) (call (.ref 220) [.ref R, .int below tb]) Q E s := by
  (have dummy : (PySem.Challenge.rw_tk0005_01.Holds → Frag.In (Mine.hd.heap_39 w.params) h₀ → True) := by (k_fill; intros; trivial))
  clear dummy
  have hR : ∀ p ∈ [(R, W.listOf #[.ref S₀, .int spot ts] n), (S₀, W.listOf ws.toArray k)], p ∈ news := List.forall_mem_cons.mpr ⟨updF_mem hU, List.forall_mem_cons.mpr ⟨hS, List.forall_mem_nil _⟩⟩
  have hlw := hi.length
  k_dflt (refine' enter_cl [Str.ofString "reel", Str.ofString "below"] _ hR ?k1 ?k2 ?k3 ?k4 ?k5 ?kA ?kF ?kK ?k6 ?k7 ?k8 ?k9 ?kB ?c2 ?c3 ?c4 ?c5 ?_; (case kA => exact rfl); (case kF => exact rfl); (case kK => first | exact rfl | assumption); (case k1 => k_asm); (case k2 => k_asm); (case k3 => k_asm); (case k4 => exact N); (case k5 => k_asm); (case k6 => k_is); (case k7 => k_is); (case k8 => ktr_room); (case k9 => exact BindsTo.of_eq rfl); (case kB => exact locs rfl); (case c2 => exact rfl); (case c3 => exact rfl); (case c4 => exact rfl); (case c5 => decide); k_whole; intro g' L' h' FG' F' N' B' X' T' G'; (try dsimp only [List.zip, List.zipWith, List.length, Nat.zero_add] at *); (try k_fold))
  w_top off
  k_steps
  · exact hret _ _ _ _ _ (fm_bd hb0).1 (fm_bd hb0).2 (by k_asm) (upd_back N hU hS G' (by assumption) (by assumption) (.head _) (.tail _ (.head _)))
  · exact hret _ _ _ _ _ (fm_bd hb0).1 (fm_bd hb0).2 (by k_asm) (upd_back N hU hS G' (by assumption) (by assumption) (.head _) (.tail _ (.head _)))
end
end Mine
end
section
-- part Sc
open PySem PySem.Spec PySem.W PySem.Calls PyProof.Rows
namespace Mine
noncomputable section
/-- as enter_cl, for a def that keeps a local in a cell -/
theorem enter_cc {prog : Program} {w : World} {A A₀ : Around} {s : Shared} {K : Frag} {L f : Addr} {h₀ base : Heap} {m mg mb : Str → Option Value} {news : List (Addr × Obj)} {p : Program} {loose : List Str} {mean : ExcName → Option Value}
    {env : Env} {outer : List Env} {Q E : Value → Shared → Prop} {name qual : Str} {params : Arguments} {body : List Stmt} {scope : Scope} {dV kV doc pm cdv ct oc : Value} {an od : Option Addr} {osl : Array (Option Value)} {vs : List Value} (ns : List Str) (need : List (Addr × Obj)) (hR : ∀ p ∈ need, p ∈ news)
    (B : Below A₀ base outer h₀) (F : Fr h₀ L s.heap m) (X : K.In h₀) (N : News h₀ L s.heap news) (T : Top p loose mean mg mb h₀) (hA : A.frames = some (env :: outer)) (hf : env.frame = some L) (hke : env.scope.kind = .function)
    (ho : K.lookup f = some ⟨oc, od, .func (fnOf name qual params body scope dV kV doc pm an cdv ct), osl⟩) (hcd : codeIn K cdv qual = true) (hroom : A.depth < recursionLimit)
    (hb : BindsTo s (fnOf name qual params body scope dV kV doc pm an cdv ct) ⟨vs, []⟩ (ns.zip vs)) (hkd : ((ns.zip vs).all fun y => scope.names.lookup y.1 == some .local || scope.names.lookup y.1 == some .cell) = true)
    (hnd : ((cellsFrom 0 scope.names []).map (·.1)).Nodup)
    (c1 : scope.isCoroutine = false) (c2 : scope.isGenerator = false) (c3 : scope.kind = .function)
    (h : ∀ g L' h₁ tk cells, Fr h₀ L g m → Fr g L' h₁ (bindL (envOfC qual scope L' f cdv).kindOf (ns.zip vs) fun _ => none) → News g L' h₁ (cells ++ need) →
      CellsAre (bindC (envOfC qual scope L' f cdv).kindOf (ns.zip vs) fun _ => none) (cellsFrom (L' + 1) scope.names []) cells → Below A base (env :: outer) g → K.In g → Top p loose mean mg mb g → (∀ p ∈ need, p.1 < L') → GSub s.heap g (need.map (·.1)) →
      wpAny (model prog w) (A.deeper (envOfC qual scope L' f cdv)) (execs body (envOfC qual scope L' f cdv))
        (fun fl s' => LeaveK h₀ L m g (fun r s'' => match r with | .ok (.ret v) => Q v s'' | .ok _ => False | .error e => E e s'') (match fl with | .ret v => v | _ => .none) s')
        (fun e s' => wpAny (model prog w) (A.deeper (envOfC qual scope L' f cdv)) (leaving (envOfC qual scope L' f cdv) e) (fun _ s'' => E e s'') (fun e' s'' => E e' s'') s')
        { s with heap := h₁, toks := tk }) :
    wpAny (model prog w) A (call (.ref f) vs) Q E s := by
  have Nn : News h₀ L s.heap need := fun q hq => N q (hR q hq)
  refine wpAny_call ?_
  obtain ⟨FG, BG, st, lv⟩ := groundX (R := fun r s'' => match r with | .ok (.ret v) => Q v s'' | .ok _ => False | .error e => E e s'') B F Nn hA hf hke
  refine codeAny_call_function hroom ((X.keeps F.keep) _ _ ho) rfl c1 c2 rfl (codeRec_of (X.keeps F.keep) hcd) (hb _ _ _ _ ?_)
  refine wpAny_newFunctionEnv_cells c3 (kindsX hkd _) fun env' he s' x => ?_
  subst he
  refine ⟨(T.nolimit.keeps F.keep).keeps x.toInCall.keep, codeAny_func ?_⟩
  obtain ⟨h₁, tk, rfl, _⟩ := x.done
  have hk₁ := x.toInCall.keep
  obtain ⟨cells, NC, Y⟩ := Cl.news (h₀ := s.heap) (Nat.le_refl _) fun n c hm => ⟨x.cell n c (lookup_of_mem_nodup (cellsFrom_names scope.names 0 (s.heap.objs.size + 1) [] [] rfl ▸ hnd) hm), x.above n c hm⟩
  refine wpAny_mono (h _ s.heap.objs.size h₁ tk cells FG ⟨x.toInCall.ns, fun b o e => hk₁ b o (of_hideAll _ e), Nat.le_of_eq (hideAll_size _ _)⟩ (fun p hp => ?_) Y BG (X.keeps st) (T.keeps st) (fun p hp => Heap.lt_size (Nn p hp).1) (fun b o e n => hideAll_get _ e n)) (fun fl s' hl => lv _ _ hl) fun _ _ y => y
  rcases List.mem_append.mp hp with hp | hp
  · refine ⟨(NC p hp).1, (NC p hp).2.1, ?_⟩
    cases q : (hideAll s.heap (need.map (·.1))).get? p.1 with
    | none => rfl
    | some o => have := of_hideAll _ q; rw [(NC p hp).2.2] at this; cases this
  · exact ⟨hk₁ _ _ (Nn p hp).1, Nat.ne_of_lt (Heap.lt_size (Nn p hp).1), hideAll_none _ (List.mem_map_of_mem hp)⟩
/-- a turn's end, one object made in it -/
theorem comp_end1 {h₀ h' : Heap} {L I C D D9 : Addr} {m : Str → Option Value} {s₁ : Shared} {oI oC oD o9 : Obj} {S : List (Addr × Obj) → Prop} {rest : Value → List (Addr × Obj) → Prop} {y : Value} {tk : Nat} {nw : List (Addr × Obj)}
    (F : Fr h₀ L h' m) (N : News h₀ L h' ((D9, o9) :: (I, oI) :: (C, oC) :: (D, oD) :: nw)) (l9 : ∀ p ∈ (I, oI) :: (C, oC) :: (D, oD) :: nw, p.1 < D9) (off : LCg.Off3 I C D nw) (hS : S ((D9, o9) :: nw)) (r : rest y ((D9, o9) :: nw)) :
    LCg.CompEnd h₀ L m s₁ I oI C oC D oD S rest y { s₁ with heap := h', toks := tk } :=
  LCg.CompEnd.intro F N ((D9, o9) :: nw) (fun p hp => by
    rcases List.mem_cons.mp hp with rfl | hp
    · exact .tail _ (.head _)
    rcases List.mem_cons.mp hp with rfl | hp
    · exact .tail _ (.tail _ (.head _))
    rcases List.mem_cons.mp hp with rfl | hp
    · exact .tail _ (.tail _ (.tail _ (.head _)))
    rcases List.mem_cons.mp hp with rfl | hp
    · exact .head _
    · exact .tail _ (.tail _ (.tail _ (.tail _ hp))))
    ⟨⟨Nat.ne_of_gt (l9 _ (.head _)), Nat.ne_of_gt (l9 _ (.tail _ (.head _))), Nat.ne_of_gt (l9 _ (.tail _ (.tail _ (.head _))))⟩, off⟩ hS r
end
end Mine
end
section
-- part C9
open PySem PySem.W PySem.Calls PyProof.Rows
namespace Mine
noncomputable section



theorem lines_C9_1 : True := by
  k_with_none
  (k_with "subscriptTail Name Constant ref int" => ((k_here; k_dflt (refine' item_tupleT ?tc91 ?ac91 ?bc91 ?cc91 ?dc91 ?_; (case tc91 => exact News.isTup (by k_asm) (by k_extra "mine mem")); (case ac91 => decide); (case bc91 => decide); (case cc91 => rfl); (case dc91 => rfl); k_whole))))
  (k_with "mine item" => ((k_here; k_dflt (refine' lst_item ?tc92 ?ac92 ?bc92 ?cc92 ?dc92 ?_; (case tc92 => k_asm); (case ac92 => k_extra "mine mem"); (case bc92 => first | decide | omega); (case cc92 => first | decide | omega); (case dc92 => rfl); k_whole))))
  (k_with "subscriptTail Name Constant ref int" => (k_extra "mine item"))
  (k_with "subscriptTail Name Name ref int" => (k_extra "mine item"))
  (k_with "subscriptTail Name BinOp ref int" => (k_extra "mine item"))
  (k_with "mine gotb" => ((intro zzh9 zztk9 zzF9 zzN9; (try dsimp only); (try k_fold); (try k_sweep))))
  (k_with "mine mem" => (first | (with_reducible assumption) | exact List.Mem.head _ | (refine' List.mem_cons_of_mem _ ?mmc97; (case mmc97 => k_extra "mine mem"))))
  (k_with "mine need" => (first | exact List.forall_mem_nil _ | (refine' List.forall_mem_cons.mpr (And.intro ?nac98 ?nbc98); (case nac98 => k_mem); (case nbc98 => k_extra "mine need"))))
  (k_with "mine gs" => ((refine' Gd.mk ?k1c99 ?k2c99 ?k3c99 ?k4c99 ?k5c99 ?kKc99 ?kdc99 ?kuc99; (case k1c99 => k_asm); (case k2c99 => k_asm); (case k3c99 => k_asm); (case k4c99 => k_asm); (case k5c99 => k_asm); (case kKc99 => first | exact rfl | assumption); (case kdc99 => ktr_room); (case kuc99 => ktr_units))))
  (k_with "mine got" => ((intro zzD9 zzt9 zzu9 zzc9 zzh9 zztk9 zzF9 zzN9 zzl9; (try dsimp only); (try k_fold); (try k_sweep))))
  (k_with "mine lt" => (first | assumption | (refine' lt_drop ?ltac911 ?ltbc911; (case ltac911 => assumption); (case ltbc911 => kcj_all))))
  (k_with "mine rt" => ((refine' rt_end ?_ ?_ ?fFc912 ?fNc912 ?fmc912 ?fsc912 ?flc912; (case fFc912 => k_asm); (case fNc912 => assumption); (case fmc912 => k_mem); (case fsc912 => kcj_all); (case flc912 => k_extra "mine lt"))))
  (k_with "mine ne" => (first | (refine' ne_of_lts ?ltac913 ?ltbc913; (case ltac913 => assumption); (case ltbc913 => kcj_all)) | (refine' ne_of_nes ?ltac913 ?ltbc913; (case ltac913 => assumption); (case ltbc913 => kcj_all))))
  (k_with "mine rn" => ((refine' rn_end ?n0c914 ?n1c914 ?_ ?_ ?n2c914 ?n3c914 ?n4c914 ?n5c914 ?n6c914 ?n7c914 ?n8c914 ?n9c914; (case n0c914 => assumption); (case n1c914 => assumption); (case n2c914 => assumption); (case n3c914 => assumption); (case n4c914 => assumption); (case n5c914 => k_asm); (case n6c914 => assumption); (case n7c914 => k_mem); (case n8c914 => kcj_all); (case n9c914 => k_extra "mine ne"))))
  (k_with "mine got" => ((intro zzD9 zzt9 zzu9 zzc9 zzh9 zztk9 zzF9 zzN9 zzl9; (try dsimp only); (try k_fold); (try k_sweep))))
  (k_with "exec Assign cons ListComp" => ((k_here; k_dflt (refine LCg.Assign_ListComp_U (F₀ := by k_asm) (by rfl) (by with_unfolding_all rfl) (by with_unfolding_all rfl) (by decide) (by rfl) (by decide) (by rfl) (by rfl) (by rfl) ?_))))
  (k_with "eval ListComp" => ((k_here; k_dflt (refine LCg.ListComp_U (F₀ := by k_asm) (by with_unfolding_all rfl) (by decide) (by rfl) (by decide) (by rfl) ?_))))
  (k_with "CompSrc" => ((k_here; k_dflt (first | (refine LCg.CompSrc.range (by rfl) (by k_asm) (by k_asm) (by assumption) (by first | decide | rfl) (by first | rfl | decide) (by first | size_fits | exact Nat.le_of_ble_eq_true rfl) ?_; intro zzg'; lcg_lit) | (refine LCg.CompSrc.ledger (by rfl) (by k_asm) (by k_asm) (by k_mem) (by first | size_fits | exact Nat.le_of_ble_eq_true rfl) ?_; intro zzg'; lcg_lit)))))
  (k_with "CompRest" => ((with_unfolding_all first | (refine LCg.CompRest.succ ?_; intro zzv' zzI' zzoI' zzC' zzoC' zzD' zzm' zzh' zztk' zzE' zzhv' zzhC' zzhx' zzF' zzN' zzoff' zzne'; clear zzne'; (first | lcg_open zzhv' | (obtain ⟨zzt9', zzhv9'⟩ := zzhv'; subst zzhv9'))) | refine LCg.CompRest.zero ?_)))
  (k_with "CompEnd" => ((refine' comp_end1 ?ce1c920 ?ce2c920 ?ce3c920 ?ce4c920 ?ce5c920 ?_; (case ce1c920 => assumption); (case ce2c920 => assumption); (case ce3c920 => assumption); (case ce4c920 => assumption); (case ce5c920 => lcg_src))))
  (k_with "FinE" => (((unfold LCg.FinE); intro zzD' zzh' zztk' zzF' zzN' zzo1'; (try simp only [List.nil_append, List.cons_append] at zzN'); (try dsimp only))))
  (k_with "FinA" => (((unfold LCg.FinA); intro zzD' zzh' zztk' zzF' zzN' zzo1'; (try simp only [List.nil_append, List.cons_append] at zzN'); (try dsimp only))))
  trivial
theorem bd_add {a b : Int} (ha : a.natAbs < 90000000) (hb : b.natAbs < 90000000) : (a + b).natAbs < 1000000000 := by omega
theorem bd_sub {a b : Int} (ha : a.natAbs < 90000000) (hb : b.natAbs < 90000000) : (a - b).natAbs < 1000000000 := by omega
theorem bd_one {a : Int} (ha : a.natAbs < 90000000) : a.natAbs < 1000000000 := by omega
theorem bd_sub2 {a b c : Int} (ha : a.natAbs < 90000000) (hb : b.natAbs < 90000000) (hc : c.natAbs < 90000000) : (a - (b - c)).natAbs < 1000000000 := by omega
theorem bd_sub3 {a b c d : Int} (ha : a.natAbs < 90000000) (hb : b.natAbs < 90000000) (hc : c.natAbs < 90000000) (hd : d.natAbs < 90000000) : (a - (b - (c - d))).natAbs < 1000000000 := by omega
theorem lines_C9_2 : True := by
  (k_with "mine side" => (first | (with_reducible assumption) | decide | (refine' bd_one ?s1c923; (case s1c923 => with_reducible assumption)) | (refine' bd_add ?s1c923 ?s2c923; (case s1c923 => with_reducible assumption); (case s2c923 => with_reducible assumption)) | (refine' bd_sub ?s1c923 ?s2c923; (case s1c923 => with_reducible assumption); (case s2c923 => with_reducible assumption)) | (refine' bd_sub2 ?s1c923 ?s2c923 ?s3c923; (case s1c923 => with_reducible assumption); (case s2c923 => with_reducible assumption); (case s3c923 => with_reducible assumption)) | (refine' bd_sub3 ?s1c923 ?s2c923 ?s3c923 ?s4c923; (case s1c923 => with_reducible assumption); (case s2c923 => with_reducible assumption); (case s3c923 => with_reducible assumption); (case s4c923 => with_reducible assumption))))
  (k_with "mine is" => (first | (with_reducible assumption) | (refine' is_nf ?iac924 ?ibc924 ?icc924; (case iac924 => k_extra "mine side"); (case ibc924 => k_extra "mine side"); (case icc924 => k_extra "mine side"))))
  trivial
/-- a list of four comes back: three new pairs, one old -/
abbrev RL (x0 y0 x1 y1 x2 y2 : Int) (f3 : Addr) (h₀ : Heap) (L : Addr) (m : Str → Option Value) (news : List (Addr × Obj)) (h' : Heap) (v : Value) : Prop :=
  ∃ (D f0 f1 f2 : Addr) (t0 u0 t1 u1 t2 u2 : Tok) (c0 c1 c2 c : Nat), v = .ref D ∧ Fr h₀ L h' m ∧ News h₀ L h' ((D, W.listOf #[.ref f0, .ref f1, .ref f2, .ref f3] c) :: (f0, tupO x0 y0 t0 u0 c0) :: (f1, tupO x1 y1 t1 u1 c1) :: (f2, tupO x2 y2 t2 u2 c2) :: news)
theorem sp_rl {prog : Program} {w : World} {mean : ExcName → Option Value} {mg mb : Str → Option Value} {f : Addr} {k : Nat} {vs : List Value} {need : List (Addr × Obj)}
    {x0 y0 x1 y1 x2 y2 : Int} {f3 : Addr}
    {dp un : Nat} {gd : Option (List Code)} {cn : Str} {cs : Scope} {a : Addr} {ccd : Value} {cl : List (Str × Addr)} {outer : List Env} {A₀ : Around} {base h₀ : Heap} {L : Addr} {m : Str → Option Value} {news : List (Addr × Obj)} {s : Shared} {Q E : Value → Shared → Prop}
    (C : Sp prog w mean mg mb f k vs need (RL x0 y0 x1 y1 x2 y2 f3))
    (G : Gd prog w mean mg mb cs outer A₀ base h₀ L m news s.heap dp un k) (hn : ∀ p ∈ need, p ∈ news)
        (ret : ∀ (D f0 f1 f2 : Addr) (t0 u0 t1 u1 t2 u2 : Tok) (c0 c1 c2 c : Nat) (h' : Heap) (tk' : Nat), Fr h₀ L h' m → News h₀ L h' ((D, PySem.W.listOf #[.ref f0, .ref f1, .ref f2, .ref f3] c) :: (f0, tupO x0 y0 t0 u0 c0) :: (f1, tupO x1 y1 t1 u1 c1) :: (f2, tupO x2 y2 t2 u2 c2) :: news) → Q (.ref D) { s with heap := h', toks := tk' }) :
    wpAny (model prog w) (ktrTop dp un gd cn cs L a ccd cl outer) (call (.ref f) vs) Q E s :=
  C dp un gd cn cs a ccd cl outer A₀ base h₀ L m news s Q E G.B G.F G.X G.N G.T G.hk hn G.hd G.hu (by intro v h' tk' R; obtain ⟨D, f0, f1, f2, t0, u0, t1, u1, t2, u2, c0, c1, c2, c, e, F', N'⟩ := R; subst e; exact ret D f0 f1 f2 t0 u0 t1 u1 t2 u2 c0 c1 c2 c h' tk' F' N')
theorem rl_end {x0 y0 x1 y1 x2 y2 : Int} {s : Shared} {h₀ g h' : Heap} {L L' D f0 f1 f2 f3 : Addr} {m m' : Str → Option Value} {news need led : List (Addr × Obj)} {t0 u0 t1 u1 t2 u2 : Tok} {c0 c1 c2 c : Nat}
    (N : News h₀ L s.heap news) (hR : ∀ p ∈ need, p ∈ news) (G : GSub s.heap g (need.map (·.1))) (F' : Fr g L' h' m') (kF : Fr h₀ L h' m) (kN : News h₀ L h' led)
    (hm : (D, W.listOf #[.ref f0, .ref f1, .ref f2, .ref f3] c) ∈ led) (h0 : (f0, tupO x0 y0 t0 u0 c0) ∈ led) (h1 : (f1, tupO x1 y1 t1 u1 c1) ∈ led) (h2 : (f2, tupO x2 y2 t2 u2 c2) ∈ led) (hs : ∀ p ∈ need, p ∈ led) : RL x0 y0 x1 y1 x2 y2 f3 h₀ L m news h' (.ref D) := by
  refine ⟨D, f0, f1, f2, t0, u0, t1, u1, t2, u2, c0, c1, c2, c, rfl, kF, fun p hp => ?_⟩
  rcases List.mem_cons.mp hp with rfl | hp
  · exact kN _ hm
  rcases List.mem_cons.mp hp with rfl | hp
  · exact kN _ h0
  rcases List.mem_cons.mp hp with rfl | hp
  · exact kN _ h1
  rcases List.mem_cons.mp hp with rfl | hp
  · exact kN _ h2
  exact news_back N hR G F' kN hs p hp

theorem lines_C9_3 : True := by
  (k_with "mine rl" => ((refine' rl_end ?n0c925 ?n1c925 ?n2c925 ?n3c925 ?n5c925 ?n6c925 ?q0c925 ?q1c925 ?q2c925 ?q3c925 ?n8c925; (case n0c925 => assumption); (case n1c925 => assumption); (case n2c925 => assumption); (case n3c925 => assumption); (case n5c925 => k_asm); (case n6c925 => assumption); (case q0c925 => k_mem); (case q1c925 => k_mem); (case q2c925 => k_mem); (case q3c925 => k_mem); (case n8c925 => kcj_all))))
  (k_with "call ref" => ((k_here; (with_reducible show wpAny _ _ (call (Value.ref 213) (Value.str (Str.ofString "+") _ :: _)) _ _ _); k_dflt (refine' sp_rt (rka_spec _ _ _ _ _ _ _ _ _ _ _ _ _ _ _ _ _ _ ?hAc926 ?hBc926 ?hnc926 ?hnAc926 ?hnBc926 ?h0c926 ?h1c926) ?kgc926 ?knc926 ?_; (case kgc926 => k_extra "mine gs"); (case knc926 => k_extra "mine need"); (case hAc926 => k_extra "mine is"); (case hBc926 => k_extra "mine is"); (case hnc926 => k_extra "mine side"); (case hnAc926 => k_extra "mine side"); (case hnBc926 => k_extra "mine side"); (case h0c926 => k_extra "mine side"); (case h1c926 => k_extra "mine side"); k_extra "mine got"))))
  (k_with "call ref" => ((k_here; (with_reducible show wpAny _ _ (call (Value.ref 213) (Value.str (Str.ofString "-") _ :: _)) _ _ _); k_dflt (refine' sp_rt (rks_spec _ _ _ _ _ _ _ _ _ _ _ _ _ _ _ _ _ _ ?hAc927 ?hBc927 ?hnc927 ?hnAc927 ?hnBc927 ?h0c927 ?h1c927) ?kgc927 ?knc927 ?_; (case kgc927 => k_extra "mine gs"); (case knc927 => k_extra "mine need"); (case hAc927 => k_extra "mine is"); (case hBc927 => k_extra "mine is"); (case hnc927 => k_extra "mine side"); (case hnAc927 => k_extra "mine side"); (case hnBc927 => k_extra "mine side"); (case h0c927 => k_extra "mine side"); (case h1c927 => k_extra "mine side"); k_extra "mine got"))))
  trivial
theorem back_spec {prog : Program} {w : World} {mean : ExcName → Option Value} {mg mb : Str → Option Value} (R e0 e1 e2 e3 : Addr) (V0 V1 V2 V3 : Int) (t0 u0 t1 u1 t2 u2 t3 u3 : Tok) (c0 c1 c2 c3 c : Nat) (b0 : V0.natAbs < 90000000) (b1 : V1.natAbs < 90000000) (b2 : V2.natAbs < 90000000) (b3 : V3.natAbs < 90000000) :
    Sp prog w mean mg mb 251 8 [.ref R] [(R, W.listOf #[.ref e0, .ref e1, .ref e2, .ref e3] c), (e0, tupO (nf (-4) V0).1 (nf (-4) V0).2 t0 u0 c0), (e1, tupO (nf (-4) V1).1 (nf (-4) V1).2 t1 u1 c1), (e2, tupO (nf (-4) V2).1 (nf (-4) V2).2 t2 u2 c2), (e3, tupO (nf (-4) V3).1 (nf (-4) V3).2 t3 u3 c3)] (RL (nf (-4) (V0 - (V1 - (V2 - V3)))).1 (nf (-4) (V0 - (V1 - (V2 - V3)))).2 (nf (-4) (V1 - (V2 - V3))).1 (nf (-4) (V1 - (V2 - V3))).2 (nf (-4) (V2 - V3)).1 (nf (-4) (V2 - V3)).2 e3) := by
  unfold Sp
  intro dp un gd cn cs a ccd cl outer A₀ base h₀ L m news s Q E B F X N T hk hR hd hu hret
  (have dummy : (PySem.Challenge.rw_tk0005_01.Holds → Frag.In (Mine.hd.heap_39 w.params) h₀ → True) := by (k_fill; intros; trivial))
  clear dummy
  k_dflt (refine' enter_cl [Str.ofString "engine"] _ hR ?k1 ?k2 ?k3 ?k4 ?k5 ?kA ?kF ?kK ?k6 ?k7 ?k8 ?k9 ?kB ?c2 ?c3 ?c4 ?c5 ?_; (case kA => exact rfl); (case kF => exact rfl); (case kK => first | exact rfl | assumption); (case k1 => k_asm); (case k2 => k_asm); (case k3 => k_asm); (case k4 => exact N); (case k5 => k_asm); (case k6 => k_is); (case k7 => k_is); (case k8 => ktr_room); (case k9 => exact BindsTo.of_eq rfl); (case kB => exact locs rfl); (case c2 => exact rfl); (case c3 => exact rfl); (case c4 => exact rfl); (case c5 => decide); k_whole; intro g' L' h' FG' F' N' B' X' T' G'; (try dsimp only [List.zip, List.zipWith, List.length, Nat.zero_add] at *); (try k_fold))
  w_top off
  k_steps
  all_goals (refine hret _ _ _ ?_; k_extra "mine rl")
theorem on_spec {prog : Program} {w : World} {mean : ExcName → Option Value} {mg mb : Str → Option Value} (R e0 e1 e2 e3 : Addr) (V0 V1 V2 V3 : Int) (t0 u0 t1 u1 t2 u2 t3 u3 : Tok) (c0 c1 c2 c3 c : Nat) (b0 : V0.natAbs < 90000000) (b1 : V1.natAbs < 90000000) (b2 : V2.natAbs < 90000000) (b3 : V3.natAbs < 90000000) :
    Sp prog w mean mg mb 244 8 [.ref R] [(R, W.listOf #[.ref e0, .ref e1, .ref e2, .ref e3] c), (e0, tupO (nf (-4) V0).1 (nf (-4) V0).2 t0 u0 c0), (e1, tupO (nf (-4) V1).1 (nf (-4) V1).2 t1 u1 c1), (e2, tupO (nf (-4) V2).1 (nf (-4) V2).2 t2 u2 c2), (e3, tupO (nf (-4) V3).1 (nf (-4) V3).2 t3 u3 c3)] (RL (nf (-4) (V0 + V1)).1 (nf (-4) (V0 + V1)).2 (nf (-4) (V1 + V2)).1 (nf (-4) (V1 + V2)).2 (nf (-4) (V2 + V3)).1 (nf (-4) (V2 + V3)).2 e3) := by
  unfold Sp
  intro dp un gd cn cs a ccd cl outer A₀ base h₀ L m news s Q E B F X N T hk hR hd hu hret
  (have dummy : (PySem.Challenge.rw_tk0005_01.Holds → Frag.In (Mine.hd.heap_39 w.params) h₀ → True) := by (k_fill; intros; trivial))
  clear dummy
  k_dflt (refine' enter_cc [Str.ofString "engine"] _ hR ?k1 ?k2 ?k3 ?k4 ?k5 ?kA ?kF ?kK ?k6 ?k7 ?k8 ?k9 ?kB ?kD ?c2 ?c3 ?c4 ?_; (case kA => exact rfl); (case kF => exact rfl); (case kK => first | exact rfl | assumption); (case k1 => k_asm); (case k2 => k_asm); (case k3 => k_asm); (case k4 => exact N); (case k5 => k_asm); (case k6 => k_is); (case k7 => k_is); (case k8 => ktr_room); (case k9 => exact BindsTo.of_eq rfl); (case kB => exact rfl); (case kD => decide +kernel); (case c2 => exact rfl); (case c3 => exact rfl); (case c4 => exact rfl); k_whole; intro g' L' h' tk' cells' FG' F' N' Y' B' X' T' l1 G'; k_cells Y'; (try simp only [List.cons_append, List.nil_append] at N'); (try dsimp only [List.zip, List.zipWith, List.length, Nat.zero_add] at *); (try k_fold))
  w_top off
  k_steps
  all_goals (refine hret _ _ _ ?_; k_extra "mine rl")
end
end Mine
end
section
-- part C10
open PySem PySem.W PySem.Calls PyProof.Rows
namespace Mine
noncomputable section



theorem lines_C10_1 : True := by
  k_with_none
  (k_with "subscriptTail Name Constant ref int" => ((k_here; k_dflt (refine' item_tupleT ?tc101 ?ac101 ?bc101 ?cc101 ?dc101 ?_; (case tc101 => exact News.isTup (by k_asm) (by k_extra "mine mem")); (case ac101 => decide); (case bc101 => decide); (case cc101 => rfl); (case dc101 => rfl); k_whole))))
  (k_with "mine item" => ((k_here; k_dflt (refine' lst_item ?tc102 ?ac102 ?bc102 ?cc102 ?dc102 ?_; (case tc102 => k_asm); (case ac102 => k_extra "mine mem"); (case bc102 => first | decide | omega); (case cc102 => first | decide | omega); (case dc102 => rfl); k_whole))))
  (k_with "subscriptTail Name Constant ref int" => (k_extra "mine item"))
  (k_with "subscriptTail Name Name ref int" => (k_extra "mine item"))
  (k_with "subscriptTail Name BinOp ref int" => (k_extra "mine item"))
  (k_with "mine gotb" => ((intro zzh9 zztk9 zzF9 zzN9; (try dsimp only); (try k_fold); (try k_sweep))))
  (k_with "mine mem" => (first | exact List.Mem.head _ | (refine' List.mem_cons_of_mem _ ?mmc107; (case mmc107 => k_extra "mine mem"))))
  (k_with "mine need" => (first | exact List.forall_mem_nil _ | (refine' List.forall_mem_cons.mpr (And.intro ?nac108 ?nbc108); (case nac108 => k_mem); (case nbc108 => k_extra "mine need"))))
  (k_with "mine gs" => ((refine' Gd.mk ?k1c109 ?k2c109 ?k3c109 ?k4c109 ?k5c109 ?kKc109 ?kdc109 ?kuc109; (case k1c109 => k_asm); (case k2c109 => k_asm); (case k3c109 => k_asm); (case k4c109 => k_asm); (case k5c109 => k_asm); (case kKc109 => first | exact rfl | assumption); (case kdc109 => ktr_room); (case kuc109 => ktr_units))))
  (k_with "mine got" => ((intro zzD9 zzt9 zzu9 zzc9 zzh9 zztk9 zzF9 zzN9 zzl9; (try dsimp only); (try k_fold); (try k_sweep))))
  (k_with "mine lt" => (first | assumption | (refine' lt_drop ?ltac1011 ?ltbc1011; (case ltac1011 => assumption); (case ltbc1011 => kcj_all))))
  (k_with "mine rt" => ((refine' rt_end ?_ ?_ ?fFc1012 ?fNc1012 ?fmc1012 ?fsc1012 ?flc1012; (case fFc1012 => k_asm); (case fNc1012 => assumption); (case fmc1012 => k_mem); (case fsc1012 => kcj_all); (case flc1012 => k_extra "mine lt"))))
  (k_with "mine ne" => (first | (refine' ne_of_lts ?ltac1013 ?ltbc1013; (case ltac1013 => assumption); (case ltbc1013 => kcj_all)) | (refine' ne_of_nes ?ltac1013 ?ltbc1013; (case ltac1013 => assumption); (case ltbc1013 => kcj_all))))
  (k_with "mine rn" => ((refine' rn_end ?n0c1014 ?n1c1014 ?_ ?_ ?n2c1014 ?n3c1014 ?n4c1014 ?n5c1014 ?n6c1014 ?n7c1014 ?n8c1014 ?n9c1014; (case n0c1014 => assumption); (case n1c1014 => assumption); (case n2c1014 => assumption); (case n3c1014 => assumption); (case n4c1014 => assumption); (case n5c1014 => k_asm); (case n6c1014 => assumption); (case n7c1014 => k_mem); (case n8c1014 => kcj_all); (case n9c1014 => k_extra "mine ne"))))
  (k_with "mine got" => ((intro zzD9 zzt9 zzu9 zzc9 zzh9 zztk9 zzF9 zzN9 zzl9; (try dsimp only); (try k_fold); (try k_sweep))))
  (k_with "exec Assign cons ListComp" => ((k_here; k_dflt (refine LCg.Assign_ListComp_U (F₀ := by k_asm) (by rfl) (by with_unfolding_all rfl) (by with_unfolding_all rfl) (by decide) (by rfl) (by decide) (by rfl) (by rfl) (by rfl) ?_))))
  (k_with "eval ListComp" => ((k_here; k_dflt (refine LCg.ListComp_U (F₀ := by k_asm) (by with_unfolding_all rfl) (by decide) (by rfl) (by decide) (by rfl) ?_))))
  (k_with "CompSrc" => ((k_here; k_dflt (first | (refine LCg.CompSrc.range (by rfl) (by k_asm) (by k_asm) (by assumption) (by first | decide | rfl) (by first | rfl | decide) (by first | size_fits | exact Nat.le_of_ble_eq_true rfl) ?_; intro zzg'; lcg_lit) | (refine LCg.CompSrc.ledger (by rfl) (by k_asm) (by k_asm) (by k_mem) (by first | size_fits | exact Nat.le_of_ble_eq_true rfl) ?_; intro zzg'; lcg_lit)))))
  (k_with "CompRest" => ((with_unfolding_all first | (refine LCg.CompRest.succ ?_; intro zzv' zzI' zzoI' zzC' zzoC' zzD' zzm' zzh' zztk' zzE' zzhv' zzhC' zzhx' zzF' zzN' zzoff' zzne'; clear zzne'; (first | lcg_open zzhv' | (obtain ⟨zzt9', zzhv9'⟩ := zzhv'; subst zzhv9'))) | refine LCg.CompRest.zero ?_)))
  (k_with "CompEnd" => ((refine' comp_end1 ?ce1c1020 ?ce2c1020 ?ce3c1020 ?ce4c1020 ?ce5c1020 ?_; (case ce1c1020 => assumption); (case ce2c1020 => assumption); (case ce3c1020 => assumption); (case ce4c1020 => assumption); (case ce5c1020 => lcg_src))))
  (k_with "FinE" => (((unfold LCg.FinE); intro zzD' zzh' zztk' zzF' zzN' zzo1'; (try simp only [List.nil_append, List.cons_append] at zzN'); (try dsimp only))))
  (k_with "FinA" => (((unfold LCg.FinA); intro zzD' zzh' zztk' zzF' zzN' zzo1'; (try simp only [List.nil_append, List.cons_append] at zzN'); (try dsimp only))))
  trivial
theorem lt_mem {l : List (Addr × Obj)} {a D : Addr} {o : Obj} (h : ∀ p ∈ l, p.1 < D) (m : (a, o) ∈ l) : @LT.lt Nat _ a D := h _ m
theorem ne_cell {l : List (Addr × Obj)} {a L : Addr} {o : Obj} (h : ∀ p ∈ l, p.1 < L) (m : (a, o) ∈ l) : @Ne Nat a (L + 1) := Nat.ne_of_lt (Nat.lt_succ_of_lt (h _ m))
theorem ne_mem {l : List (Addr × Obj)} {a D : Addr} {o : Obj} (h : ∀ p ∈ l, p.1 ≠ D) (m : (a, o) ∈ l) : @Ne Nat a D := h _ m
theorem ne_mem1 {l : List (Addr × Obj)} {a D : Addr} {o : Obj} (h : LCg.Off1 D l) (m : (a, o) ∈ l) : @Ne Nat a D := by
  induction l with
  | nil => cases m
  | cons p r ih =>
    rcases List.mem_cons.mp m with rfl | m
    · exact h.1
    · exact ih h.2 m
theorem ne_mem3 {l : List (Addr × Obj)} {a I C D : Addr} {o : Obj} (h : LCg.Off3 I C D l) (m : (a, o) ∈ l) : @Ne Nat a I ∧ @Ne Nat a C ∧ @Ne Nat a D := LCg.Off3.mem h _ m
theorem lines_C10_2 : True := by
  (k_with "mine ne2" => (first | (with_reducible assumption) | (refine' Nat.ne_of_lt (lt_mem ?hc1023 ?mc1023); (case hc1023 => (with_reducible assumption)); (case mc1023 => k_extra "mine mem")) | (refine' ne_cell ?hc1023 ?mc1023; (case hc1023 => (with_reducible assumption)); (case mc1023 => k_extra "mine mem")) | (refine' ne_mem ?hc1023 ?mc1023; (case hc1023 => (with_reducible assumption)); (case mc1023 => k_extra "mine mem")) | (refine' ne_mem1 ?hc1023 ?mc1023; (case hc1023 => (with_reducible assumption)); (case mc1023 => k_extra "mine mem")) | (refine' (ne_mem3 ?hc1023 ?mc1023).1; (case hc1023 => (with_reducible assumption)); (case mc1023 => k_extra "mine mem")) | (refine' (ne_mem3 ?hc1023 ?mc1023).2.1; (case hc1023 => (with_reducible assumption)); (case mc1023 => k_extra "mine mem")) | (refine' (ne_mem3 ?hc1023 ?mc1023).2.2; (case hc1023 => (with_reducible assumption)); (case mc1023 => k_extra "mine mem"))))
  trivial
theorem all_off {rest old : List (Addr × Obj)} {T : Addr} (h : ∀ p ∈ old, p.1 < T) (e : rest.map (·.1) = old.map (·.1)) : ∀ p ∈ rest, p.1 ≠ T := fun p hp => by
  have : p.1 ∈ old.map (·.1) := by rw [← e]; exact List.mem_map_of_mem hp
  obtain ⟨q, hq, e'⟩ := List.mem_map.mp this
  rw [← e']; exact Nat.ne_of_lt (h q hq)
theorem all_cell {rest old : List (Addr × Obj)} {T : Addr} (h : ∀ p ∈ old, p.1 < T) (e : rest.map (·.1) = old.map (·.1)) : ∀ p ∈ rest, p.1 ≠ T + 1 := fun p hp => by
  have : p.1 ∈ old.map (·.1) := by rw [← e]; exact List.mem_map_of_mem hp
  obtain ⟨q, hq, e'⟩ := List.mem_map.mp this
  rw [← e']; exact Nat.ne_of_lt (Nat.lt_succ_of_lt (h q hq))

theorem lines_C10_3 : True := by
  (k_with "mine kall" => (first | (refine' all_off ?hc1024 ?ec1024; (case hc1024 => (with_reducible assumption)); (case ec1024 => rfl)) | (refine' all_cell ?hc1024 ?ec1024; (case hc1024 => (with_reducible assumption)); (case ec1024 => rfl))))
  (k_with "newList" => ((k_here; k_dflt (refine' newList_K ?k1c1025 ?k2c1025 ?_; (case k1c1025 => k_asm); (case k2c1025 => k_asm); k_whole); intro zzl' zzh' zzF' zzN' zzl1; (try k_sweep))))
  (k_with "mine kne" => (((refine neN ?_); (try dsimp only); first | (refine' Nat.ne_of_gt (lt_mem ?hc1026 ?mc1026); (case hc1026 => (with_reducible assumption)); (case mc1026 => k_extra "mine mem")) | k_extra "mine ne2" | (refine' Ne.symm ?xc1026; (case xc1026 => k_extra "mine ne2")) | fail "mine ne")))
  (k_with "exec While Compare cons nil" => ((k_here; k_dflt (refine whl_start 100 ?_))))
  trivial
theorem eqv_nil : PyData.eqv (.list []) (.list []) = true := by simp [PyData.eqv, PyData.eqvAll]
theorem eqv_cons (a : PyData) (r : List PyData) : PyData.eqv (.list (a :: r)) (.list []) = false := by simp [PyData.eqv, PyData.eqvAll]
theorem ne_nil {prog : Program} {w : World} {A : Around} {E : Value → Shared → Prop} {s : Shared} {x y : Value} {as bs : List Addr} {Q : Value → Shared → Prop} (ha : Reads s.heap x (.list []) as) (hb : Reads s.heap y (.list []) bs) (hu : A.units + 64 < cLine) (h : Q (.bool false) s) : wpAny (model prog w) A (compareOp .NotEq x y) Q E s :=
  ne_dataH ha hb rfl rfl hu (by rw [eqv_nil]; exact h)
theorem ne_cons {prog : Program} {w : World} {A : Around} {E : Value → Shared → Prop} {s : Shared} {x y : Value} {a : PyData} {r : List PyData} {as bs : List Addr} {Q : Value → Shared → Prop} (ha : Reads s.heap x (.list (a :: r)) as) (hb : Reads s.heap y (.list []) bs) (hs : SeqAt.shaped (.list (a :: r)) = true) (hu : A.units + 64 < cLine) (h : Q (.bool true) s) : wpAny (model prog w) A (compareOp .NotEq x y) Q E s :=
  ne_dataH ha hb hs rfl hu (by rw [eqv_cons]; exact h)



theorem lines_C10_4 : True := by
  (k_with "mine reads" => (first | exact ReadsAll.nil | (refine' ReadsAll.cons (reads_tt ?rac1028) ?rcc1028; (case rac1028 => (refine' News.get ?r1c1028 ?r2c1028; (case r1c1028 => k_asm); (case r2c1028 => k_mem))); (case rcc1028 => k_extra "mine reads"))))
  (k_with "mine readl" => ((refine' reads_list_at ?rac1029 ?rhc1029 ?rdc1029 ?rcc1029; (case rac1029 => (refine' News.get ?r1c1029 ?r2c1029; (case r1c1029 => k_asm); (case r2c1029 => k_mem))); (case rhc1029 => rfl); (case rdc1029 => rfl); (case rcc1029 => k_extra "mine reads"))))
  (k_with "compareOp NotEq ref ref" => ((k_here; k_dflt (first | (refine' ne_nil ?lac1030 ?lbc1030 ?luc1030 ?_; (case lac1030 => k_extra "mine readl"); (case lbc1030 => k_extra "mine readl"); (case luc1030 => ktr_units)) | (refine' ne_cons ?lac1030 ?lbc1030 ?lsc1030 ?luc1030 ?_; (case lac1030 => k_extra "mine readl"); (case lbc1030 => k_extra "mine readl"); (case lsc1030 => rfl); (case luc1030 => ktr_units))))))
  (k_with "getMethod ref" => ((k_here; (with_reducible show wpAny _ _ (getMethod (Value.ref _) (Str.ofString "append") _) _ _ _); k_dflt (refine' getMethod_append_N ?Nc1031 ?mc1031 ?_ ?hcc1031 ?hdc1031; (case Nc1031 => k_asm); (case mc1031 => k_mem); (case hcc1031 => rfl); (case hdc1031 => rfl)))))
  (k_with "call builtin:list.append" => ((k_here; (with_reducible show wpAny _ _ (call (Value.builtin _) [Value.ref _, _]) _ _ _); k_dflt (refine' append_K ?k1c1032 ?k2c1032 ?k3c1032 ?_ ?zc1032; (case k1c1032 => k_asm); (case k2c1032 => k_asm); (case k3c1032 => k_upd); (case zc1032 => first | exact Nat.le_of_ble_eq_true rfl | size_fits); k_whole); intro zzh' zzF' zzN'; (try k_sweep))))
  (k_with "call builtin:len" => ((k_here; (with_reducible show wpAny _ _ (call (Value.builtin "len") [Value.ref _]) _ _ _); k_dflt (refine' kun_lenL ?k1c1033 ?k2c1033 ?k3c1033 ?_; (case k1c1033 => exact News.isList (by k_asm) (by k_mem)); (case k2c1033 => kun_count); (case k3c1033 => decide); k_whole))))
  (k_with "mine is" => ((refine' is_nf ?iac1034 ?ibc1034 ?icc1034; (case iac1034 => decide); (case ibc1034 => decide); (case icc1034 => with_reducible assumption))))
  (k_with "mine nfa" => ((refine' nf_abs ?iac1035 ?ibc1035 ?icc1035; (case iac1035 => decide); (case ibc1035 => decide); (case icc1035 => with_reducible assumption))))
  trivial
theorem nb_sub {x y : Int} {m k : Nat} (hx : x.natAbs < m) (hy : y.natAbs < m) (h : 2 * m ≤ k) : (x - y).natAbs < k := by omega

theorem lines_C10_5 : True := by
  (k_with "call ref" => ((k_here; (with_reducible show wpAny _ _ (call (Value.ref 115) _) _ _ _); k_dflt (refine' sp_rt (sub_spec _ _ _ _ _ _ _ _ _ _ _ _ _ _ _ _ ?hAc1036 ?hBc1036 ?hnc1036 ?hxc1036 ?hxpc1036 ?h0c1036 ?h1c1036) ?kgc1036 ?knc1036 ?_; (case kgc1036 => k_extra "mine gs"); (case knc1036 => k_extra "mine need"); (case hAc1036 => k_extra "mine is"); (case hBc1036 => k_extra "mine is"); (case hnc1036 => with_reducible assumption); (case hxc1036 => k_extra "mine nfa"); (case hxpc1036 => k_extra "mine nfa"); (case h0c1036 => decide); (case h1c1036 => decide); k_extra "mine got"))))
  trivial
abbrev RD4 (x1 y1 x2 y2 x3 y3 : Int) (f0 : Addr) (h₀ : Heap) (L : Addr) (m : Str → Option Value) (news : List (Addr × Obj)) (h' : Heap) (v : Value) : Prop :=
  ∃ (D f1 f2 f3 : Addr) (t1 u1 t2 u2 t3 u3 : Tok) (c1 c2 c3 c : Nat), v = .ref D ∧ Fr h₀ L h' m ∧ News h₀ L h' ((D, W.listOf #[.ref f0, .ref f1, .ref f2, .ref f3] c) :: (f1, tupO x1 y1 t1 u1 c1) :: (f2, tupO x2 y2 t2 u2 c2) :: (f3, tupO x3 y3 t3 u3 c3) :: news)
theorem rd4_end {x1 y1 x2 y2 x3 y3 : Int} {s : Shared} {h₀ g h' : Heap} {L L' D f0 f1 f2 f3 : Addr} {m m' : Str → Option Value} {news need led : List (Addr × Obj)} {t1 u1 t2 u2 t3 u3 : Tok} {c1 c2 c3 c : Nat}
    (N : News h₀ L s.heap news) (hR : ∀ p ∈ need, p ∈ news) (G : GSub s.heap g (need.map (·.1))) (F' : Fr g L' h' m') (kF : Fr h₀ L h' m) (kN : News h₀ L h' led)
    (hm : (D, W.listOf #[.ref f0, .ref f1, .ref f2, .ref f3] c) ∈ led) (h1 : (f1, tupO x1 y1 t1 u1 c1) ∈ led) (h2 : (f2, tupO x2 y2 t2 u2 c2) ∈ led) (h3 : (f3, tupO x3 y3 t3 u3 c3) ∈ led) (hs : ∀ p ∈ need, p ∈ led) : RD4 x1 y1 x2 y2 x3 y3 f0 h₀ L m news h' (.ref D) := by
  refine ⟨D, f1, f2, f3, t1, u1, t2, u2, t3, u3, c1, c2, c3, c, rfl, kF, fun p hp => ?_⟩
  rcases List.mem_cons.mp hp with rfl | hp
  · exact kN _ hm
  rcases List.mem_cons.mp hp with rfl | hp
  · exact kN _ h1
  rcases List.mem_cons.mp hp with rfl | hp
  · exact kN _ h2
  rcases List.mem_cons.mp hp with rfl | hp
  · exact kN _ h3
  exact news_back N hR G F' kN hs p hp

theorem lines_C10_6 : True := by
  (k_with "mine rd4" => ((refine' rd4_end ?n0c1037 ?n1c1037 ?n2c1037 ?n3c1037 ?n5c1037 ?n6c1037 ?q0c1037 ?q1c1037 ?q2c1037 ?q3c1037 ?n8c1037; (case n0c1037 => assumption); (case n1c1037 => assumption); (case n2c1037 => assumption); (case n3c1037 => assumption); (case n5c1037 => k_asm); (case n6c1037 => assumption); (case q0c1037 => k_mem); (case q1c1037 => k_mem); (case q2c1037 => k_mem); (case q3c1037 => k_mem); (case n8c1037 => kcj_all))))
  trivial
abbrev RD6 (x1 y1 x2 y2 x3 y3 x4 y4 x5 y5 : Int) (f0 : Addr) (h₀ : Heap) (L : Addr) (m : Str → Option Value) (news : List (Addr × Obj)) (h' : Heap) (v : Value) : Prop :=
  ∃ (D f1 f2 f3 f4 f5 : Addr) (t1 u1 t2 u2 t3 u3 t4 u4 t5 u5 : Tok) (c1 c2 c3 c4 c5 c : Nat), v = .ref D ∧ Fr h₀ L h' m ∧ News h₀ L h' ((D, W.listOf #[.ref f0, .ref f1, .ref f2, .ref f3, .ref f4, .ref f5] c) :: (f1, tupO x1 y1 t1 u1 c1) :: (f2, tupO x2 y2 t2 u2 c2) :: (f3, tupO x3 y3 t3 u3 c3) :: (f4, tupO x4 y4 t4 u4 c4) :: (f5, tupO x5 y5 t5 u5 c5) :: news)
theorem rd6_end {x1 y1 x2 y2 x3 y3 x4 y4 x5 y5 : Int} {s : Shared} {h₀ g h' : Heap} {L L' D f0 f1 f2 f3 f4 f5 : Addr} {m m' : Str → Option Value} {news need led : List (Addr × Obj)} {t1 u1 t2 u2 t3 u3 t4 u4 t5 u5 : Tok} {c1 c2 c3 c4 c5 c : Nat}
    (N : News h₀ L s.heap news) (hR : ∀ p ∈ need, p ∈ news) (G : GSub s.heap g (need.map (·.1))) (F' : Fr g L' h' m') (kF : Fr h₀ L h' m) (kN : News h₀ L h' led)
    (hm : (D, W.listOf #[.ref f0, .ref f1, .ref f2, .ref f3, .ref f4, .ref f5] c) ∈ led) (h1 : (f1, tupO x1 y1 t1 u1 c1) ∈ led) (h2 : (f2, tupO x2 y2 t2 u2 c2) ∈ led) (h3 : (f3, tupO x3 y3 t3 u3 c3) ∈ led) (h4 : (f4, tupO x4 y4 t4 u4 c4) ∈ led) (h5 : (f5, tupO x5 y5 t5 u5 c5) ∈ led) (hs : ∀ p ∈ need, p ∈ led) : RD6 x1 y1 x2 y2 x3 y3 x4 y4 x5 y5 f0 h₀ L m news h' (.ref D) := by
  refine ⟨D, f1, f2, f3, f4, f5, t1, u1, t2, u2, t3, u3, t4, u4, t5, u5, c1, c2, c3, c4, c5, c, rfl, kF, fun p hp => ?_⟩
  rcases List.mem_cons.mp hp with rfl | hp
  · exact kN _ hm
  rcases List.mem_cons.mp hp with rfl | hp
  · exact kN _ h1
  rcases List.mem_cons.mp hp with rfl | hp
  · exact kN _ h2
  rcases List.mem_cons.mp hp with rfl | hp
  · exact kN _ h3
  rcases List.mem_cons.mp hp with rfl | hp
  · exact kN _ h4
  rcases List.mem_cons.mp hp with rfl | hp
  · exact kN _ h5
  exact news_back N hR G F' kN hs p hp
theorem lines_C10_7 : True := by
  (k_with "mine rd6" => ((refine' rd6_end ?n0c1038 ?n1c1038 ?n2c1038 ?n3c1038 ?n5c1038 ?n6c1038 ?q0c1038 ?q1c1038 ?q2c1038 ?q3c1038 ?q4c1038 ?q5c1038 ?n8c1038; (case n0c1038 => assumption); (case n1c1038 => assumption); (case n2c1038 => assumption); (case n3c1038 => assumption); (case n5c1038 => k_asm); (case n6c1038 => assumption); (case q0c1038 => k_mem); (case q1c1038 => k_mem); (case q2c1038 => k_mem); (case q3c1038 => k_mem); (case q4c1038 => k_mem); (case q5c1038 => k_mem); (case n8c1038 => kcj_all))))
  trivial
theorem drop_4_0 {h₀ h : Heap} {L : Addr} {a0 a1 a2 a3 a4 a5 a6 a7 : Addr × Obj} (N : News h₀ L h [a0, a1, a2, a3, a4, a5, a6, a7]) : News h₀ L h [a1, a2, a3, a4, a5, a6, a7] :=
  List.forall_mem_cons.mpr ⟨N _ (.tail _ (.head _)), List.forall_mem_cons.mpr ⟨N _ (.tail _ (.tail _ (.head _))), List.forall_mem_cons.mpr ⟨N _ (.tail _ (.tail _ (.tail _ (.head _)))), List.forall_mem_cons.mpr ⟨N _ (.tail _ (.tail _ (.tail _ (.tail _ (.head _))))), List.forall_mem_cons.mpr ⟨N _ (.tail _ (.tail _ (.tail _ (.tail _ (.tail _ (.head _)))))), List.forall_mem_cons.mpr ⟨N _ (.tail _ (.tail _ (.tail _ (.tail _ (.tail _ (.tail _ (.head _))))))), List.forall_mem_cons.mpr ⟨N _ (.tail _ (.tail _ (.tail _ (.tail _ (.tail _ (.tail _ (.tail _ (.head _)))))))), List.forall_mem_nil _⟩⟩⟩⟩⟩⟩⟩
theorem lines_C10_8 : True := by
  (k_with "WhlRest" => (((rename News _ _ _ [_, _, _, _, _, _, _, _] => zzNx); (replace zzNx := drop_4_0 zzNx); k_dflt (refine' whl_turn ?hEc1039 ?_; (case hEc1039 => first | passes_own | with_unfolding_all passes_own)); (try k_sweep))))
  trivial
theorem drop_4_1 {h₀ h : Heap} {L : Addr} {a0 a1 a2 a3 a4 a5 a6 a7 a8 a9 a10 a11 : Addr × Obj} (N : News h₀ L h [a0, a1, a2, a3, a4, a5, a6, a7, a8, a9, a10, a11]) : News h₀ L h [a0, a1, a2, a3, a5, a6, a7, a8, a9, a10, a11] :=
  List.forall_mem_cons.mpr ⟨N _ (.head _), List.forall_mem_cons.mpr ⟨N _ (.tail _ (.head _)), List.forall_mem_cons.mpr ⟨N _ (.tail _ (.tail _ (.head _))), List.forall_mem_cons.mpr ⟨N _ (.tail _ (.tail _ (.tail _ (.head _)))), List.forall_mem_cons.mpr ⟨N _ (.tail _ (.tail _ (.tail _ (.tail _ (.tail _ (.head _)))))), List.forall_mem_cons.mpr ⟨N _ (.tail _ (.tail _ (.tail _ (.tail _ (.tail _ (.tail _ (.head _))))))), List.forall_mem_cons.mpr ⟨N _ (.tail _ (.tail _ (.tail _ (.tail _ (.tail _ (.tail _ (.tail _ (.head _)))))))), List.forall_mem_cons.mpr ⟨N _ (.tail _ (.tail _ (.tail _ (.tail _ (.tail _ (.tail _ (.tail _ (.tail _ (.head _))))))))), List.forall_mem_cons.mpr ⟨N _ (.tail _ (.tail _ (.tail _ (.tail _ (.tail _ (.tail _ (.tail _ (.tail _ (.tail _ (.head _)))))))))), List.forall_mem_cons.mpr ⟨N _ (.tail _ (.tail _ (.tail _ (.tail _ (.tail _ (.tail _ (.tail _ (.tail _ (.tail _ (.tail _ (.head _))))))))))), List.forall_mem_cons.mpr ⟨N _ (.tail _ (.tail _ (.tail _ (.tail _ (.tail _ (.tail _ (.tail _ (.tail _ (.tail _ (.tail _ (.tail _ (.head _)))))))))))), List.forall_mem_nil _⟩⟩⟩⟩⟩⟩⟩⟩⟩⟩⟩
theorem lines_C10_9 : True := by
  (k_with "WhlRest" => (((rename News _ _ _ [_, _, _, _, _, _, _, _, _, _, _, _] => zzNx); (replace zzNx := drop_4_1 zzNx); k_dflt (refine' whl_turn ?hEc1040 ?_; (case hEc1040 => first | passes_own | with_unfolding_all passes_own)); (try k_sweep))))
  trivial
theorem drop_4_2 {h₀ h : Heap} {L : Addr} {a0 a1 a2 a3 a4 a5 a6 a7 a8 a9 a10 a11 a12 a13 a14 : Addr × Obj} (N : News h₀ L h [a0, a1, a2, a3, a4, a5, a6, a7, a8, a9, a10, a11, a12, a13, a14]) : News h₀ L h [a0, a1, a2, a7, a8, a9, a10, a11, a12, a13, a14] :=
  List.forall_mem_cons.mpr ⟨N _ (.head _), List.forall_mem_cons.mpr ⟨N _ (.tail _ (.head _)), List.forall_mem_cons.mpr ⟨N _ (.tail _ (.tail _ (.head _))), List.forall_mem_cons.mpr ⟨N _ (.tail _ (.tail _ (.tail _ (.tail _ (.tail _ (.tail _ (.tail _ (.head _)))))))), List.forall_mem_cons.mpr ⟨N _ (.tail _ (.tail _ (.tail _ (.tail _ (.tail _ (.tail _ (.tail _ (.tail _ (.head _))))))))), List.forall_mem_cons.mpr ⟨N _ (.tail _ (.tail _ (.tail _ (.tail _ (.tail _ (.tail _ (.tail _ (.tail _ (.tail _ (.head _)))))))))), List.forall_mem_cons.mpr ⟨N _ (.tail _ (.tail _ (.tail _ (.tail _ (.tail _ (.tail _ (.tail _ (.tail _ (.tail _ (.tail _ (.head _))))))))))), List.forall_mem_cons.mpr ⟨N _ (.tail _ (.tail _ (.tail _ (.tail _ (.tail _ (.tail _ (.tail _ (.tail _ (.tail _ (.tail _ (.tail _ (.head _)))))))))))), List.forall_mem_cons.mpr ⟨N _ (.tail _ (.tail _ (.tail _ (.tail _ (.tail _ (.tail _ (.tail _ (.tail _ (.tail _ (.tail _ (.tail _ (.tail _ (.head _))))))))))))), List.forall_mem_cons.mpr ⟨N _ (.tail _ (.tail _ (.tail _ (.tail _ (.tail _ (.tail _ (.tail _ (.tail _ (.tail _ (.tail _ (.tail _ (.tail _ (.tail _ (.head _)))))))))))))), List.forall_mem_cons.mpr ⟨N _ (.tail _ (.tail _ (.tail _ (.tail _ (.tail _ (.tail _ (.tail _ (.tail _ (.tail _ (.tail _ (.tail _ (.tail _ (.tail _ (.tail _ (.head _))))))))))))))), List.forall_mem_nil _⟩⟩⟩⟩⟩⟩⟩⟩⟩⟩⟩
theorem lines_C10_10 : True := by
  (k_with "WhlRest" => (((rename News _ _ _ [_, _, _, _, _, _, _, _, _, _, _, _, _, _, _] => zzNx); (replace zzNx := drop_4_2 zzNx); k_dflt (refine' whl_turn ?hEc1041 ?_; (case hEc1041 => first | passes_own | with_unfolding_all passes_own)); (try k_sweep))))
  trivial
theorem drop_4_3 {h₀ h : Heap} {L : Addr} {a0 a1 a2 a3 a4 a5 a6 a7 a8 a9 a10 a11 a12 a13 : Addr × Obj} (N : News h₀ L h [a0, a1, a2, a3, a4, a5, a6, a7, a8, a9, a10, a11, a12, a13]) : News h₀ L h [a0, a1, a5, a6, a7, a8, a9, a10, a11, a12, a13] :=
  List.forall_mem_cons.mpr ⟨N _ (.head _), List.forall_mem_cons.mpr ⟨N _ (.tail _ (.head _)), List.forall_mem_cons.mpr ⟨N _ (.tail _ (.tail _ (.tail _ (.tail _ (.tail _ (.head _)))))), List.forall_mem_cons.mpr ⟨N _ (.tail _ (.tail _ (.tail _ (.tail _ (.tail _ (.tail _ (.head _))))))), List.forall_mem_cons.mpr ⟨N _ (.tail _ (.tail _ (.tail _ (.tail _ (.tail _ (.tail _ (.tail _ (.head _)))))))), List.forall_mem_cons.mpr ⟨N _ (.tail _ (.tail _ (.tail _ (.tail _ (.tail _ (.tail _ (.tail _ (.tail _ (.head _))))))))), List.forall_mem_cons.mpr ⟨N _ (.tail _ (.tail _ (.tail _ (.tail _ (.tail _ (.tail _ (.tail _ (.tail _ (.tail _ (.head _)))))))))), List.forall_mem_cons.mpr ⟨N _ (.tail _ (.tail _ (.tail _ (.tail _ (.tail _ (.tail _ (.tail _ (.tail _ (.tail _ (.tail _ (.head _))))))))))), List.forall_mem_cons.mpr ⟨N _ (.tail _ (.tail _ (.tail _ (.tail _ (.tail _ (.tail _ (.tail _ (.tail _ (.tail _ (.tail _ (.tail _ (.head _)))))))))))), List.forall_mem_cons.mpr ⟨N _ (.tail _ (.tail _ (.tail _ (.tail _ (.tail _ (.tail _ (.tail _ (.tail _ (.tail _ (.tail _ (.tail _ (.tail _ (.head _))))))))))))), List.forall_mem_cons.mpr ⟨N _ (.tail _ (.tail _ (.tail _ (.tail _ (.tail _ (.tail _ (.tail _ (.tail _ (.tail _ (.tail _ (.tail _ (.tail _ (.tail _ (.head _)))))))))))))), List.forall_mem_nil _⟩⟩⟩⟩⟩⟩⟩⟩⟩⟩⟩
theorem lines_C10_11 : True := by
  (k_with "WhlRest" => (((rename News _ _ _ [_, _, _, _, _, _, _, _, _, _, _, _, _, _] => zzNx); (replace zzNx := drop_4_3 zzNx); k_dflt (refine' whl_turn ?hEc1042 ?_; (case hEc1042 => first | passes_own | with_unfolding_all passes_own)); (try k_sweep))))
  trivial
theorem drop_4_4 {h₀ h : Heap} {L : Addr} {a0 a1 a2 a3 a4 a5 a6 a7 a8 a9 a10 a11 a12 : Addr × Obj} (N : News h₀ L h [a0, a1, a2, a3, a4, a5, a6, a7, a8, a9, a10, a11, a12]) : News h₀ L h [a0, a3, a4, a5, a6, a7, a8, a9, a10, a11, a12] :=
  List.forall_mem_cons.mpr ⟨N _ (.head _), List.forall_mem_cons.mpr ⟨N _ (.tail _ (.tail _ (.tail _ (.head _)))), List.forall_mem_cons.mpr ⟨N _ (.tail _ (.tail _ (.tail _ (.tail _ (.head _))))), List.forall_mem_cons.mpr ⟨N _ (.tail _ (.tail _ (.tail _ (.tail _ (.tail _ (.head _)))))), List.forall_mem_cons.mpr ⟨N _ (.tail _ (.tail _ (.tail _ (.tail _ (.tail _ (.tail _ (.head _))))))), List.forall_mem_cons.mpr ⟨N _ (.tail _ (.tail _ (.tail _ (.tail _ (.tail _ (.tail _ (.tail _ (.head _)))))))), List.forall_mem_cons.mpr ⟨N _ (.tail _ (.tail _ (.tail _ (.tail _ (.tail _ (.tail _ (.tail _ (.tail _ (.head _))))))))), List.forall_mem_cons.mpr ⟨N _ (.tail _ (.tail _ (.tail _ (.tail _ (.tail _ (.tail _ (.tail _ (.tail _ (.tail _ (.head _)))))))))), List.forall_mem_cons.mpr ⟨N _ (.tail _ (.tail _ (.tail _ (.tail _ (.tail _ (.tail _ (.tail _ (.tail _ (.tail _ (.tail _ (.head _))))))))))), List.forall_mem_cons.mpr ⟨N _ (.tail _ (.tail _ (.tail _ (.tail _ (.tail _ (.tail _ (.tail _ (.tail _ (.tail _ (.tail _ (.tail _ (.head _)))))))))))), List.forall_mem_cons.mpr ⟨N _ (.tail _ (.tail _ (.tail _ (.tail _ (.tail _ (.tail _ (.tail _ (.tail _ (.tail _ (.tail _ (.tail _ (.tail _ (.head _))))))))))))), List.forall_mem_nil _⟩⟩⟩⟩⟩⟩⟩⟩⟩⟩⟩

theorem lines_C10_12 : True := by
  (k_with "WhlRest" => (((rename News _ _ _ [_, _, _, _, _, _, _, _, _, _, _, _, _] => zzNx); (replace zzNx := drop_4_4 zzNx); k_dflt (refine' whl_turn ?hEc1043 ?_; (case hEc1043 => first | passes_own | with_unfolding_all passes_own)); (try k_sweep))))
  trivial
theorem diff4_spec {prog : Program} {w : World} {mean : ExcName → Option Value} {mg mb : Str → Option Value} (R e0 e1 e2 e3 : Addr) (V0 V1 V2 V3 : Int) (t0 u0 t1 u1 t2 u2 t3 u3 : Tok) (c0 c1 c2 c3 c : Nat) (b0 : V0.natAbs < 4000000) (b1 : V1.natAbs < 4000000) (b2 : V2.natAbs < 4000000) (b3 : V3.natAbs < 4000000) :
    Sp prog w mean mg mb 239 12 [.ref R] [(R, W.listOf #[.ref e0, .ref e1, .ref e2, .ref e3] c), (e0, tupO (nf (-4) V0).1 (nf (-4) V0).2 t0 u0 c0), (e1, tupO (nf (-4) V1).1 (nf (-4) V1).2 t1 u1 c1), (e2, tupO (nf (-4) V2).1 (nf (-4) V2).2 t2 u2 c2), (e3, tupO (nf (-4) V3).1 (nf (-4) V3).2 t3 u3 c3)] (RD4 (nf (-4) (V1 - V0)).1 (nf (-4) (V1 - V0)).2 (nf (-4) ((V2 - V1) - (V1 - V0))).1 (nf (-4) ((V2 - V1) - (V1 - V0))).2 (nf (-4) (((V3 - V2) - (V2 - V1)) - ((V2 - V1) - (V1 - V0)))).1 (nf (-4) (((V3 - V2) - (V2 - V1)) - ((V2 - V1) - (V1 - V0)))).2 e0) := by
  have y0_0 : V0.natAbs < 4000000 := b0
  have y0_1 : V1.natAbs < 4000000 := b1
  have y0_2 : V2.natAbs < 4000000 := b2
  have y0_3 : V3.natAbs < 4000000 := b3
  have y1_0 : ((V1 - V0)).natAbs < 8000000 := nb_sub y0_1 y0_0 (by decide)
  have y1_1 : ((V2 - V1)).natAbs < 8000000 := nb_sub y0_2 y0_1 (by decide)
  have y1_2 : ((V3 - V2)).natAbs < 8000000 := nb_sub y0_3 y0_2 (by decide)
  have y2_0 : (((V2 - V1) - (V1 - V0))).natAbs < 16000000 := nb_sub y1_1 y1_0 (by decide)
  have y2_1 : (((V3 - V2) - (V2 - V1))).natAbs < 16000000 := nb_sub y1_2 y1_1 (by decide)
  have y3_0 : ((((V3 - V2) - (V2 - V1)) - ((V2 - V1) - (V1 - V0)))).natAbs < 32000000 := nb_sub y2_1 y2_0 (by decide)
  have w0_0 : (V0).natAbs < 1000000000 := Nat.lt_trans y0_0 (by decide)
  have w0_1 : (V1).natAbs < 1000000000 := Nat.lt_trans y0_1 (by decide)
  have w0_2 : (V2).natAbs < 1000000000 := Nat.lt_trans y0_2 (by decide)
  have w0_3 : (V3).natAbs < 1000000000 := Nat.lt_trans y0_3 (by decide)
  have w1_0 : ((V1 - V0)).natAbs < 1000000000 := Nat.lt_trans y1_0 (by decide)
  have w1_1 : ((V2 - V1)).natAbs < 1000000000 := Nat.lt_trans y1_1 (by decide)
  have w1_2 : ((V3 - V2)).natAbs < 1000000000 := Nat.lt_trans y1_2 (by decide)
  have w2_0 : (((V2 - V1) - (V1 - V0))).natAbs < 1000000000 := Nat.lt_trans y2_0 (by decide)
  have w2_1 : (((V3 - V2) - (V2 - V1))).natAbs < 1000000000 := Nat.lt_trans y2_1 (by decide)
  have w3_0 : ((((V3 - V2) - (V2 - V1)) - ((V2 - V1) - (V1 - V0)))).natAbs < 1000000000 := Nat.lt_trans y3_0 (by decide)
  clear y3_0 y2_0 y2_1 y1_0 y1_1 y1_2 y0_0 y0_1 y0_2 y0_3 b0 b1 b2 b3
  unfold Sp
  intro dp un gd cn cs a ccd cl outer A₀ base h₀ L m news s Q E B F X N T hk hR hd hu hret
  (have dummy : (PySem.Challenge.rw_tk0005_01.Holds → Frag.In (Mine.hd.heap_39 w.params) h₀ → True) := by (k_fill; intros; trivial))
  clear dummy
  k_dflt (refine' enter_cc [Str.ofString "values"] _ hR ?k1 ?k2 ?k3 ?k4 ?k5 ?kA ?kF ?kK ?k6 ?k7 ?k8 ?k9 ?kB ?kD ?c2 ?c3 ?c4 ?_; (case kA => exact rfl); (case kF => exact rfl); (case kK => first | exact rfl | assumption); (case k1 => k_asm); (case k2 => k_asm); (case k3 => k_asm); (case k4 => exact N); (case k5 => k_asm); (case k6 => k_is); (case k7 => k_is); (case k8 => ktr_room); (case k9 => exact BindsTo.of_eq rfl); (case kB => exact rfl); (case kD => decide +kernel); (case c2 => exact rfl); (case c3 => exact rfl); (case c4 => exact rfl); k_whole; intro g' L' h' tk' cells' FG' F' N' Y' B' X' T' l1 G'; k_cells Y'; (try simp only [List.cons_append, List.nil_append] at N'); (try dsimp only [List.zip, List.zipWith, List.length, Nat.zero_add] at *); (try k_fold))
  w_top off
  k_steps
  all_goals (refine hret _ _ _ ?_; k_extra "mine rd4")
theorem drop_6_0 {h₀ h : Heap} {L : Addr} {a0 a1 a2 a3 a4 a5 a6 a7 a8 a9 : Addr × Obj} (N : News h₀ L h [a0, a1, a2, a3, a4, a5, a6, a7, a8, a9]) : News h₀ L h [a1, a2, a3, a4, a5, a6, a7, a8, a9] :=
  List.forall_mem_cons.mpr ⟨N _ (.tail _ (.head _)), List.forall_mem_cons.mpr ⟨N _ (.tail _ (.tail _ (.head _))), List.forall_mem_cons.mpr ⟨N _ (.tail _ (.tail _ (.tail _ (.head _)))), List.forall_mem_cons.mpr ⟨N _ (.tail _ (.tail _ (.tail _ (.tail _ (.head _))))), List.forall_mem_cons.mpr ⟨N _ (.tail _ (.tail _ (.tail _ (.tail _ (.tail _ (.head _)))))), List.forall_mem_cons.mpr ⟨N _ (.tail _ (.tail _ (.tail _ (.tail _ (.tail _ (.tail _ (.head _))))))), List.forall_mem_cons.mpr ⟨N _ (.tail _ (.tail _ (.tail _ (.tail _ (.tail _ (.tail _ (.tail _ (.head _)))))))), List.forall_mem_cons.mpr ⟨N _ (.tail _ (.tail _ (.tail _ (.tail _ (.tail _ (.tail _ (.tail _ (.tail _ (.head _))))))))), List.forall_mem_cons.mpr ⟨N _ (.tail _ (.tail _ (.tail _ (.tail _ (.tail _ (.tail _ (.tail _ (.tail _ (.tail _ (.head _)))))))))), List.forall_mem_nil _⟩⟩⟩⟩⟩⟩⟩⟩⟩
theorem lines_C10_13 : True := by
  (k_with "WhlRest" => (((rename News _ _ _ [_, _, _, _, _, _, _, _, _, _] => zzNx); (replace zzNx := drop_6_0 zzNx); k_dflt (refine' whl_turn ?hEc1044 ?_; (case hEc1044 => first | passes_own | with_unfolding_all passes_own)); (try k_sweep))))
  trivial
theorem drop_6_1 {h₀ h : Heap} {L : Addr} {a0 a1 a2 a3 a4 a5 a6 a7 a8 a9 a10 a11 a12 a13 a14 a15 : Addr × Obj} (N : News h₀ L h [a0, a1, a2, a3, a4, a5, a6, a7, a8, a9, a10, a11, a12, a13, a14, a15]) : News h₀ L h [a0, a1, a2, a3, a4, a5, a7, a8, a9, a10, a11, a12, a13, a14, a15] :=
  List.forall_mem_cons.mpr ⟨N _ (.head _), List.forall_mem_cons.mpr ⟨N _ (.tail _ (.head _)), List.forall_mem_cons.mpr ⟨N _ (.tail _ (.tail _ (.head _))), List.forall_mem_cons.mpr ⟨N _ (.tail _ (.tail _ (.tail _ (.head _)))), List.forall_mem_cons.mpr ⟨N _ (.tail _ (.tail _ (.tail _ (.tail _ (.head _))))), List.forall_mem_cons.mpr ⟨N _ (.tail _ (.tail _ (.tail _ (.tail _ (.tail _ (.head _)))))), List.forall_mem_cons.mpr ⟨N _ (.tail _ (.tail _ (.tail _ (.tail _ (.tail _ (.tail _ (.tail _ (.head _)))))))), List.forall_mem_cons.mpr ⟨N _ (.tail _ (.tail _ (.tail _ (.tail _ (.tail _ (.tail _ (.tail _ (.tail _ (.head _))))))))), List.forall_mem_cons.mpr ⟨N _ (.tail _ (.tail _ (.tail _ (.tail _ (.tail _ (.tail _ (.tail _ (.tail _ (.tail _ (.head _)))))))))), List.forall_mem_cons.mpr ⟨N _ (.tail _ (.tail _ (.tail _ (.tail _ (.tail _ (.tail _ (.tail _ (.tail _ (.tail _ (.tail _ (.head _))))))))))), List.forall_mem_cons.mpr ⟨N _ (.tail _ (.tail _ (.tail _ (.tail _ (.tail _ (.tail _ (.tail _ (.tail _ (.tail _ (.tail _ (.tail _ (.head _)))))))))))), List.forall_mem_cons.mpr ⟨N _ (.tail _ (.tail _ (.tail _ (.tail _ (.tail _ (.tail _ (.tail _ (.tail _ (.tail _ (.tail _ (.tail _ (.tail _ (.head _))))))))))))), List.forall_mem_cons.mpr ⟨N _ (.tail _ (.tail _ (.tail _ (.tail _ (.tail _ (.tail _ (.tail _ (.tail _ (.tail _ (.tail _ (.tail _ (.tail _ (.tail _ (.head _)))))))))))))), List.forall_mem_cons.mpr ⟨N _ (.tail _ (.tail _ (.tail _ (.tail _ (.tail _ (.tail _ (.tail _ (.tail _ (.tail _ (.tail _ (.tail _ (.tail _ (.tail _ (.tail _ (.head _))))))))))))))), List.forall_mem_cons.mpr ⟨N _ (.tail _ (.tail _ (.tail _ (.tail _ (.tail _ (.tail _ (.tail _ (.tail _ (.tail _ (.tail _ (.tail _ (.tail _ (.tail _ (.tail _ (.tail _ (.head _)))))))))))))))), List.forall_mem_nil _⟩⟩⟩⟩⟩⟩⟩⟩⟩⟩⟩⟩⟩⟩⟩
theorem lines_C10_14 : True := by
  (k_with "WhlRest" => (((rename News _ _ _ [_, _, _, _, _, _, _, _, _, _, _, _, _, _, _, _] => zzNx); (replace zzNx := drop_6_1 zzNx); k_dflt (refine' whl_turn ?hEc1045 ?_; (case hEc1045 => first | passes_own | with_unfolding_all passes_own)); (try k_sweep))))
  trivial
theorem drop_6_2 {h₀ h : Heap} {L : Addr} {a0 a1 a2 a3 a4 a5 a6 a7 a8 a9 a10 a11 a12 a13 a14 a15 a16 a17 a18 a19 a20 : Addr × Obj} (N : News h₀ L h [a0, a1, a2, a3, a4, a5, a6, a7, a8, a9, a10, a11, a12, a13, a14, a15, a16, a17, a18, a19, a20]) : News h₀ L h [a0, a1, a2, a3, a4, a11, a12, a13, a14, a15, a16, a17, a18, a19, a20] :=
  List.forall_mem_cons.mpr ⟨N _ (.head _), List.forall_mem_cons.mpr ⟨N _ (.tail _ (.head _)), List.forall_mem_cons.mpr ⟨N _ (.tail _ (.tail _ (.head _))), List.forall_mem_cons.mpr ⟨N _ (.tail _ (.tail _ (.tail _ (.head _)))), List.forall_mem_cons.mpr ⟨N _ (.tail _ (.tail _ (.tail _ (.tail _ (.head _))))), List.forall_mem_cons.mpr ⟨N _ (.tail _ (.tail _ (.tail _ (.tail _ (.tail _ (.tail _ (.tail _ (.tail _ (.tail _ (.tail _ (.tail _ (.head _)))))))))))), List.forall_mem_cons.mpr ⟨N _ (.tail _ (.tail _ (.tail _ (.tail _ (.tail _ (.tail _ (.tail _ (.tail _ (.tail _ (.tail _ (.tail _ (.tail _ (.head _))))))))))))), List.forall_mem_cons.mpr ⟨N _ (.tail _ (.tail _ (.tail _ (.tail _ (.tail _ (.tail _ (.tail _ (.tail _ (.tail _ (.tail _ (.tail _ (.tail _ (.tail _ (.head _)))))))))))))), List.forall_mem_cons.mpr ⟨N _ (.tail _ (.tail _ (.tail _ (.tail _ (.tail _ (.tail _ (.tail _ (.tail _ (.tail _ (.tail _ (.tail _ (.tail _ (.tail _ (.tail _ (.head _))))))))))))))), List.forall_mem_cons.mpr ⟨N _ (.tail _ (.tail _ (.tail _ (.tail _ (.tail _ (.tail _ (.tail _ (.tail _ (.tail _ (.tail _ (.tail _ (.tail _ (.tail _ (.tail _ (.tail _ (.head _)))))))))))))))), List.forall_mem_cons.mpr ⟨N _ (.tail _ (.tail _ (.tail _ (.tail _ (.tail _ (.tail _ (.tail _ (.tail _ (.tail _ (.tail _ (.tail _ (.tail _ (.tail _ (.tail _ (.tail _ (.tail _ (.head _))))))))))))))))), List.forall_mem_cons.mpr ⟨N _ (.tail _ (.tail _ (.tail _ (.tail _ (.tail _ (.tail _ (.tail _ (.tail _ (.tail _ (.tail _ (.tail _ (.tail _ (.tail _ (.tail _ (.tail _ (.tail _ (.tail _ (.head _)))))))))))))))))), List.forall_mem_cons.mpr ⟨N _ (.tail _ (.tail _ (.tail _ (.tail _ (.tail _ (.tail _ (.tail _ (.tail _ (.tail _ (.tail _ (.tail _ (.tail _ (.tail _ (.tail _ (.tail _ (.tail _ (.tail _ (.tail _ (.head _))))))))))))))))))), List.forall_mem_cons.mpr ⟨N _ (.tail _ (.tail _ (.tail _ (.tail _ (.tail _ (.tail _ (.tail _ (.tail _ (.tail _ (.tail _ (.tail _ (.tail _ (.tail _ (.tail _ (.tail _ (.tail _ (.tail _ (.tail _ (.tail _ (.head _)))))))))))))))))))), List.forall_mem_cons.mpr ⟨N _ (.tail _ (.tail _ (.tail _ (.tail _ (.tail _ (.tail _ (.tail _ (.tail _ (.tail _ (.tail _ (.tail _ (.tail _ (.tail _ (.tail _ (.tail _ (.tail _ (.tail _ (.tail _ (.tail _ (.tail _ (.head _))))))))))))))))))))), List.forall_mem_nil _⟩⟩⟩⟩⟩⟩⟩⟩⟩⟩⟩⟩⟩⟩⟩
theorem lines_C10_15 : True := by
  (k_with "WhlRest" => (((rename News _ _ _ [_, _, _, _, _, _, _, _, _, _, _, _, _, _, _, _, _, _, _, _, _] => zzNx); (replace zzNx := drop_6_2 zzNx); k_dflt (refine' whl_turn ?hEc1046 ?_; (case hEc1046 => first | passes_own | with_unfolding_all passes_own)); (try k_sweep))))
  trivial
theorem drop_6_3 {h₀ h : Heap} {L : Addr} {a0 a1 a2 a3 a4 a5 a6 a7 a8 a9 a10 a11 a12 a13 a14 a15 a16 a17 a18 a19 : Addr × Obj} (N : News h₀ L h [a0, a1, a2, a3, a4, a5, a6, a7, a8, a9, a10, a11, a12, a13, a14, a15, a16, a17, a18, a19]) : News h₀ L h [a0, a1, a2, a3, a9, a10, a11, a12, a13, a14, a15, a16, a17, a18, a19] :=
  List.forall_mem_cons.mpr ⟨N _ (.head _), List.forall_mem_cons.mpr ⟨N _ (.tail _ (.head _)), List.forall_mem_cons.mpr ⟨N _ (.tail _ (.tail _ (.head _))), List.forall_mem_cons.mpr ⟨N _ (.tail _ (.tail _ (.tail _ (.head _)))), List.forall_mem_cons.mpr ⟨N _ (.tail _ (.tail _ (.tail _ (.tail _ (.tail _ (.tail _ (.tail _ (.tail _ (.tail _ (.head _)))))))))), List.forall_mem_cons.mpr ⟨N _ (.tail _ (.tail _ (.tail _ (.tail _ (.tail _ (.tail _ (.tail _ (.tail _ (.tail _ (.tail _ (.head _))))))))))), List.forall_mem_cons.mpr ⟨N _ (.tail _ (.tail _ (.tail _ (.tail _ (.tail _ (.tail _ (.tail _ (.tail _ (.tail _ (.tail _ (.tail _ (.head _)))))))))))), List.forall_mem_cons.mpr ⟨N _ (.tail _ (.tail _ (.tail _ (.tail _ (.tail _ (.tail _ (.tail _ (.tail _ (.tail _ (.tail _ (.tail _ (.tail _ (.head _))))))))))))), List.forall_mem_cons.mpr ⟨N _ (.tail _ (.tail _ (.tail _ (.tail _ (.tail _ (.tail _ (.tail _ (.tail _ (.tail _ (.tail _ (.tail _ (.tail _ (.tail _ (.head _)))))))))))))), List.forall_mem_cons.mpr ⟨N _ (.tail _ (.tail _ (.tail _ (.tail _ (.tail _ (.tail _ (.tail _ (.tail _ (.tail _ (.tail _ (.tail _ (.tail _ (.tail _ (.tail _ (.head _))))))))))))))), List.forall_mem_cons.mpr ⟨N _ (.tail _ (.tail _ (.tail _ (.tail _ (.tail _ (.tail _ (.tail _ (.tail _ (.tail _ (.tail _ (.tail _ (.tail _ (.tail _ (.tail _ (.tail _ (.head _)))))))))))))))), List.forall_mem_cons.mpr ⟨N _ (.tail _ (.tail _ (.tail _ (.tail _ (.tail _ (.tail _ (.tail _ (.tail _ (.tail _ (.tail _ (.tail _ (.tail _ (.tail _ (.tail _ (.tail _ (.tail _ (.head _))))))))))))))))), List.forall_mem_cons.mpr ⟨N _ (.tail _ (.tail _ (.tail _ (.tail _ (.tail _ (.tail _ (.tail _ (.tail _ (.tail _ (.tail _ (.tail _ (.tail _ (.tail _ (.tail _ (.tail _ (.tail _ (.tail _ (.head _)))))))))))))))))), List.forall_mem_cons.mpr ⟨N _ (.tail _ (.tail _ (.tail _ (.tail _ (.tail _ (.tail _ (.tail _ (.tail _ (.tail _ (.tail _ (.tail _ (.tail _ (.tail _ (.tail _ (.tail _ (.tail _ (.tail _ (.tail _ (.head _))))))))))))))))))), List.forall_mem_cons.mpr ⟨N _ (.tail _ (.tail _ (.tail _ (.tail _ (.tail _ (.tail _ (.tail _ (.tail _ (.tail _ (.tail _ (.tail _ (.tail _ (.tail _ (.tail _ (.tail _ (.tail _ (.tail _ (.tail _ (.tail _ (.head _)))))))))))))))))))), List.forall_mem_nil _⟩⟩⟩⟩⟩⟩⟩⟩⟩⟩⟩⟩⟩⟩⟩
theorem lines_C10_16 : True := by
  (k_with "WhlRest" => (((rename News _ _ _ [_, _, _, _, _, _, _, _, _, _, _, _, _, _, _, _, _, _, _, _] => zzNx); (replace zzNx := drop_6_3 zzNx); k_dflt (refine' whl_turn ?hEc1047 ?_; (case hEc1047 => first | passes_own | with_unfolding_all passes_own)); (try k_sweep))))
  trivial
theorem drop_6_4 {h₀ h : Heap} {L : Addr} {a0 a1 a2 a3 a4 a5 a6 a7 a8 a9 a10 a11 a12 a13 a14 a15 a16 a17 a18 : Addr × Obj} (N : News h₀ L h [a0, a1, a2, a3, a4, a5, a6, a7, a8, a9, a10, a11, a12, a13, a14, a15, a16, a17, a18]) : News h₀ L h [a0, a1, a2, a7, a8, a9, a10, a11, a12, a13, a14, a15, a16, a17, a18] :=
  List.forall_mem_cons.mpr ⟨N _ (.head _), List.forall_mem_cons.mpr ⟨N _ (.tail _ (.head _)), List.forall_mem_cons.mpr ⟨N _ (.tail _ (.tail _ (.head _))), List.forall_mem_cons.mpr ⟨N _ (.tail _ (.tail _ (.tail _ (.tail _ (.tail _ (.tail _ (.tail _ (.head _)))))))), List.forall_mem_cons.mpr ⟨N _ (.tail _ (.tail _ (.tail _ (.tail _ (.tail _ (.tail _ (.tail _ (.tail _ (.head _))))))))), List.forall_mem_cons.mpr ⟨N _ (.tail _ (.tail _ (.tail _ (.tail _ (.tail _ (.tail _ (.tail _ (.tail _ (.tail _ (.head _)))))))))), List.forall_mem_cons.mpr ⟨N _ (.tail _ (.tail _ (.tail _ (.tail _ (.tail _ (.tail _ (.tail _ (.tail _ (.tail _ (.tail _ (.head _))))))))))), List.forall_mem_cons.mpr ⟨N _ (.tail _ (.tail _ (.tail _ (.tail _ (.tail _ (.tail _ (.tail _ (.tail _ (.tail _ (.tail _ (.tail _ (.head _)))))))))))), List.forall_mem_cons.mpr ⟨N _ (.tail _ (.tail _ (.tail _ (.tail _ (.tail _ (.tail _ (.tail _ (.tail _ (.tail _ (.tail _ (.tail _ (.tail _ (.head _))))))))))))), List.forall_mem_cons.mpr ⟨N _ (.tail _ (.tail _ (.tail _ (.tail _ (.tail _ (.tail _ (.tail _ (.tail _ (.tail _ (.tail _ (.tail _ (.tail _ (.tail _ (.head _)))))))))))))), List.forall_mem_cons.mpr ⟨N _ (.tail _ (.tail _ (.tail _ (.tail _ (.tail _ (.tail _ (.tail _ (.tail _ (.tail _ (.tail _ (.tail _ (.tail _ (.tail _ (.tail _ (.head _))))))))))))))), List.forall_mem_cons.mpr ⟨N _ (.tail _ (.tail _ (.tail _ (.tail _ (.tail _ (.tail _ (.tail _ (.tail _ (.tail _ (.tail _ (.tail _ (.tail _ (.tail _ (.tail _ (.tail _ (.head _)))))))))))))))), List.forall_mem_cons.mpr ⟨N _ (.tail _ (.tail _ (.tail _ (.tail _ (.tail _ (.tail _ (.tail _ (.tail _ (.tail _ (.tail _ (.tail _ (.tail _ (.tail _ (.tail _ (.tail _ (.tail _ (.head _))))))))))))))))), List.forall_mem_cons.mpr ⟨N _ (.tail _ (.tail _ (.tail _ (.tail _ (.tail _ (.tail _ (.tail _ (.tail _ (.tail _ (.tail _ (.tail _ (.tail _ (.tail _ (.tail _ (.tail _ (.tail _ (.tail _ (.head _)))))))))))))))))), List.forall_mem_cons.mpr ⟨N _ (.tail _ (.tail _ (.tail _ (.tail _ (.tail _ (.tail _ (.tail _ (.tail _ (.tail _ (.tail _ (.tail _ (.tail _ (.tail _ (.tail _ (.tail _ (.tail _ (.tail _ (.tail _ (.head _))))))))))))))))))), List.forall_mem_nil _⟩⟩⟩⟩⟩⟩⟩⟩⟩⟩⟩⟩⟩⟩⟩
theorem lines_C10_17 : True := by
  (k_with "WhlRest" => (((rename News _ _ _ [_, _, _, _, _, _, _, _, _, _, _, _, _, _, _, _, _, _, _] => zzNx); (replace zzNx := drop_6_4 zzNx); k_dflt (refine' whl_turn ?hEc1048 ?_; (case hEc1048 => first | passes_own | with_unfolding_all passes_own)); (try k_sweep))))
  trivial
theorem drop_6_5 {h₀ h : Heap} {L : Addr} {a0 a1 a2 a3 a4 a5 a6 a7 a8 a9 a10 a11 a12 a13 a14 a15 a16 a17 : Addr × Obj} (N : News h₀ L h [a0, a1, a2, a3, a4, a5, a6, a7, a8, a9, a10, a11, a12, a13, a14, a15, a16, a17]) : News h₀ L h [a0, a1, a5, a6, a7, a8, a9, a10, a11, a12, a13, a14, a15, a16, a17] :=
  List.forall_mem_cons.mpr ⟨N _ (.head _), List.forall_mem_cons.mpr ⟨N _ (.tail _ (.head _)), List.forall_mem_cons.mpr ⟨N _ (.tail _ (.tail _ (.tail _ (.tail _ (.tail _ (.head _)))))), List.forall_mem_cons.mpr ⟨N _ (.tail _ (.tail _ (.tail _ (.tail _ (.tail _ (.tail _ (.head _))))))), List.forall_mem_cons.mpr ⟨N _ (.tail _ (.tail _ (.tail _ (.tail _ (.tail _ (.tail _ (.tail _ (.head _)))))))), List.forall_mem_cons.mpr ⟨N _ (.tail _ (.tail _ (.tail _ (.tail _ (.tail _ (.tail _ (.tail _ (.tail _ (.head _))))))))), List.forall_mem_cons.mpr ⟨N _ (.tail _ (.tail _ (.tail _ (.tail _ (.tail _ (.tail _ (.tail _ (.tail _ (.tail _ (.head _)))))))))), List.forall_mem_cons.mpr ⟨N _ (.tail _ (.tail _ (.tail _ (.tail _ (.tail _ (.tail _ (.tail _ (.tail _ (.tail _ (.tail _ (.head _))))))))))), List.forall_mem_cons.mpr ⟨N _ (.tail _ (.tail _ (.tail _ (.tail _ (.tail _ (.tail _ (.tail _ (.tail _ (.tail _ (.tail _ (.tail _ (.head _)))))))))))), List.forall_mem_cons.mpr ⟨N _ (.tail _ (.tail _ (.tail _ (.tail _ (.tail _ (.tail _ (.tail _ (.tail _ (.tail _ (.tail _ (.tail _ (.tail _ (.head _))))))))))))), List.forall_mem_cons.mpr ⟨N _ (.tail _ (.tail _ (.tail _ (.tail _ (.tail _ (.tail _ (.tail _ (.tail _ (.tail _ (.tail _ (.tail _ (.tail _ (.tail _ (.head _)))))))))))))), List.forall_mem_cons.mpr ⟨N _ (.tail _ (.tail _ (.tail _ (.tail _ (.tail _ (.tail _ (.tail _ (.tail _ (.tail _ (.tail _ (.tail _ (.tail _ (.tail _ (.tail _ (.head _))))))))))))))), List.forall_mem_cons.mpr ⟨N _ (.tail _ (.tail _ (.tail _ (.tail _ (.tail _ (.tail _ (.tail _ (.tail _ (.tail _ (.tail _ (.tail _ (.tail _ (.tail _ (.tail _ (.tail _ (.head _)))))))))))))))), List.forall_mem_cons.mpr ⟨N _ (.tail _ (.tail _ (.tail _ (.tail _ (.tail _ (.tail _ (.tail _ (.tail _ (.tail _ (.tail _ (.tail _ (.tail _ (.tail _ (.tail _ (.tail _ (.tail _ (.head _))))))))))))))))), List.forall_mem_cons.mpr ⟨N _ (.tail _ (.tail _ (.tail _ (.tail _ (.tail _ (.tail _ (.tail _ (.tail _ (.tail _ (.tail _ (.tail _ (.tail _ (.tail _ (.tail _ (.tail _ (.tail _ (.tail _ (.head _)))))))))))))))))), List.forall_mem_nil _⟩⟩⟩⟩⟩⟩⟩⟩⟩⟩⟩⟩⟩⟩⟩
theorem lines_C10_18 : True := by
  (k_with "WhlRest" => (((rename News _ _ _ [_, _, _, _, _, _, _, _, _, _, _, _, _, _, _, _, _, _] => zzNx); (replace zzNx := drop_6_5 zzNx); k_dflt (refine' whl_turn ?hEc1049 ?_; (case hEc1049 => first | passes_own | with_unfolding_all passes_own)); (try k_sweep))))
  trivial
theorem drop_6_6 {h₀ h : Heap} {L : Addr} {a0 a1 a2 a3 a4 a5 a6 a7 a8 a9 a10 a11 a12 a13 a14 a15 a16 : Addr × Obj} (N : News h₀ L h [a0, a1, a2, a3, a4, a5, a6, a7, a8, a9, a10, a11, a12, a13, a14, a15, a16]) : News h₀ L h [a0, a3, a4, a5, a6, a7, a8, a9, a10, a11, a12, a13, a14, a15, a16] :=
  List.forall_mem_cons.mpr ⟨N _ (.head _), List.forall_mem_cons.mpr ⟨N _ (.tail _ (.tail _ (.tail _ (.head _)))), List.forall_mem_cons.mpr ⟨N _ (.tail _ (.tail _ (.tail _ (.tail _ (.head _))))), List.forall_mem_cons.mpr ⟨N _ (.tail _ (.tail _ (.tail _ (.tail _ (.tail _ (.head _)))))), List.forall_mem_cons.mpr ⟨N _ (.tail _ (.tail _ (.tail _ (.tail _ (.tail _ (.tail _ (.head _))))))), List.forall_mem_cons.mpr ⟨N _ (.tail _ (.tail _ (.tail _ (.tail _ (.tail _ (.tail _ (.tail _ (.head _)))))))), List.forall_mem_cons.mpr ⟨N _ (.tail _ (.tail _ (.tail _ (.tail _ (.tail _ (.tail _ (.tail _ (.tail _ (.head _))))))))), List.forall_mem_cons.mpr ⟨N _ (.tail _ (.tail _ (.tail _ (.tail _ (.tail _ (.tail _ (.tail _ (.tail _ (.tail _ (.head _)))))))))), List.forall_mem_cons.mpr ⟨N _ (.tail _ (.tail _ (.tail _ (.tail _ (.tail _ (.tail _ (.tail _ (.tail _ (.tail _ (.tail _ (.head _))))))))))), List.forall_mem_cons.mpr ⟨N _ (.tail _ (.tail _ (.tail _ (.tail _ (.tail _ (.tail _ (.tail _ (.tail _ (.tail _ (.tail _ (.tail _ (.head _)))))))))))), List.forall_mem_cons.mpr ⟨N _ (.tail _ (.tail _ (.tail _ (.tail _ (.tail _ (.tail _ (.tail _ (.tail _ (.tail _ (.tail _ (.tail _ (.tail _ (.head _))))))))))))), List.forall_mem_cons.mpr ⟨N _ (.tail _ (.tail _ (.tail _ (.tail _ (.tail _ (.tail _ (.tail _ (.tail _ (.tail _ (.tail _ (.tail _ (.tail _ (.tail _ (.head _)))))))))))))), List.forall_mem_cons.mpr ⟨N _ (.tail _ (.tail _ (.tail _ (.tail _ (.tail _ (.tail _ (.tail _ (.tail _ (.tail _ (.tail _ (.tail _ (.tail _ (.tail _ (.tail _ (.head _))))))))))))))), List.forall_mem_cons.mpr ⟨N _ (.tail _ (.tail _ (.tail _ (.tail _ (.tail _ (.tail _ (.tail _ (.tail _ (.tail _ (.tail _ (.tail _ (.tail _ (.tail _ (.tail _ (.tail _ (.head _)))))))))))))))), List.forall_mem_cons.mpr ⟨N _ (.tail _ (.tail _ (.tail _ (.tail _ (.tail _ (.tail _ (.tail _ (.tail _ (.tail _ (.tail _ (.tail _ (.tail _ (.tail _ (.tail _ (.tail _ (.tail _ (.head _))))))))))))))))), List.forall_mem_nil _⟩⟩⟩⟩⟩⟩⟩⟩⟩⟩⟩⟩⟩⟩⟩

theorem lines_C10_19 : True := by
  (k_with "WhlRest" => (((rename News _ _ _ [_, _, _, _, _, _, _, _, _, _, _, _, _, _, _, _, _] => zzNx); (replace zzNx := drop_6_6 zzNx); k_dflt (refine' whl_turn ?hEc1050 ?_; (case hEc1050 => first | passes_own | with_unfolding_all passes_own)); (try k_sweep))))
  trivial
theorem diff6_spec {prog : Program} {w : World} {mean : ExcName → Option Value} {mg mb : Str → Option Value} (R e0 e1 e2 e3 e4 e5 : Addr) (V0 V1 V2 V3 V4 V5 : Int) (t0 u0 t1 u1 t2 u2 t3 u3 t4 u4 t5 u5 : Tok) (c0 c1 c2 c3 c4 c5 c : Nat) (b0 : V0.natAbs < 4000000) (b1 : V1.natAbs < 4000000) (b2 : V2.natAbs < 4000000) (b3 : V3.natAbs < 4000000) (b4 : V4.natAbs < 4000000) (b5 : V5.natAbs < 4000000) :
    Sp prog w mean mg mb 239 12 [.ref R] [(R, W.listOf #[.ref e0, .ref e1, .ref e2, .ref e3, .ref e4, .ref e5] c), (e0, tupO (nf (-4) V0).1 (nf (-4) V0).2 t0 u0 c0), (e1, tupO (nf (-4) V1).1 (nf (-4) V1).2 t1 u1 c1), (e2, tupO (nf (-4) V2).1 (nf (-4) V2).2 t2 u2 c2), (e3, tupO (nf (-4) V3).1 (nf (-4) V3).2 t3 u3 c3), (e4, tupO (nf (-4) V4).1 (nf (-4) V4).2 t4 u4 c4), (e5, tupO (nf (-4) V5).1 (nf (-4) V5).2 t5 u5 c5)] (RD6 (nf (-4) (V1 - V0)).1 (nf (-4) (V1 - V0)).2 (nf (-4) ((V2 - V1) - (V1 - V0))).1 (nf (-4) ((V2 - V1) - (V1 - V0))).2 (nf (-4) (((V3 - V2) - (V2 - V1)) - ((V2 - V1) - (V1 - V0)))).1 (nf (-4) (((V3 - V2) - (V2 - V1)) - ((V2 - V1) - (V1 - V0)))).2 (nf (-4) ((((V4 - V3) - (V3 - V2)) - ((V3 - V2) - (V2 - V1))) - (((V3 - V2) - (V2 - V1)) - ((V2 - V1) - (V1 - V0))))).1 (nf (-4) ((((V4 - V3) - (V3 - V2)) - ((V3 - V2) - (V2 - V1))) - (((V3 - V2) - (V2 - V1)) - ((V2 - V1) - (V1 - V0))))).2 (nf (-4) (((((V5 - V4) - (V4 - V3)) - ((V4 - V3) - (V3 - V2))) - (((V4 - V3) - (V3 - V2)) - ((V3 - V2) - (V2 - V1)))) - ((((V4 - V3) - (V3 - V2)) - ((V3 - V2) - (V2 - V1))) - (((V3 - V2) - (V2 - V1)) - ((V2 - V1) - (V1 - V0)))))).1 (nf (-4) (((((V5 - V4) - (V4 - V3)) - ((V4 - V3) - (V3 - V2))) - (((V4 - V3) - (V3 - V2)) - ((V3 - V2) - (V2 - V1)))) - ((((V4 - V3) - (V3 - V2)) - ((V3 - V2) - (V2 - V1))) - (((V3 - V2) - (V2 - V1)) - ((V2 - V1) - (V1 - V0)))))).2 e0) := by
  have y0_0 : V0.natAbs < 4000000 := b0
  have y0_1 : V1.natAbs < 4000000 := b1
  have y0_2 : V2.natAbs < 4000000 := b2
  have y0_3 : V3.natAbs < 4000000 := b3
  have y0_4 : V4.natAbs < 4000000 := b4
  have y0_5 : V5.natAbs < 4000000 := b5
  have y1_0 : ((V1 - V0)).natAbs < 8000000 := nb_sub y0_1 y0_0 (by decide)
  have y1_1 : ((V2 - V1)).natAbs < 8000000 := nb_sub y0_2 y0_1 (by decide)
  have y1_2 : ((V3 - V2)).natAbs < 8000000 := nb_sub y0_3 y0_2 (by decide)
  have y1_3 : ((V4 - V3)).natAbs < 8000000 := nb_sub y0_4 y0_3 (by decide)
  have y1_4 : ((V5 - V4)).natAbs < 8000000 := nb_sub y0_5 y0_4 (by decide)
  have y2_0 : (((V2 - V1) - (V1 - V0))).natAbs < 16000000 := nb_sub y1_1 y1_0 (by decide)
  have y2_1 : (((V3 - V2) - (V2 - V1))).natAbs < 16000000 := nb_sub y1_2 y1_1 (by decide)
  have y2_2 : (((V4 - V3) - (V3 - V2))).natAbs < 16000000 := nb_sub y1_3 y1_2 (by decide)
  have y2_3 : (((V5 - V4) - (V4 - V3))).natAbs < 16000000 := nb_sub y1_4 y1_3 (by decide)
  have y3_0 : ((((V3 - V2) - (V2 - V1)) - ((V2 - V1) - (V1 - V0)))).natAbs < 32000000 := nb_sub y2_1 y2_0 (by decide)
  have y3_1 : ((((V4 - V3) - (V3 - V2)) - ((V3 - V2) - (V2 - V1)))).natAbs < 32000000 := nb_sub y2_2 y2_1 (by decide)
  have y3_2 : ((((V5 - V4) - (V4 - V3)) - ((V4 - V3) - (V3 - V2)))).natAbs < 32000000 := nb_sub y2_3 y2_2 (by decide)
  have y4_0 : (((((V4 - V3) - (V3 - V2)) - ((V3 - V2) - (V2 - V1))) - (((V3 - V2) - (V2 - V1)) - ((V2 - V1) - (V1 - V0))))).natAbs < 64000000 := nb_sub y3_1 y3_0 (by decide)
  have y4_1 : (((((V5 - V4) - (V4 - V3)) - ((V4 - V3) - (V3 - V2))) - (((V4 - V3) - (V3 - V2)) - ((V3 - V2) - (V2 - V1))))).natAbs < 64000000 := nb_sub y3_2 y3_1 (by decide)
  have y5_0 : ((((((V5 - V4) - (V4 - V3)) - ((V4 - V3) - (V3 - V2))) - (((V4 - V3) - (V3 - V2)) - ((V3 - V2) - (V2 - V1)))) - ((((V4 - V3) - (V3 - V2)) - ((V3 - V2) - (V2 - V1))) - (((V3 - V2) - (V2 - V1)) - ((V2 - V1) - (V1 - V0)))))).natAbs < 128000000 := nb_sub y4_1 y4_0 (by decide)
  have w0_0 : (V0).natAbs < 1000000000 := Nat.lt_trans y0_0 (by decide)
  have w0_1 : (V1).natAbs < 1000000000 := Nat.lt_trans y0_1 (by decide)
  have w0_2 : (V2).natAbs < 1000000000 := Nat.lt_trans y0_2 (by decide)
  have w0_3 : (V3).natAbs < 1000000000 := Nat.lt_trans y0_3 (by decide)
  have w0_4 : (V4).natAbs < 1000000000 := Nat.lt_trans y0_4 (by decide)
  have w0_5 : (V5).natAbs < 1000000000 := Nat.lt_trans y0_5 (by decide)
  have w1_0 : ((V1 - V0)).natAbs < 1000000000 := Nat.lt_trans y1_0 (by decide)
  have w1_1 : ((V2 - V1)).natAbs < 1000000000 := Nat.lt_trans y1_1 (by decide)
  have w1_2 : ((V3 - V2)).natAbs < 1000000000 := Nat.lt_trans y1_2 (by decide)
  have w1_3 : ((V4 - V3)).natAbs < 1000000000 := Nat.lt_trans y1_3 (by decide)
  have w1_4 : ((V5 - V4)).natAbs < 1000000000 := Nat.lt_trans y1_4 (by decide)
  have w2_0 : (((V2 - V1) - (V1 - V0))).natAbs < 1000000000 := Nat.lt_trans y2_0 (by decide)
  have w2_1 : (((V3 - V2) - (V2 - V1))).natAbs < 1000000000 := Nat.lt_trans y2_1 (by decide)
  have w2_2 : (((V4 - V3) - (V3 - V2))).natAbs < 1000000000 := Nat.lt_trans y2_2 (by decide)
  have w2_3 : (((V5 - V4) - (V4 - V3))).natAbs < 1000000000 := Nat.lt_trans y2_3 (by decide)
  have w3_0 : ((((V3 - V2) - (V2 - V1)) - ((V2 - V1) - (V1 - V0)))).natAbs < 1000000000 := Nat.lt_trans y3_0 (by decide)
  have w3_1 : ((((V4 - V3) - (V3 - V2)) - ((V3 - V2) - (V2 - V1)))).natAbs < 1000000000 := Nat.lt_trans y3_1 (by decide)
  have w3_2 : ((((V5 - V4) - (V4 - V3)) - ((V4 - V3) - (V3 - V2)))).natAbs < 1000000000 := Nat.lt_trans y3_2 (by decide)
  have w4_0 : (((((V4 - V3) - (V3 - V2)) - ((V3 - V2) - (V2 - V1))) - (((V3 - V2) - (V2 - V1)) - ((V2 - V1) - (V1 - V0))))).natAbs < 1000000000 := Nat.lt_trans y4_0 (by decide)
  have w4_1 : (((((V5 - V4) - (V4 - V3)) - ((V4 - V3) - (V3 - V2))) - (((V4 - V3) - (V3 - V2)) - ((V3 - V2) - (V2 - V1))))).natAbs < 1000000000 := Nat.lt_trans y4_1 (by decide)
  have w5_0 : ((((((V5 - V4) - (V4 - V3)) - ((V4 - V3) - (V3 - V2))) - (((V4 - V3) - (V3 - V2)) - ((V3 - V2) - (V2 - V1)))) - ((((V4 - V3) - (V3 - V2)) - ((V3 - V2) - (V2 - V1))) - (((V3 - V2) - (V2 - V1)) - ((V2 - V1) - (V1 - V0)))))).natAbs < 1000000000 := Nat.lt_trans y5_0 (by decide)
  clear y5_0 y4_0 y4_1 y3_0 y3_1 y3_2 y2_0 y2_1 y2_2 y2_3 y1_0 y1_1 y1_2 y1_3 y1_4 y0_0 y0_1 y0_2 y0_3 y0_4 y0_5 b0 b1 b2 b3 b4 b5
  unfold Sp
  intro dp un gd cn cs a ccd cl outer A₀ base h₀ L m news s Q E B F X N T hk hR hd hu hret
  (have dummy : (PySem.Challenge.rw_tk0005_01.Holds → Frag.In (Mine.hd.heap_39 w.params) h₀ → True) := by (k_fill; intros; trivial))
  clear dummy
  k_dflt (refine' enter_cc [Str.ofString "values"] _ hR ?k1 ?k2 ?k3 ?k4 ?k5 ?kA ?kF ?kK ?k6 ?k7 ?k8 ?k9 ?kB ?kD ?c2 ?c3 ?c4 ?_; (case kA => exact rfl); (case kF => exact rfl); (case kK => first | exact rfl | assumption); (case k1 => k_asm); (case k2 => k_asm); (case k3 => k_asm); (case k4 => exact N); (case k5 => k_asm); (case k6 => k_is); (case k7 => k_is); (case k8 => ktr_room); (case k9 => exact BindsTo.of_eq rfl); (case kB => exact rfl); (case kD => decide +kernel); (case c2 => exact rfl); (case c3 => exact rfl); (case c4 => exact rfl); k_whole; intro g' L' h' tk' cells' FG' F' N' Y' B' X' T' l1 G'; k_cells Y'; (try simp only [List.cons_append, List.nil_append] at N'); (try dsimp only [List.zip, List.zipWith, List.length, Nat.zero_add] at *); (try k_fold))
  w_top off
  k_steps
  all_goals (refine hret _ _ _ ?_; k_extra "mine rd6")
end
end Mine
end
section
-- part C11
open PySem PySem.W PySem.Calls PyProof.Rows
namespace Mine
noncomputable section

theorem is_zero {k : Int} (hk0 : k ≤ 0) (hk1 : -40 ≤ k) : Is k 0 0 0 := ⟨(-k).toNat, by omega, by simp, by omega⟩
theorem add2_spec {prog : Program} {w : World} {mean : ExcName → Option Value} {mg mb : Str → Option Value} (k A B W : Int) (p q : Addr) (x y x' y' : Int) (t1 t2 u1 u2 t3 : Tok) (c c' : Nat) (hw : A + B = W) (hA : Is k A x y) (hB : Is k B x' y') (hn : W.natAbs < 1000000000) (hx : x.natAbs < 1000000000) (hx' : x'.natAbs < 1000000000) (hk0 : k ≤ 0) (hk1 : -40 ≤ k) :
    Sp prog w mean mg mb 108 3 [.ref p, .ref q, .int 9 t3] [(p, tupO x y t1 t2 c), (q, tupO x' y' u1 u2 c')] (RT (nf k W).1 (nf k W).2) := by
  subst hw; exact add_spec k A B p q x y x' y' t1 t2 u1 u2 t3 c c' hA hB hn hx hx' hk0 hk1

theorem rka2_spec {prog : Program} {w : World} {mean : ExcName → Option Value} {mg mb : Str → Option Value} (k A B W : Int) (p q : Addr) (x y x' y' : Int) (t0 t1 t2 u1 u2 t3 t4 : Tok) (c c' : Nat) (hw : A + B = W) (hA : Is k A x y) (hB : Is k B x' y') (hn : W.natAbs < 1000000000) (hnA : A.natAbs < 1000000000) (hnB : B.natAbs < 1000000000) (hk0 : k ≤ 0) (hk1 : -40 ≤ k) :
    Sp prog w mean mg mb 213 5 [.str (Str.ofString "+") t0, .ref p, .ref q, .int 16 t3, .int 9 t4] [(p, tupO x y t1 t2 c), (q, tupO x' y' u1 u2 c')] (RT (nf k W).1 (nf k W).2) := by
  subst hw; exact rka_spec k A B p q x y x' y' t0 t1 t2 u1 u2 t3 t4 c c' hA hB hn hnA hnB hk0 hk1
theorem rkm2_spec {prog : Program} {w : World} {mean : ExcName → Option Value} {mg mb : Str → Option Value} (k A B W : Int) (p : Addr) (x y : Int) (t0 t1 t2 u1 t3 t4 : Tok) (c : Nat) (hw : A * B = W) (hA : Is k A x y) (hn : W.natAbs < 1000000000) (hnA : A.natAbs < 1000000000) (hnB : B.natAbs < 1000000000) (hk0 : k ≤ 0) (hk1 : -40 ≤ k) :
    Sp prog w mean mg mb 213 5 [.str (Str.ofString "*") t0, .ref p, .int B u1, .int 16 t3, .int 9 t4] [(p, tupO x y t1 t2 c)] (RT (nf k W).1 (nf k W).2) := by
  subst hw; exact rkm_spec k A B p x y t0 t1 t2 u1 t3 t4 c hA hn hnA hnB hk0 hk1
theorem worth2_spec {prog : Program} {w : World} {mean : ExcName → Option Value} {mg mb : Str → Option Value} (R r0 r1 r2 r3 Z : Addr) (a0 a1 a2 a3 b W : Int) (t0 u0 t1 u1 t2 u2 t3 u3 t4 u4 : Tok) (c0 c1 c2 c3 c4 c : Nat) (hw : wv a0 a1 a2 a3 b = W) (h0 : a0.natAbs ≤ 9) (h1 : a1.natAbs ≤ 9) (h2 : a2.natAbs ≤ 9) (h3 : a3.natAbs ≤ 9) (hb : b.natAbs ≤ 60) :
    Sp prog w mean mg mb 227 4 [.ref R, .ref Z] [(R, PySem.W.listOf #[.ref r0, .ref r1, .ref r2, .ref r3] c), (r0, tupO (nf (-1) a0).1 (nf (-1) a0).2 t0 u0 c0), (r1, tupO (nf (-1) a1).1 (nf (-1) a1).2 t1 u1 c1), (r2, tupO (nf (-1) a2).1 (nf (-1) a2).2 t2 u2 c2), (r3, tupO (nf (-1) a3).1 (nf (-1) a3).2 t3 u3 c3), (Z, tupO (nf (-1) b).1 (nf (-1) b).2 t4 u4 c4)] (RN (nf (-4) W).1 (nf (-4) W).2) := by
  subst hw; exact worth_spec R r0 r1 r2 r3 Z a0 a1 a2 a3 b t0 u0 t1 u1 t2 u2 t3 u3 t4 u4 c0 c1 c2 c3 c4 c h0 h1 h2 h3 hb

theorem back2_spec {prog : Program} {w : World} {mean : ExcName → Option Value} {mg mb : Str → Option Value} (R e0 e1 e2 e3 : Addr) (V0 V1 V2 V3 W0 W1 W2 : Int) (t0 u0 t1 u1 t2 u2 t3 u3 : Tok) (c0 c1 c2 c3 c : Nat) (w0 : V0 - (V1 - (V2 - V3)) = W0) (w1 : V1 - (V2 - V3) = W1) (w2 : V2 - V3 = W2) (b0 : V0.natAbs < 90000000) (b1 : V1.natAbs < 90000000) (b2 : V2.natAbs < 90000000) (b3 : V3.natAbs < 90000000) :
    Sp prog w mean mg mb 251 8 [.ref R] [(R, PySem.W.listOf #[.ref e0, .ref e1, .ref e2, .ref e3] c), (e0, tupO (nf (-4) V0).1 (nf (-4) V0).2 t0 u0 c0), (e1, tupO (nf (-4) V1).1 (nf (-4) V1).2 t1 u1 c1), (e2, tupO (nf (-4) V2).1 (nf (-4) V2).2 t2 u2 c2), (e3, tupO (nf (-4) V3).1 (nf (-4) V3).2 t3 u3 c3)] (RL (nf (-4) W0).1 (nf (-4) W0).2 (nf (-4) W1).1 (nf (-4) W1).2 (nf (-4) W2).1 (nf (-4) W2).2 e3) := by
  subst w0 w1 w2; exact back_spec R e0 e1 e2 e3 V0 V1 V2 V3 t0 u0 t1 u1 t2 u2 t3 u3 c0 c1 c2 c3 c b0 b1 b2 b3

theorem on2_spec {prog : Program} {w : World} {mean : ExcName → Option Value} {mg mb : Str → Option Value} (R e0 e1 e2 e3 : Addr) (V0 V1 V2 V3 W0 W1 W2 : Int) (t0 u0 t1 u1 t2 u2 t3 u3 : Tok) (c0 c1 c2 c3 c : Nat) (w0 : V0 + V1 = W0) (w1 : V1 + V2 = W1) (w2 : V2 + V3 = W2) (b0 : V0.natAbs < 90000000) (b1 : V1.natAbs < 90000000) (b2 : V2.natAbs < 90000000) (b3 : V3.natAbs < 90000000) :
    Sp prog w mean mg mb 244 8 [.ref R] [(R, PySem.W.listOf #[.ref e0, .ref e1, .ref e2, .ref e3] c), (e0, tupO (nf (-4) V0).1 (nf (-4) V0).2 t0 u0 c0), (e1, tupO (nf (-4) V1).1 (nf (-4) V1).2 t1 u1 c1), (e2, tupO (nf (-4) V2).1 (nf (-4) V2).2 t2 u2 c2), (e3, tupO (nf (-4) V3).1 (nf (-4) V3).2 t3 u3 c3)] (RL (nf (-4) W0).1 (nf (-4) W0).2 (nf (-4) W1).1 (nf (-4) W1).2 (nf (-4) W2).1 (nf (-4) W2).2 e3) := by
  subst w0 w1 w2; exact on_spec R e0 e1 e2 e3 V0 V1 V2 V3 t0 u0 t1 u1 t2 u2 t3 u3 c0 c1 c2 c3 c b0 b1 b2 b3

theorem diff42_spec {prog : Program} {w : World} {mean : ExcName → Option Value} {mg mb : Str → Option Value} (R e0 e1 e2 e3 : Addr) (V0 V1 V2 V3 : Int) (t0 u0 t1 u1 t2 u2 t3 u3 : Tok) (c0 c1 c2 c3 c : Nat) (W1 W2 W3 : Int) (w1 : (V1 - V0) = W1) (w2 : ((V2 - V1) - (V1 - V0)) = W2) (w3 : (((V3 - V2) - (V2 - V1)) - ((V2 - V1) - (V1 - V0))) = W3) (b0 : V0.natAbs < 4000000) (b1 : V1.natAbs < 4000000) (b2 : V2.natAbs < 4000000) (b3 : V3.natAbs < 4000000) :
    Sp prog w mean mg mb 239 12 [.ref R] [(R, PySem.W.listOf #[.ref e0, .ref e1, .ref e2, .ref e3] c), (e0, tupO (nf (-4) V0).1 (nf (-4) V0).2 t0 u0 c0), (e1, tupO (nf (-4) V1).1 (nf (-4) V1).2 t1 u1 c1), (e2, tupO (nf (-4) V2).1 (nf (-4) V2).2 t2 u2 c2), (e3, tupO (nf (-4) V3).1 (nf (-4) V3).2 t3 u3 c3)] (RD4 (nf (-4) W1).1 (nf (-4) W1).2 (nf (-4) W2).1 (nf (-4) W2).2 (nf (-4) W3).1 (nf (-4) W3).2 e0) := by
  subst w1 w2 w3; exact diff4_spec R e0 e1 e2 e3 V0 V1 V2 V3 t0 u0 t1 u1 t2 u2 t3 u3 c0 c1 c2 c3 c b0 b1 b2 b3

theorem diff62_spec {prog : Program} {w : World} {mean : ExcName → Option Value} {mg mb : Str → Option Value} (R e0 e1 e2 e3 e4 e5 : Addr) (V0 V1 V2 V3 V4 V5 : Int) (t0 u0 t1 u1 t2 u2 t3 u3 t4 u4 t5 u5 : Tok) (c0 c1 c2 c3 c4 c5 c : Nat) (W1 W2 W3 W4 W5 : Int) (w1 : (V1 - V0) = W1) (w2 : ((V2 - V1) - (V1 - V0)) = W2) (w3 : (((V3 - V2) - (V2 - V1)) - ((V2 - V1) - (V1 - V0))) = W3) (w4 : ((((V4 - V3) - (V3 - V2)) - ((V3 - V2) - (V2 - V1))) - (((V3 - V2) - (V2 - V1)) - ((V2 - V1) - (V1 - V0)))) = W4) (w5 : (((((V5 - V4) - (V4 - V3)) - ((V4 - V3) - (V3 - V2))) - (((V4 - V3) - (V3 - V2)) - ((V3 - V2) - (V2 - V1)))) - ((((V4 - V3) - (V3 - V2)) - ((V3 - V2) - (V2 - V1))) - (((V3 - V2) - (V2 - V1)) - ((V2 - V1) - (V1 - V0))))) = W5) (b0 : V0.natAbs < 4000000) (b1 : V1.natAbs < 4000000) (b2 : V2.natAbs < 4000000) (b3 : V3.natAbs < 4000000) (b4 : V4.natAbs < 4000000) (b5 : V5.natAbs < 4000000) :
    Sp prog w mean mg mb 239 12 [.ref R] [(R, PySem.W.listOf #[.ref e0, .ref e1, .ref e2, .ref e3, .ref e4, .ref e5] c), (e0, tupO (nf (-4) V0).1 (nf (-4) V0).2 t0 u0 c0), (e1, tupO (nf (-4) V1).1 (nf (-4) V1).2 t1 u1 c1), (e2, tupO (nf (-4) V2).1 (nf (-4) V2).2 t2 u2 c2), (e3, tupO (nf (-4) V3).1 (nf (-4) V3).2 t3 u3 c3), (e4, tupO (nf (-4) V4).1 (nf (-4) V4).2 t4 u4 c4), (e5, tupO (nf (-4) V5).1 (nf (-4) V5).2 t5 u5 c5)] (RD6 (nf (-4) W1).1 (nf (-4) W1).2 (nf (-4) W2).1 (nf (-4) W2).2 (nf (-4) W3).1 (nf (-4) W3).2 (nf (-4) W4).1 (nf (-4) W4).2 (nf (-4) W5).1 (nf (-4) W5).2 e0) := by
  subst w1 w2 w3 w4 w5; exact diff6_spec R e0 e1 e2 e3 e4 e5 V0 V1 V2 V3 V4 V5 t0 u0 t1 u1 t2 u2 t3 u3 t4 u4 t5 u5 c0 c1 c2 c3 c4 c5 c b0 b1 b2 b3 b4 b5
end
end Mine
end
section
-- part C12
open PySem PySem.W PySem.Calls PyProof.Rows
namespace Mine
noncomputable section

theorem wv_bd1 {a0 a1 a2 a3 b : Int} (h0 : a0.natAbs ≤ 9) (h1 : a1.natAbs ≤ 9) (h2 : a2.natAbs ≤ 9) (h3 : a3.natAbs ≤ 9) (hb : b.natAbs ≤ 60) : (wv a0 a1 a2 a3 b).natAbs < 4000000 := by
  obtain ⟨_, _, _, _, _, q⟩ := wv_bd h0 h1 h2 h3 hb
  unfold wv; omega
theorem c3_bd {a3 s : Int} (h3 : a3.natAbs ≤ 9) (hs0 : 1 ≤ s) (hs1 : s ≤ 5) : (6 * a3 * s * s * s).natAbs < 7000 := by
  have hs : s.natAbs ≤ 5 := by omega
  have q1 : (6 * a3).natAbs ≤ 54 := by omega
  have q2 : (6 * a3 * s).natAbs ≤ 270 := mul_bd q1 hs (by decide)
  have q3 : (6 * a3 * s * s).natAbs ≤ 1350 := mul_bd q2 hs (by decide)
  have q4 : (6 * a3 * s * s * s).natAbs ≤ 6750 := mul_bd q3 hs (by decide)
  omega
/-- third differences of the polynomial are one number -/
theorem wv_cubic (a0 a1 a2 a3 x s : Int) : wv a0 a1 a2 a3 (x + 3 * s) = 3 * wv a0 a1 a2 a3 (x + 2 * s) - 3 * wv a0 a1 a2 a3 (x + s) + wv a0 a1 a2 a3 x + 6 * a3 * s * s * s := by
  unfold wv; grind
theorem wv_due (a0 a1 a2 a3 X : Int) : 1000 * a0 + 100 * a1 * X + 10 * a2 * X * X + a3 * X * X * X = wv a0 a1 a2 a3 X := by
  unfold wv; grind
structure Letters (a0 a1 a2 a3 b s : Int) (v f1 f2 d : Int → Int) (c3 : Int) : Prop where
  wv0 : wv a0 a1 a2 a3 (b) = v 0
  wv1 : wv a0 a1 a2 a3 (b + s) = v 1
  wv2 : wv a0 a1 a2 a3 (b + s + s) = v 2
  wv3 : wv a0 a1 a2 a3 (b + s + s + s) = v 3
  wv4 : wv a0 a1 a2 a3 (b + s + s + s + s) = v 4
  wv5 : wv a0 a1 a2 a3 (b + s + s + s + s + s) = v 5
  du0 : ∀ X : Int, X = b + (-2) * s → 1000 * a0 + 100 * a1 * X + 10 * a2 * X * X + a3 * X * X * X = v (-2)
  du1 : ∀ X : Int, X = b + (-1) * s → 1000 * a0 + 100 * a1 * X + 10 * a2 * X * X + a3 * X * X * X = v (-1)
  du2 : ∀ X : Int, X = b + 0 * s → 1000 * a0 + 100 * a1 * X + 10 * a2 * X * X + a3 * X * X * X = v 0
  du3 : ∀ X : Int, X = b + 1 * s → 1000 * a0 + 100 * a1 * X + 10 * a2 * X * X + a3 * X * X * X = v 1
  du4 : ∀ X : Int, X = b + 2 * s → 1000 * a0 + 100 * a1 * X + 10 * a2 * X * X + a3 * X * X * X = v 2
  du5 : ∀ X : Int, X = b + 3 * s → 1000 * a0 + 100 * a1 * X + 10 * a2 * X * X + a3 * X * X * X = v 3
  du6 : ∀ X : Int, X = b + 4 * s → 1000 * a0 + 100 * a1 * X + 10 * a2 * X * X + a3 * X * X * X = v 4
  du7 : ∀ X : Int, X = b + 5 * s → 1000 * a0 + 100 * a1 * X + 10 * a2 * X * X + a3 * X * X * X = v 5
  du3c : 1000 * 0 + 100 * 0 * s + 10 * 0 * s * s + 6 * a3 * s * s * s = c3
  on0_0 : v 0 + f1 0 = v 1
  on1_0 : f1 0 + f2 0 = f1 1
  on2_0 : f2 0 + c3 = f2 1
  on0_1 : v 1 + f1 1 = v 2
  on1_1 : f1 1 + f2 1 = f1 2
  on2_1 : f2 1 + c3 = f2 2
  on0_2 : v 2 + f1 2 = v 3
  on1_2 : f1 2 + f2 2 = f1 3
  on2_2 : f2 2 + c3 = f2 3
  on0_3 : v 3 + f1 3 = v 4
  on1_3 : f1 3 + f2 3 = f1 4
  on2_3 : f2 3 + c3 = f2 4
  on0_4 : v 4 + f1 4 = v 5
  on1_4 : f1 4 + f2 4 = f1 5
  on2_4 : f2 4 + c3 = f2 5
  bk2_5 : f2 5 - c3 = f2 4
  bk1_5 : f1 5 - (f2 5 - c3) = f1 4
  bk0_5 : v 5 - (f1 5 - (f2 5 - c3)) = v 4
  bk2_4 : f2 4 - c3 = f2 3
  bk1_4 : f1 4 - (f2 4 - c3) = f1 3
  bk0_4 : v 4 - (f1 4 - (f2 4 - c3)) = v 3
  bk2_3 : f2 3 - c3 = f2 2
  bk1_3 : f1 3 - (f2 3 - c3) = f1 2
  bk0_3 : v 3 - (f1 3 - (f2 3 - c3)) = v 2
  bk2_2 : f2 2 - c3 = f2 1
  bk1_2 : f1 2 - (f2 2 - c3) = f1 1
  bk0_2 : v 2 - (f1 2 - (f2 2 - c3)) = v 1
  bk2_1 : f2 1 - c3 = f2 0
  bk1_1 : f1 1 - (f2 1 - c3) = f1 0
  bk0_1 : v 1 - (f1 1 - (f2 1 - c3)) = v 0
  bk2_0 : f2 0 - c3 = f2 (-1)
  bk1_0 : f1 0 - (f2 0 - c3) = f1 (-1)
  bk0_0 : v 0 - (f1 0 - (f2 0 - c3)) = v (-1)
  bk2_m1 : f2 (-1) - c3 = f2 (-2)
  bk1_m1 : f1 (-1) - (f2 (-1) - c3) = f1 (-2)
  bk0_m1 : v (-1) - (f1 (-1) - (f2 (-1) - c3)) = v (-2)
  di1 : (v 1 - v 0) = f1 0
  di2 : ((v 2 - v 1) - (v 1 - v 0)) = f2 0
  di3 : (((v 3 - v 2) - (v 2 - v 1)) - ((v 2 - v 1) - (v 1 - v 0))) = c3
  di4 : ((((v 4 - v 3) - (v 3 - v 2)) - ((v 3 - v 2) - (v 2 - v 1))) - (((v 3 - v 2) - (v 2 - v 1)) - ((v 2 - v 1) - (v 1 - v 0)))) = 0
  di5 : (((((v 5 - v 4) - (v 4 - v 3)) - ((v 4 - v 3) - (v 3 - v 2))) - (((v 4 - v 3) - (v 3 - v 2)) - ((v 3 - v 2) - (v 2 - v 1)))) - ((((v 4 - v 3) - (v 3 - v 2)) - ((v 3 - v 2) - (v 2 - v 1))) - (((v 3 - v 2) - (v 2 - v 1)) - ((v 2 - v 1) - (v 1 - v 0))))) = 0
  to0 : 0 + f1 0 = d 1
  to1 : d 1 + f1 1 = d 2
  to2 : d 2 + f1 2 = d 3
  to3 : d 3 + f1 3 = d 4
  to4 : d 4 + f1 4 = d 5
  tv1 : v 0 + d 1 = v 1
  tv2 : v 0 + d 2 = v 2
  tv3 : v 0 + d 3 = v 3
  tv4 : v 0 + d 4 = v 4
  tv5 : v 0 + d 5 = v 5
  nw1 : 0 + v 0 * 1 + f1 0 * 1 + f2 0 * 0 + c3 * 0 = v 1
  nw2 : 0 + v 0 * 1 + f1 0 * 2 + f2 0 * 1 + c3 * 0 = v 2
  nw3 : 0 + v 0 * 1 + f1 0 * 3 + f2 0 * 3 + c3 * 1 = v 3
  nw4 : 0 + v 0 * 1 + f1 0 * 4 + f2 0 * 6 + c3 * 4 = v 4
  nw5 : 0 + v 0 * 1 + f1 0 * 5 + f2 0 * 10 + c3 * 10 = v 5
  bv0 : (v (-2)).natAbs < 4000000
  bv1 : (v (-1)).natAbs < 4000000
  bv2 : (v 0).natAbs < 4000000
  bv3 : (v 1).natAbs < 4000000
  bv4 : (v 2).natAbs < 4000000
  bv5 : (v 3).natAbs < 4000000
  bv6 : (v 4).natAbs < 4000000
  bv7 : (v 5).natAbs < 4000000
  b10 : (f1 (-2)).natAbs < 8000000
  b20 : (f2 (-2)).natAbs < 16000000
  b11 : (f1 (-1)).natAbs < 8000000
  b21 : (f2 (-1)).natAbs < 16000000
  b12 : (f1 0).natAbs < 8000000
  b22 : (f2 0).natAbs < 16000000
  b13 : (f1 1).natAbs < 8000000
  b23 : (f2 1).natAbs < 16000000
  b14 : (f1 2).natAbs < 8000000
  b24 : (f2 2).natAbs < 16000000
  b15 : (f1 3).natAbs < 8000000
  b25 : (f2 3).natAbs < 16000000
  b16 : (f1 4).natAbs < 8000000
  b26 : (f2 4).natAbs < 16000000
  b17 : (f1 5).natAbs < 8000000
  b27 : (f2 5).natAbs < 16000000
  b3 : c3.natAbs < 7000
  bd1 : (d 1).natAbs < 8000000
  bd2 : (d 2).natAbs < 8000000
  bd3 : (d 3).natAbs < 8000000
  bd4 : (d 4).natAbs < 8000000
  bd5 : (d 5).natAbs < 8000000
theorem law_letters {a0 a1 a2 a3 b s : Int} (h0 : a0.natAbs ≤ 9) (h1 : a1.natAbs ≤ 9) (h2 : a2.natAbs ≤ 9) (h3 : a3.natAbs ≤ 9) (hb : b.natAbs ≤ 9) (hs0 : 1 ≤ s) (hs1 : s ≤ 5) : ∃ (v f1 f2 d : Int → Int) (c3 : Int), Letters a0 a1 a2 a3 b s v f1 f2 d c3 := by
  obtain ⟨v, hv⟩ : ∃ v : Int → Int, ∀ j, v j = wv a0 a1 a2 a3 (b + j * s) := ⟨_, fun _ => rfl⟩
  obtain ⟨c3, hc⟩ : ∃ c3 : Int, c3 = 6 * a3 * s * s * s := ⟨_, rfl⟩
  have r0 : v 1 = 3 * v 0 - 3 * v (-1) + v (-2) + c3 := by
    have := wv_cubic a0 a1 a2 a3 (b + (-2) * s) s
    rw [hv, hv, hv, hv, hc, show b + 1 * s = b + (-2) * s + 3 * s from by omega, show b + 0 * s = b + (-2) * s + 2 * s from by omega, show b + (-1) * s = b + (-2) * s + s from by omega]; exact this
  have r1 : v 2 = 3 * v 1 - 3 * v 0 + v (-1) + c3 := by
    have := wv_cubic a0 a1 a2 a3 (b + (-1) * s) s
    rw [hv, hv, hv, hv, hc, show b + 2 * s = b + (-1) * s + 3 * s from by omega, show b + 1 * s = b + (-1) * s + 2 * s from by omega, show b + 0 * s = b + (-1) * s + s from by omega]; exact this
  have r2 : v 3 = 3 * v 2 - 3 * v 1 + v 0 + c3 := by
    have := wv_cubic a0 a1 a2 a3 (b + 0 * s) s
    rw [hv, hv, hv, hv, hc, show b + 3 * s = b + 0 * s + 3 * s from by omega, show b + 2 * s = b + 0 * s + 2 * s from by omega, show b + 1 * s = b + 0 * s + s from by omega]; exact this
  have r3 : v 4 = 3 * v 3 - 3 * v 2 + v 1 + c3 := by
    have := wv_cubic a0 a1 a2 a3 (b + 1 * s) s
    rw [hv, hv, hv, hv, hc, show b + 4 * s = b + 1 * s + 3 * s from by omega, show b + 3 * s = b + 1 * s + 2 * s from by omega, show b + 2 * s = b + 1 * s + s from by omega]; exact this
  have r4 : v 5 = 3 * v 4 - 3 * v 3 + v 2 + c3 := by
    have := wv_cubic a0 a1 a2 a3 (b + 2 * s) s
    rw [hv, hv, hv, hv, hc, show b + 5 * s = b + 2 * s + 3 * s from by omega, show b + 4 * s = b + 2 * s + 2 * s from by omega, show b + 3 * s = b + 2 * s + s from by omega]; exact this
  have r5 : v 6 = 3 * v 5 - 3 * v 4 + v 3 + c3 := by
    have := wv_cubic a0 a1 a2 a3 (b + 3 * s) s
    rw [hv, hv, hv, hv, hc, show b + 6 * s = b + 3 * s + 3 * s from by omega, show b + 5 * s = b + 3 * s + 2 * s from by omega, show b + 4 * s = b + 3 * s + s from by omega]; exact this
  have r6 : v 7 = 3 * v 6 - 3 * v 5 + v 4 + c3 := by
    have := wv_cubic a0 a1 a2 a3 (b + 4 * s) s
    rw [hv, hv, hv, hv, hc, show b + 7 * s = b + 4 * s + 3 * s from by omega, show b + 6 * s = b + 4 * s + 2 * s from by omega, show b + 5 * s = b + 4 * s + s from by omega]; exact this
  have r7 : v 8 = 3 * v 7 - 3 * v 6 + v 5 + c3 := by
    have := wv_cubic a0 a1 a2 a3 (b + 5 * s) s
    rw [hv, hv, hv, hv, hc, show b + 8 * s = b + 5 * s + 3 * s from by omega, show b + 7 * s = b + 5 * s + 2 * s from by omega, show b + 6 * s = b + 5 * s + s from by omega]; exact this
  have r8 : v 9 = 3 * v 8 - 3 * v 7 + v 6 + c3 := by
    have := wv_cubic a0 a1 a2 a3 (b + 6 * s) s
    rw [hv, hv, hv, hv, hc, show b + 9 * s = b + 6 * s + 3 * s from by omega, show b + 8 * s = b + 6 * s + 2 * s from by omega, show b + 7 * s = b + 6 * s + s from by omega]; exact this
  have r9 : v 10 = 3 * v 9 - 3 * v 8 + v 7 + c3 := by
    have := wv_cubic a0 a1 a2 a3 (b + 7 * s) s
    rw [hv, hv, hv, hv, hc, show b + 10 * s = b + 7 * s + 3 * s from by omega, show b + 9 * s = b + 7 * s + 2 * s from by omega, show b + 8 * s = b + 7 * s + s from by omega]; exact this
  have z : ∀ j : Int, -2 ≤ j ∧ j ≤ 7 → (v j).natAbs < 4000000 := fun j hj => by
    rw [hv]
    refine wv_bd1 h0 h1 h2 h3 ?_
    have hs : s.natAbs ≤ 5 := by omega
    have hjn : j.natAbs ≤ 7 := by omega
    have q : (j * s).natAbs ≤ 35 := mul_bd hjn hs (by decide)
    omega
  refine ⟨v, fun j => v (j + 1) - v j, fun j => v (j + 1 + 1) - v (j + 1) - (v (j + 1) - v j), fun j => v j - v 0, c3, ?_⟩
  refine ⟨?_, ?_, ?_, ?_, ?_, ?_, ?_, ?_, ?_, ?_, ?_, ?_, ?_, ?_, ?_, ?_, ?_, ?_, ?_, ?_, ?_, ?_, ?_, ?_, ?_, ?_, ?_, ?_, ?_, ?_, ?_, ?_, ?_, ?_, ?_, ?_, ?_, ?_, ?_, ?_, ?_, ?_, ?_, ?_, ?_, ?_, ?_, ?_, ?_, ?_, ?_, ?_, ?_, ?_, ?_, ?_, ?_, ?_, ?_, ?_, ?_, ?_, ?_, ?_, ?_, ?_, ?_, ?_, ?_, ?_, ?_, ?_, ?_, ?_, ?_, ?_, ?_, ?_, ?_, ?_, ?_, ?_, ?_, ?_, ?_, ?_, ?_, ?_, ?_, ?_, ?_, ?_, ?_, ?_, ?_, ?_, ?_, ?_, ?_, ?_, ?_⟩
  · rw [hv]; exact congrArg _ (by omega)
  · rw [hv]; exact congrArg _ (by omega)
  · rw [hv]; exact congrArg _ (by omega)
  · rw [hv]; exact congrArg _ (by omega)
  · rw [hv]; exact congrArg _ (by omega)
  · rw [hv]; exact congrArg _ (by omega)
  · intro X hX; rw [hv, ← hX]; exact wv_due a0 a1 a2 a3 X
  · intro X hX; rw [hv, ← hX]; exact wv_due a0 a1 a2 a3 X
  · intro X hX; rw [hv, ← hX]; exact wv_due a0 a1 a2 a3 X
  · intro X hX; rw [hv, ← hX]; exact wv_due a0 a1 a2 a3 X
  · intro X hX; rw [hv, ← hX]; exact wv_due a0 a1 a2 a3 X
  · intro X hX; rw [hv, ← hX]; exact wv_due a0 a1 a2 a3 X
  · intro X hX; rw [hv, ← hX]; exact wv_due a0 a1 a2 a3 X
  · intro X hX; rw [hv, ← hX]; exact wv_due a0 a1 a2 a3 X
  · rw [hc]; omega
  · clear hv hc h0 h1 h2 h3 hb hs0 hs1; first | omega | ((simp only [Int.reduceAdd, Int.reduceNeg]); done) | ((simp only [Int.reduceAdd, Int.reduceNeg]); omega)
  · clear hv hc h0 h1 h2 h3 hb hs0 hs1; first | omega | ((simp only [Int.reduceAdd, Int.reduceNeg]); done) | ((simp only [Int.reduceAdd, Int.reduceNeg]); omega)
  · clear hv hc h0 h1 h2 h3 hb hs0 hs1; first | omega | ((simp only [Int.reduceAdd, Int.reduceNeg]); done) | ((simp only [Int.reduceAdd, Int.reduceNeg]); omega)
  · clear hv hc h0 h1 h2 h3 hb hs0 hs1; first | omega | ((simp only [Int.reduceAdd, Int.reduceNeg]); done) | ((simp only [Int.reduceAdd, Int.reduceNeg]); omega)
  · clear hv hc h0 h1 h2 h3 hb hs0 hs1; first | omega | ((simp only [Int.reduceAdd, Int.reduceNeg]); done) | ((simp only [Int.reduceAdd, Int.reduceNeg]); omega)
  · clear hv hc h0 h1 h2 h3 hb hs0 hs1; first | omega | ((simp only [Int.reduceAdd, Int.reduceNeg]); done) | ((simp only [Int.reduceAdd, Int.reduceNeg]); omega)
  · clear hv hc h0 h1 h2 h3 hb hs0 hs1; first | omega | ((simp only [Int.reduceAdd, Int.reduceNeg]); done) | ((simp only [Int.reduceAdd, Int.reduceNeg]); omega)
  · clear hv hc h0 h1 h2 h3 hb hs0 hs1; first | omega | ((simp only [Int.reduceAdd, Int.reduceNeg]); done) | ((simp only [Int.reduceAdd, Int.reduceNeg]); omega)
  · clear hv hc h0 h1 h2 h3 hb hs0 hs1; first | omega | ((simp only [Int.reduceAdd, Int.reduceNeg]); done) | ((simp only [Int.reduceAdd, Int.reduceNeg]); omega)
  · clear hv hc h0 h1 h2 h3 hb hs0 hs1; first | omega | ((simp only [Int.reduceAdd, Int.reduceNeg]); done) | ((simp only [Int.reduceAdd, Int.reduceNeg]); omega)
  · clear hv hc h0 h1 h2 h3 hb hs0 hs1; first | omega | ((simp only [Int.reduceAdd, Int.reduceNeg]); done) | ((simp only [Int.reduceAdd, Int.reduceNeg]); omega)
  · clear hv hc h0 h1 h2 h3 hb hs0 hs1; first | omega | ((simp only [Int.reduceAdd, Int.reduceNeg]); done) | ((simp only [Int.reduceAdd, Int.reduceNeg]); omega)
  · clear hv hc h0 h1 h2 h3 hb hs0 hs1; first | omega | ((simp only [Int.reduceAdd, Int.reduceNeg]); done) | ((simp only [Int.reduceAdd, Int.reduceNeg]); omega)
  · clear hv hc h0 h1 h2 h3 hb hs0 hs1; first | omega | ((simp only [Int.reduceAdd, Int.reduceNeg]); done) | ((simp only [Int.reduceAdd, Int.reduceNeg]); omega)
  · clear hv hc h0 h1 h2 h3 hb hs0 hs1; first | omega | ((simp only [Int.reduceAdd, Int.reduceNeg]); done) | ((simp only [Int.reduceAdd, Int.reduceNeg]); omega)
  · clear hv hc h0 h1 h2 h3 hb hs0 hs1; first | omega | ((simp only [Int.reduceAdd, Int.reduceNeg]); done) | ((simp only [Int.reduceAdd, Int.reduceNeg]); omega)
  · clear hv hc h0 h1 h2 h3 hb hs0 hs1; first | omega | ((simp only [Int.reduceAdd, Int.reduceNeg]); done) | ((simp only [Int.reduceAdd, Int.reduceNeg]); omega)
  · clear hv hc h0 h1 h2 h3 hb hs0 hs1; first | omega | ((simp only [Int.reduceAdd, Int.reduceNeg]); done) | ((simp only [Int.reduceAdd, Int.reduceNeg]); omega)
  · clear hv hc h0 h1 h2 h3 hb hs0 hs1; first | omega | ((simp only [Int.reduceAdd, Int.reduceNeg]); done) | ((simp only [Int.reduceAdd, Int.reduceNeg]); omega)
  · clear hv hc h0 h1 h2 h3 hb hs0 hs1; first | omega | ((simp only [Int.reduceAdd, Int.reduceNeg]); done) | ((simp only [Int.reduceAdd, Int.reduceNeg]); omega)
  · clear hv hc h0 h1 h2 h3 hb hs0 hs1; first | omega | ((simp only [Int.reduceAdd, Int.reduceNeg]); done) | ((simp only [Int.reduceAdd, Int.reduceNeg]); omega)
  · clear hv hc h0 h1 h2 h3 hb hs0 hs1; first | omega | ((simp only [Int.reduceAdd, Int.reduceNeg]); done) | ((simp only [Int.reduceAdd, Int.reduceNeg]); omega)
  · clear hv hc h0 h1 h2 h3 hb hs0 hs1; first | omega | ((simp only [Int.reduceAdd, Int.reduceNeg]); done) | ((simp only [Int.reduceAdd, Int.reduceNeg]); omega)
  · clear hv hc h0 h1 h2 h3 hb hs0 hs1; first | omega | ((simp only [Int.reduceAdd, Int.reduceNeg]); done) | ((simp only [Int.reduceAdd, Int.reduceNeg]); omega)
  · clear hv hc h0 h1 h2 h3 hb hs0 hs1; first | omega | ((simp only [Int.reduceAdd, Int.reduceNeg]); done) | ((simp only [Int.reduceAdd, Int.reduceNeg]); omega)
  · clear hv hc h0 h1 h2 h3 hb hs0 hs1; first | omega | ((simp only [Int.reduceAdd, Int.reduceNeg]); done) | ((simp only [Int.reduceAdd, Int.reduceNeg]); omega)
  · clear hv hc h0 h1 h2 h3 hb hs0 hs1; first | omega | ((simp only [Int.reduceAdd, Int.reduceNeg]); done) | ((simp only [Int.reduceAdd, Int.reduceNeg]); omega)
  · clear hv hc h0 h1 h2 h3 hb hs0 hs1; first | omega | ((simp only [Int.reduceAdd, Int.reduceNeg]); done) | ((simp only [Int.reduceAdd, Int.reduceNeg]); omega)
  · clear hv hc h0 h1 h2 h3 hb hs0 hs1; first | omega | ((simp only [Int.reduceAdd, Int.reduceNeg]); done) | ((simp only [Int.reduceAdd, Int.reduceNeg]); omega)
  · clear hv hc h0 h1 h2 h3 hb hs0 hs1; first | omega | ((simp only [Int.reduceAdd, Int.reduceNeg]); done) | ((simp only [Int.reduceAdd, Int.reduceNeg]); omega)
  · clear hv hc h0 h1 h2 h3 hb hs0 hs1; first | omega | ((simp only [Int.reduceAdd, Int.reduceNeg]); done) | ((simp only [Int.reduceAdd, Int.reduceNeg]); omega)
  · clear hv hc h0 h1 h2 h3 hb hs0 hs1; first | omega | ((simp only [Int.reduceAdd, Int.reduceNeg]); done) | ((simp only [Int.reduceAdd, Int.reduceNeg]); omega)
  · clear hv hc h0 h1 h2 h3 hb hs0 hs1; first | omega | ((simp only [Int.reduceAdd, Int.reduceNeg]); done) | ((simp only [Int.reduceAdd, Int.reduceNeg]); omega)
  · clear hv hc h0 h1 h2 h3 hb hs0 hs1; first | omega | ((simp only [Int.reduceAdd, Int.reduceNeg]); done) | ((simp only [Int.reduceAdd, Int.reduceNeg]); omega)
  · clear hv hc h0 h1 h2 h3 hb hs0 hs1; first | omega | ((simp only [Int.reduceAdd, Int.reduceNeg]); done) | ((simp only [Int.reduceAdd, Int.reduceNeg]); omega)
  · clear hv hc h0 h1 h2 h3 hb hs0 hs1; first | omega | ((simp only [Int.reduceAdd, Int.reduceNeg]); done) | ((simp only [Int.reduceAdd, Int.reduceNeg]); omega)
  · clear hv hc h0 h1 h2 h3 hb hs0 hs1; first | omega | ((simp only [Int.reduceAdd, Int.reduceNeg]); done) | ((simp only [Int.reduceAdd, Int.reduceNeg]); omega)
  · clear hv hc h0 h1 h2 h3 hb hs0 hs1; first | omega | ((simp only [Int.reduceAdd, Int.reduceNeg]); done) | ((simp only [Int.reduceAdd, Int.reduceNeg]); omega)
  · clear hv hc h0 h1 h2 h3 hb hs0 hs1; first | omega | ((simp only [Int.reduceAdd, Int.reduceNeg]); done) | ((simp only [Int.reduceAdd, Int.reduceNeg]); omega)
  · clear hv hc h0 h1 h2 h3 hb hs0 hs1; first | omega | ((simp only [Int.reduceAdd, Int.reduceNeg]); done) | ((simp only [Int.reduceAdd, Int.reduceNeg]); omega)
  · clear hv hc h0 h1 h2 h3 hb hs0 hs1; first | omega | ((simp only [Int.reduceAdd, Int.reduceNeg]); done) | ((simp only [Int.reduceAdd, Int.reduceNeg]); omega)
  · clear hv hc h0 h1 h2 h3 hb hs0 hs1; first | omega | ((simp only [Int.reduceAdd, Int.reduceNeg]); done) | ((simp only [Int.reduceAdd, Int.reduceNeg]); omega)
  · clear hv hc h0 h1 h2 h3 hb hs0 hs1; first | omega | ((simp only [Int.reduceAdd, Int.reduceNeg]); done) | ((simp only [Int.reduceAdd, Int.reduceNeg]); omega)
  · clear hv hc h0 h1 h2 h3 hb hs0 hs1; first | omega | ((simp only [Int.reduceAdd, Int.reduceNeg]); done) | ((simp only [Int.reduceAdd, Int.reduceNeg]); omega)
  · clear hv hc h0 h1 h2 h3 hb hs0 hs1; first | omega | ((simp only [Int.reduceAdd, Int.reduceNeg]); done) | ((simp only [Int.reduceAdd, Int.reduceNeg]); omega)
  · clear hv hc h0 h1 h2 h3 hb hs0 hs1; first | omega | ((simp only [Int.reduceAdd, Int.reduceNeg]); done) | ((simp only [Int.reduceAdd, Int.reduceNeg]); omega)
  · clear hv hc h0 h1 h2 h3 hb hs0 hs1; first | omega | ((simp only [Int.reduceAdd, Int.reduceNeg]); done) | ((simp only [Int.reduceAdd, Int.reduceNeg]); omega)
  · clear hv hc h0 h1 h2 h3 hb hs0 hs1; first | omega | ((simp only [Int.reduceAdd, Int.reduceNeg]); done) | ((simp only [Int.reduceAdd, Int.reduceNeg]); omega)
  · clear hv hc h0 h1 h2 h3 hb hs0 hs1; first | omega | ((simp only [Int.reduceAdd, Int.reduceNeg]); done) | ((simp only [Int.reduceAdd, Int.reduceNeg]); omega)
  · clear hv hc h0 h1 h2 h3 hb hs0 hs1; first | omega | ((simp only [Int.reduceAdd, Int.reduceNeg]); done) | ((simp only [Int.reduceAdd, Int.reduceNeg]); omega)
  · clear hv hc h0 h1 h2 h3 hb hs0 hs1; first | omega | ((simp only [Int.reduceAdd, Int.reduceNeg]); done) | ((simp only [Int.reduceAdd, Int.reduceNeg]); omega)
  · clear hv hc h0 h1 h2 h3 hb hs0 hs1; first | omega | ((simp only [Int.reduceAdd, Int.reduceNeg]); done) | ((simp only [Int.reduceAdd, Int.reduceNeg]); omega)
  · clear hv hc h0 h1 h2 h3 hb hs0 hs1; first | omega | ((simp only [Int.reduceAdd, Int.reduceNeg]); done) | ((simp only [Int.reduceAdd, Int.reduceNeg]); omega)
  · clear hv hc h0 h1 h2 h3 hb hs0 hs1; first | omega | ((simp only [Int.reduceAdd, Int.reduceNeg]); done) | ((simp only [Int.reduceAdd, Int.reduceNeg]); omega)
  · clear hv hc h0 h1 h2 h3 hb hs0 hs1; first | omega | ((simp only [Int.reduceAdd, Int.reduceNeg]); done) | ((simp only [Int.reduceAdd, Int.reduceNeg]); omega)
  · clear hv hc h0 h1 h2 h3 hb hs0 hs1; first | omega | ((simp only [Int.reduceAdd, Int.reduceNeg]); done) | ((simp only [Int.reduceAdd, Int.reduceNeg]); omega)
  · exact z _ (by decide)
  · exact z _ (by decide)
  · exact z _ (by decide)
  · exact z _ (by decide)
  · exact z _ (by decide)
  · exact z _ (by decide)
  · exact z _ (by decide)
  · exact z _ (by decide)
  · exact nb_sub (z _ (by decide)) (z _ (by decide)) (by decide)
  · exact nb_sub (nb_sub (z _ (by decide)) (z _ (by decide)) (Nat.le_refl _)) (nb_sub (z _ (by decide)) (z _ (by decide)) (Nat.le_refl _)) (by decide)
  · exact nb_sub (z _ (by decide)) (z _ (by decide)) (by decide)
  · exact nb_sub (nb_sub (z _ (by decide)) (z _ (by decide)) (Nat.le_refl _)) (nb_sub (z _ (by decide)) (z _ (by decide)) (Nat.le_refl _)) (by decide)
  · exact nb_sub (z _ (by decide)) (z _ (by decide)) (by decide)
  · exact nb_sub (nb_sub (z _ (by decide)) (z _ (by decide)) (Nat.le_refl _)) (nb_sub (z _ (by decide)) (z _ (by decide)) (Nat.le_refl _)) (by decide)
  · exact nb_sub (z _ (by decide)) (z _ (by decide)) (by decide)
  · exact nb_sub (nb_sub (z _ (by decide)) (z _ (by decide)) (Nat.le_refl _)) (nb_sub (z _ (by decide)) (z _ (by decide)) (Nat.le_refl _)) (by decide)
  · exact nb_sub (z _ (by decide)) (z _ (by decide)) (by decide)
  · exact nb_sub (nb_sub (z _ (by decide)) (z _ (by decide)) (Nat.le_refl _)) (nb_sub (z _ (by decide)) (z _ (by decide)) (Nat.le_refl _)) (by decide)
  · exact nb_sub (z _ (by decide)) (z _ (by decide)) (by decide)
  · exact nb_sub (nb_sub (z _ (by decide)) (z _ (by decide)) (Nat.le_refl _)) (nb_sub (z _ (by decide)) (z _ (by decide)) (Nat.le_refl _)) (by decide)
  · exact nb_sub (z _ (by decide)) (z _ (by decide)) (by decide)
  · exact nb_sub (nb_sub (z _ (by decide)) (z _ (by decide)) (Nat.le_refl _)) (nb_sub (z _ (by decide)) (z _ (by decide)) (Nat.le_refl _)) (by decide)
  · exact nb_sub (z _ (by decide)) (z _ (by decide)) (by decide)
  · exact nb_sub (nb_sub (z _ (by decide)) (z _ (by decide)) (Nat.le_refl _)) (nb_sub (z _ (by decide)) (z _ (by decide)) (Nat.le_refl _)) (by decide)
  · rw [hc]; exact c3_bd h3 hs0 hs1
  · exact nb_sub (z _ (by decide)) (z _ (by decide)) (by decide)
  · exact nb_sub (z _ (by decide)) (z _ (by decide)) (by decide)
  · exact nb_sub (z _ (by decide)) (z _ (by decide)) (by decide)
  · exact nb_sub (z _ (by decide)) (z _ (by decide)) (by decide)
  · exact nb_sub (z _ (by decide)) (z _ (by decide)) (by decide)
end
end Mine
end
section
-- part T2
open PySem PySem.W PySem.Calls PyProof.Rows
namespace Mine
noncomputable section
structure Hid (hidP : Prop) : Prop where
  out : hidP


theorem lines_T2_1 : True := by
  k_with_none
  (k_with "subscriptTail Name Constant ref int" => ((k_here; k_dflt (refine' item_tupleT ?tt21 ?at21 ?bt21 ?ct21 ?dt21 ?_; (case tt21 => exact News.isTup (by k_asm) (by k_extra "mine mem")); (case at21 => decide); (case bt21 => decide); (case ct21 => rfl); (case dt21 => rfl); k_whole))))
  (k_with "mine item" => ((k_here; k_dflt (refine' lst_item ?tt22 ?at22 ?bt22 ?ct22 ?dt22 ?_; (case tt22 => k_asm); (case at22 => k_extra "mine mem"); (case bt22 => first | decide | omega); (case ct22 => first | decide | omega); (case dt22 => rfl); k_whole))))
  (k_with "subscriptTail Name Constant ref int" => (k_extra "mine item"))
  (k_with "subscriptTail Name Name ref int" => (k_extra "mine item"))
  (k_with "subscriptTail Name BinOp ref int" => (k_extra "mine item"))
  (k_with "mine gotb" => ((intro zzh9 zztk9 zzF9 zzN9; (try dsimp only); (try k_fold); (try k_sweep))))
  (k_with "mine mem" => (first | (with_reducible assumption) | exact List.Mem.head _ | (refine' List.mem_cons_of_mem _ ?mmt27; (case mmt27 => k_extra "mine mem"))))
  (k_with "mine need" => (first | exact List.forall_mem_nil _ | (refine' List.forall_mem_cons.mpr (And.intro ?nat28 ?nbt28); (case nat28 => k_mem); (case nbt28 => k_extra "mine need"))))
  (k_with "mine gs" => ((refine' Gd.mk ?k1t29 ?k2t29 ?k3t29 ?k4t29 ?k5t29 ?kKt29 ?kdt29 ?kut29; (case k1t29 => k_asm); (case k2t29 => k_asm); (case k3t29 => k_asm); (case k4t29 => k_asm); (case k5t29 => k_asm); (case kKt29 => first | exact rfl | assumption); (case kdt29 => ktr_room); (case kut29 => ktr_units))))
  (k_with "mine got" => ((intro zzD9 zzt9 zzu9 zzc9 zzh9 zztk9 zzF9 zzN9 zzl9; (try dsimp only); (try k_fold); (try k_sweep))))
  (k_with "mine lt" => (first | assumption | (refine' lt_drop ?ltat211 ?ltbt211; (case ltat211 => assumption); (case ltbt211 => kcj_all))))
  (k_with "mine rt" => ((refine' rt_end ?_ ?_ ?fFt212 ?fNt212 ?fmt212 ?fst212 ?flt212; (case fFt212 => k_asm); (case fNt212 => assumption); (case fmt212 => k_mem); (case fst212 => kcj_all); (case flt212 => k_extra "mine lt"))))
  (k_with "mine ne" => (first | (refine' ne_of_lts ?ltat213 ?ltbt213; (case ltat213 => assumption); (case ltbt213 => kcj_all)) | (refine' ne_of_nes ?ltat213 ?ltbt213; (case ltat213 => assumption); (case ltbt213 => kcj_all))))
  (k_with "mine rn" => ((refine' rn_end ?n0t214 ?n1t214 ?_ ?_ ?n2t214 ?n3t214 ?n4t214 ?n5t214 ?n6t214 ?n7t214 ?n8t214 ?n9t214; (case n0t214 => assumption); (case n1t214 => assumption); (case n2t214 => assumption); (case n3t214 => assumption); (case n4t214 => assumption); (case n5t214 => k_asm); (case n6t214 => assumption); (case n7t214 => k_mem); (case n8t214 => kcj_all); (case n9t214 => k_extra "mine ne"))))
  trivial
theorem off_lt {l : List (Addr × Obj)} {I : Addr} (h : ∀ p ∈ l, p.1 < I) : ∀ p ∈ l, p.1 ≠ I := fun p hp => Nat.ne_of_lt (h p hp)
theorem tup_ne_it {h₀ h : Heap} {L a I : Addr} {x y i j : Int} {t u : Tok} {c : Nat} {news : List (Addr × Obj)} (N : News h₀ L h news) (ha : (a, tupO x y t u c) ∈ news) (hi : (I, itR i j) ∈ news) : a ≠ I := fun e => by
  subst e
  have h1 := (N _ ha).1
  rw [(N _ hi).1] at h1
  exact absurd (Value.type.inj (congrArg Obj.cls (Option.some.inj h1))) (by decide)
theorem une0 {h₀ h' : Heap} {L I a b : Addr} {i j x y z : Int} {t u tw : Tok} {c : Nat} {ob : Obj} {rest : (Str → Option Value) → List (Addr × Obj) → Prop} {s₁ : Shared} {tk : Nat} {nv dv : Option Value} {m0 : Str → Option Value} {old : List (Addr × Obj)}
    (F : Fr h₀ L h' (fun y => if y = Str.ofString "weight" then some (.int z tw) else if y = Str.ofString "newton" then nv else if y = Str.ofString "degree" then dv else m0 y))
    (N : News h₀ L h' ((a, tupO x y t u c) :: (b, ob) :: (I, itR i j) :: old)) (off : ∀ p ∈ old, p.1 ≠ I) (r : ∀ tw' : Tok, rest (fun y => if y = Str.ofString "weight" then some (.int z tw') else if y = Str.ofString "newton" then nv else if y = Str.ofString "degree" then dv else m0 y) ((a, tupO x y t u c) :: old)) : UnrEnd h₀ L s₁ I (itR i j) rest { s₁ with heap := h', toks := tk } :=
  UnrEnd.intro F N _ (List.forall_mem_cons.mpr ⟨.tail _ (.tail _ (.head _)), List.forall_mem_cons.mpr ⟨.head _, fun p hp => .tail _ (.tail _ (.tail _ hp))⟩⟩)
    (List.forall_mem_cons.mpr ⟨tup_ne_it N (.head _) (.tail _ (.tail _ (.head _))), off⟩) (r tw)
theorem une1 {h₀ h' : Heap} {L I a b d : Addr} {i j x y z : Int} {t u tw : Tok} {c : Nat} {ob od : Obj} {rest : (Str → Option Value) → List (Addr × Obj) → Prop} {s₁ : Shared} {tk : Nat} {nv dv wv' nv' dv' : Option Value} {m0 : Str → Option Value} {old : List (Addr × Obj)}
    (F : Fr h₀ L h' (fun y => if y = Str.ofString "weight" then some (.int z tw) else if y = Str.ofString "newton" then nv else if y = Str.ofString "degree" then dv else if y = Str.ofString "weight" then wv' else if y = Str.ofString "newton" then nv' else if y = Str.ofString "degree" then dv' else m0 y))
    (N : News h₀ L h' ((a, tupO x y t u c) :: (b, ob) :: (I, itR i j) :: (d, od) :: old)) (off : ∀ p ∈ old, p.1 ≠ I) (r : ∀ tw' : Tok, rest (fun y => if y = Str.ofString "weight" then some (.int z tw') else if y = Str.ofString "newton" then nv else if y = Str.ofString "degree" then dv else m0 y) ((a, tupO x y t u c) :: old)) : UnrEnd h₀ L s₁ I (itR i j) rest { s₁ with heap := h', toks := tk } := by
  have e : (fun y => if y = Str.ofString "weight" then some (.int z tw) else if y = Str.ofString "newton" then nv else if y = Str.ofString "degree" then dv else if y = Str.ofString "weight" then wv' else if y = Str.ofString "newton" then nv' else if y = Str.ofString "degree" then dv' else m0 y) = (fun y => if y = Str.ofString "weight" then some (.int z tw) else if y = Str.ofString "newton" then nv else if y = Str.ofString "degree" then dv else m0 y) := funext fun y => by
    by_cases q1 : y = Str.ofString "weight"
    · simp only [if_pos q1]
    by_cases q2 : y = Str.ofString "newton"
    · simp only [if_neg q1, if_pos q2]
    by_cases q3 : y = Str.ofString "degree"
    · simp only [if_neg q1, if_neg q2, if_pos q3]
    simp only [if_neg q1, if_neg q2, if_neg q3]
  rw [e] at F
  exact UnrEnd.intro F N _ (List.forall_mem_cons.mpr ⟨.tail _ (.tail _ (.head _)), List.forall_mem_cons.mpr ⟨.head _, fun p hp => .tail _ (.tail _ (.tail _ (.tail _ hp)))⟩⟩)
    (List.forall_mem_cons.mpr ⟨tup_ne_it N (.head _) (.tail _ (.tail _ (.head _))), off⟩) (r tw)

def LawTurn (n : Nat) (G : List Stmt → Str → Scope → Value → Prop) : Option Obj → Prop
  | some ⟨_, _, .func fd, _⟩ => (match fd.body with | .stmts body => (match body.drop n with | .For _ _ b _ _ :: _ => ∀ cdv, G b fd.qualname fd.scope cdv | _ => False) | _ => False)
  | _ => False
theorem law_turn_of {n : Nat} {G : List Stmt → Str → Scope → Value → Prop} {K : Frag} {f : Addr} {o : Obj} (e : K.lookup f = some o) (h : LawTurn n G (some o)) : LawTurn n G (K.lookup f) := by rw [e]; exact h
theorem fr_put {h₀ h : Heap} {L : Addr} {m : Str → Option Value} {x : Str} {v : Option Value} (F : Fr h₀ L h m) (e : m x = v) : Fr h₀ L h (fun y => if y = x then v else m y) := by
  have : (fun y => if y = x then v else m y) = m := funext fun y => by
    split
    · next q => rw [q]; exact e.symm
    · rfl
  rw [this]; exact F
theorem pick5 {h₀ h : Heap} {L : Addr} {a b c d : Addr × Obj} {r : List (Addr × Obj)} (N : News h₀ L h (a :: b :: c :: d :: r)) : News h₀ L h r := fun p hp => N p (.tail _ (.tail _ (.tail _ (.tail _ hp))))




theorem lines_T2_2 : True := by
  (k_with "compareOp Eq ref ref" => ((k_here; k_dflt (refine' eq_tt ?cat215 ?cbt215 ?cct215 ?cxt215 ?cyt215 ?cut215 ?_; (case cat215 => k_asm); (case cbt215 => k_mem); (case cct215 => k_mem); (case cxt215 => k_extra "mine same"); (case cyt215 => k_extra "mine same"); (case cut215 => ktr_units)))))
  (k_with "compareOp NotEq ref ref" => ((k_here; k_dflt (refine' ne_tt ?cat216 ?cbt216 ?cct216 ?cxt216 ?cyt216 ?cut216 ?_; (case cat216 => k_asm); (case cbt216 => k_mem); (case cct216 => k_mem); (case cxt216 => k_extra "mine same"); (case cyt216 => k_extra "mine same"); (case cut216 => ktr_units)))))
  (k_with "exec For Name Call cons nil" => ((k_here; (rename Fr _ _ _ _ => zzlF'); k_dflt (refine' For_invVF zzlF' ?k1t217 ?k2t217 ?_ ?k3t217 ?k4t217; (case k1t217 => exact rfl); (case k2t217 => exact rfl); (case k3t217 => (intro _; with_unfolding_all rfl)); (case k4t217 => first | assumption | passes_own | with_unfolding_all passes_own); k_whole))))
  (k_with "pyIter ref" => (((with_reducible show wpAny _ _ (pyIter (Value.ref _)) (fun it s₂ => LoopAtV _ _ _ _ _ _ _ _ _ it s₂) _ _); (rename Fr _ _ _ _ => zzlF'); (rename News _ _ _ _ => zzlN'); (rename IsRange _ _ _ _ _ _ _ _ => zzlR'); (with_unfolding_all refine iter_rangeUnr (n := 4) (by rfl) zzlR' (by first | decide | rfl) (by first | decide | rfl) zzlF' zzlN' ?_); clear zzlF' zzlN'; intro zzi' zzl1)))
  (k_with "UnrEnd" => (first | (refine' une0 ?uFt219 ?uNt219 ?uot219 ?_; (case uFt219 => k_asm); (case uNt219 => k_asm); (case uot219 => (refine' off_lt ?ult219; (case ult219 => (with_reducible assumption)))); intro zztw') | (refine' une1 ?uFt219 ?uNt219 ?uot219 ?_; (case uFt219 => k_asm); (case uNt219 => k_asm); (case uot219 => (refine' off_lt ?ult219; (case ult219 => (with_reducible assumption)))); intro zztw')))
  (k_with "mine ne2" => (first | (with_reducible assumption) | (refine' Nat.ne_of_lt (lt_mem ?ht220 ?mt220); (case ht220 => (with_reducible assumption)); (case mt220 => k_extra "mine mem")) | (refine' ne_cell ?ht220 ?mt220; (case ht220 => (with_reducible assumption)); (case mt220 => k_extra "mine mem")) | (refine' ne_mem ?ht220 ?mt220; (case ht220 => (with_reducible assumption)); (case mt220 => k_extra "mine mem")) | (refine' ne_mem1 ?ht220 ?mt220; (case ht220 => (with_reducible assumption)); (case mt220 => k_extra "mine mem")) | (refine' (ne_mem3 ?ht220 ?mt220).1; (case ht220 => (with_reducible assumption)); (case mt220 => k_extra "mine mem")) | (refine' (ne_mem3 ?ht220 ?mt220).2.1; (case ht220 => (with_reducible assumption)); (case mt220 => k_extra "mine mem")) | (refine' (ne_mem3 ?ht220 ?mt220).2.2; (case ht220 => (with_reducible assumption)); (case mt220 => k_extra "mine mem"))))
  (k_with "mine kall" => (first | (refine' all_off ?ht221 ?et221; (case ht221 => (with_reducible assumption)); (case et221 => rfl)) | (refine' all_cell ?ht221 ?et221; (case ht221 => (with_reducible assumption)); (case et221 => rfl))))
  (k_with "newList" => ((k_here; k_dflt (refine' newList_K ?k1t222 ?k2t222 ?_; (case k1t222 => k_asm); (case k2t222 => k_asm); k_whole); intro zzl' zzh' zzF' zzN' zzl1; (try k_sweep))))
  (k_with "mine kne" => (((refine neN ?_); (try dsimp only); first | (refine' Nat.ne_of_gt (lt_mem ?ht223 ?mt223); (case ht223 => (with_reducible assumption)); (case mt223 => k_extra "mine mem")) | k_extra "mine ne2" | (refine' Ne.symm ?xt223; (case xt223 => k_extra "mine ne2")) | fail "mine ne")))
  (k_with "mine same" => (exact rfl))
  (k_with "mine vb" => (first | (refine' Hid.out ?hidt225; (case hidt225 => with_reducible assumption)) | decide))
  (k_with "mine hw" => ((refine' Hid.out ?hidt226; (case hidt226 => with_reducible assumption))))
  (k_with "mine is" => (first | (with_reducible refine' is_nf ?iat227 ?ibt227 ?ict227; (case iat227 => decide); (case ibt227 => decide); (case ict227 => k_extra "mine vb")) | (refine' Hid.out ?hidt227; (case hidt227 => with_reducible assumption)) | (with_reducible refine' is_zero ?iat227 ?ibt227; (case iat227 => decide); (case ibt227 => decide))))
  (k_with "mine nfa" => (first | (refine' Hid.out ?hidt228; (case hidt228 => with_reducible assumption)) | (refine' nf_abs ?iat228 ?ibt228 ?ict228; (case iat228 => decide); (case ibt228 => decide); (case ict228 => k_extra "mine vb")) | decide))
  (k_with "mine item" => ((k_here; k_dflt (refine' lst_item ?tt229 ?at229 ?bt229 ?ct229 ?dt229 ?_; (case tt229 => k_asm); (case at229 => k_extra "mine mem"); (case bt229 => k_extra "mine vb"); (case ct229 => k_extra "mine vb"); (case dt229 => first | (refine' Hid.out ?hidt229; (case hidt229 => with_reducible assumption)) | rfl); k_whole))))
  (k_with "mine gotl" => ((intro zzD9 zzf0 zzf1 zzf2 zzt0 zzu0 zzt1 zzu1 zzt2 zzu2 zzc0 zzc1 zzc2 zzc9 zzh9 zztk9 zzF9 zzN9; (try dsimp only); (try k_fold); (try k_sweep))))
  (k_with "call ref" => ((k_here; (with_reducible show wpAny _ _ (call (Value.ref 108) _) _ _ _); k_dflt (refine' sp_rt (add2_spec _ _ _ _ _ _ _ _ _ _ _ _ _ _ _ _ _ ?hwt231 ?hAt231 ?hBt231 ?hnt231 ?hxt231 ?hxpt231 ?h0t231 ?h1t231) ?kgt231 ?knt231 ?_; (case kgt231 => k_extra "mine gs"); (case knt231 => k_extra "mine need"); (case hBt231 => k_extra "mine is"); (case hAt231 => k_extra "mine is"); (case hwt231 => k_extra "mine hw"); (case hnt231 => k_extra "mine vb"); (case hxt231 => k_extra "mine nfa"); (case hxpt231 => k_extra "mine nfa"); (case h0t231 => decide); (case h1t231 => decide); k_extra "mine got"))))
  (k_with "call ref" => ((k_here; (with_reducible show wpAny _ _ (call (Value.ref 213) (Value.str (Str.ofString "+") _ :: _)) _ _ _); k_dflt (refine' sp_rt (rka2_spec _ _ _ _ _ _ _ _ _ _ _ _ _ _ _ _ _ _ _ ?hwt232 ?hAt232 ?hBt232 ?hnt232 ?hnAt232 ?hnBt232 ?h0t232 ?h1t232) ?kgt232 ?knt232 ?_; (case kgt232 => k_extra "mine gs"); (case knt232 => k_extra "mine need"); (case hBt232 => k_extra "mine is"); (case hAt232 => k_extra "mine is"); (case hwt232 => k_extra "mine hw"); (case hnt232 => k_extra "mine vb"); (case hnAt232 => k_extra "mine vb"); (case hnBt232 => k_extra "mine vb"); (case h0t232 => decide); (case h1t232 => decide); k_extra "mine got"))))
  (k_with "call ref" => ((k_here; (with_reducible show wpAny _ _ (call (Value.ref 213) (Value.str (Str.ofString "*") _ :: _)) _ _ _); k_dflt (refine' sp_rt (rkm2_spec _ _ _ _ _ _ _ _ _ _ _ _ _ _ ?hwt233 ?hAt233 ?hnt233 ?hnAt233 ?hnBt233 ?h0t233 ?h1t233) ?kgt233 ?knt233 ?_; (case kgt233 => k_extra "mine gs"); (case knt233 => k_extra "mine need"); (case hAt233 => k_extra "mine is"); (case hwt233 => k_extra "mine hw"); (case hnt233 => k_extra "mine vb"); (case hnAt233 => k_extra "mine vb"); (case hnBt233 => k_extra "mine vb"); (case h0t233 => decide); (case h1t233 => decide); k_extra "mine got"))))
  (k_with "call ref" => ((k_here; (with_reducible show wpAny _ _ (call (Value.ref 244) _) _ _ _); k_dflt (refine' sp_rl (on2_spec _ _ _ _ _ _ _ _ _ _ _ _ _ _ _ _ _ _ _ _ _ _ _ _ _ ?w0t234 ?w1t234 ?w2t234 ?b0t234 ?b1t234 ?b2t234 ?b3t234) ?kgt234 ?knt234 ?_; (case kgt234 => k_extra "mine gs"); (case knt234 => k_extra "mine need"); (case w0t234 => (refine' Hid.out ?hidt234; (case hidt234 => with_reducible assumption))); (case w1t234 => (refine' Hid.out ?hidt234; (case hidt234 => with_reducible assumption))); (case w2t234 => (refine' Hid.out ?hidt234; (case hidt234 => with_reducible assumption))); (case b0t234 => (refine' Hid.out ?hidt234; (case hidt234 => with_reducible assumption))); (case b1t234 => (refine' Hid.out ?hidt234; (case hidt234 => with_reducible assumption))); (case b2t234 => (refine' Hid.out ?hidt234; (case hidt234 => with_reducible assumption))); (case b3t234 => (refine' Hid.out ?hidt234; (case hidt234 => with_reducible assumption))); k_extra "mine gotl"))))
  (k_with "call ref" => ((k_here; (with_reducible show wpAny _ _ (call (Value.ref 234) _) _ _ _); k_dflt (refine' sp_rb (is_spec _ _ _ _ _ _ _ _ _ _ _ _ _ _ _ _ _ ?h0t235 ?h1t235 ?h2t235 ?h3t235 ?hbt235 ?hVt235 ?duet235) ?kgt235 ?knt235 ?_; (case kgt235 => k_extra "mine gs"); (case knt235 => k_extra "mine need"); (case h0t235 => k_extra "mine vb"); (case h1t235 => k_extra "mine vb"); (case h2t235 => k_extra "mine vb"); (case h3t235 => k_extra "mine vb"); (case duet235 => (refine' Hid.out ?hidt235; (case hidt235 => with_reducible assumption))); (case hbt235 => k_extra "mine vb"); (case hVt235 => k_extra "mine vb"); k_extra "mine gotb"))))
  trivial
def Turn2 (prog : Program) (w : World) (mean : ExcName → Option Value) (mg mb : Str → Option Value) (body : List Stmt) (qual : Str) (scope : Scope) (cdv : Value) : Prop :=
    ∀ (T p q r c3 p' q' r' d d' v0 g0 h1 m0 m1 m2 m3 n0 n1 n2 zx zy : Int) (tT : Tok) (I G e0 e1 e2 e3 S s0 s1 s2 s3 Z VL w0 wj : Addr) (it : Obj) (vs : List Value) (t0 u0 t1 u1 t2 u2 t3 u3 t4 u4 t5 u5 t6 u6 t7 u7 t8 u8 t9 u9 t10 u10 : Tok) (k0 k1 k2 k3 k4 k5 k6 k7 k8 k9 k10 kG kS kV : Nat) (news : List (Addr × Obj)) (dp un : Nat) (gd : Option (List Code)) (fa : Addr) (outer : List Env) (A₀ : Around) (base h₀ : Heap) (L : Addr) (m : Str → Option Value) (st : Shared) (Q : Flow → Shared → Prop) (E : Value → Shared → Prop),
      Hid (0 ≤ T + 1) → Hid (T + 1 < 2 ^ 63) → Hid (Is (-4) d zx zy) → Hid (zx.natAbs < 1000000000) → Hid (zy.natAbs < 1000000000) → Hid (d + q = d') → Hid (p + q = p') → Hid (q + r = q') → Hid (r + c3 = r') → Hid (v0 + d' = p') → Hid (p.natAbs < 90000000) → Hid (q.natAbs < 90000000) → Hid (r.natAbs < 90000000) → Hid (c3.natAbs < 90000000) → Hid (p.natAbs < 1000000000) → Hid (q.natAbs < 1000000000) → Hid (r.natAbs < 1000000000) → Hid (c3.natAbs < 1000000000) → Hid (p'.natAbs < 1000000000) → Hid (q'.natAbs < 1000000000) → Hid (r'.natAbs < 1000000000) → Hid (d.natAbs < 1000000000) → Hid (d'.natAbs < 1000000000) → Hid (v0.natAbs < 1000000000) → Hid (g0.natAbs < 1000000000) → Hid (h1.natAbs < 1000000000) → Hid (m0.natAbs < 1000000000) → Hid (m1.natAbs < 1000000000) → Hid (m2.natAbs < 1000000000) → Hid (m3.natAbs < 1000000000) → Hid (n0.natAbs < 1000000000) → Hid (n1.natAbs < 1000000000) → Hid (n2.natAbs < 1000000000) → Hid (((1 : Int)).natAbs < 1000000000) → Hid ((((1 : Int) * (T + 1 - (0 + ((0 : Nat) : Int)))).fdiv (0 + ((0 : Nat) : Int) + 1)).natAbs < 1000000000) → Hid (((((1 : Int) * (T + 1 - (0 + ((0 : Nat) : Int)))).fdiv (0 + ((0 : Nat) : Int) + 1) * (T + 1 - (0 + ((0 + 1 : Nat) : Int)))).fdiv (0 + ((0 + 1 : Nat) : Int) + 1)).natAbs < 1000000000) → Hid ((((((1 : Int) * (T + 1 - (0 + ((0 : Nat) : Int)))).fdiv (0 + ((0 : Nat) : Int) + 1) * (T + 1 - (0 + ((0 + 1 : Nat) : Int)))).fdiv (0 + ((0 + 1 : Nat) : Int) + 1) * (T + 1 - (0 + ((0 + 1 + 1 : Nat) : Int)))).fdiv (0 + ((0 + 1 + 1 : Nat) : Int) + 1)).natAbs < 1000000000) → Hid (v0 * ((1 : Int)) = m0) → Hid (g0 * (((1 : Int) * (T + 1 - (0 + ((0 : Nat) : Int)))).fdiv (0 + ((0 : Nat) : Int) + 1)) = m1) → Hid (h1 * ((((1 : Int) * (T + 1 - (0 + ((0 : Nat) : Int)))).fdiv (0 + ((0 : Nat) : Int) + 1) * (T + 1 - (0 + ((0 + 1 : Nat) : Int)))).fdiv (0 + ((0 + 1 : Nat) : Int) + 1)) = m2) → Hid (c3 * (((((1 : Int) * (T + 1 - (0 + ((0 : Nat) : Int)))).fdiv (0 + ((0 : Nat) : Int) + 1) * (T + 1 - (0 + ((0 + 1 : Nat) : Int)))).fdiv (0 + ((0 + 1 : Nat) : Int) + 1) * (T + 1 - (0 + ((0 + 1 + 1 : Nat) : Int)))).fdiv (0 + ((0 + 1 + 1 : Nat) : Int) + 1)) = m3) → Hid (0 + m0 = n0) → Hid (n0 + m1 = n1) → Hid (n1 + m2 = n2) → Hid (n2 + m3 = p') → Hid (vs[Int.toNat 0]? = some (.ref w0)) → Hid (vs[(T + 1).toNat]? = some (.ref wj)) →
      0 ≤ T → T ≤ 4 → Below A₀ base outer h₀ → Frag.In (Mine.hd.heap_39 w.params) h₀ → Top Mine.hd.view_39 (looseW Mine.hd.view_39 [Str.ofString "BasicError"]) mean mg mb h₀ → Fr h₀ L st.heap (fun y => if y = Str.ofString "turn" then some (.int T tT) else if y = Str.ofString "engine" then some (.ref G) else if y = Str.ofString "total" then some (.ref Z) else if y = Str.ofString "start" then some (.ref S) else if y = Str.ofString "values" then some (.ref VL) else m y) →
      News h₀ L st.heap ((I, it) :: (G, W.listOf #[.ref e0, .ref e1, .ref e2, .ref e3] kG) :: (e0, tupO (nf (-4) p).1 (nf (-4) p).2 t0 u0 k0) :: (e1, tupO (nf (-4) q).1 (nf (-4) q).2 t1 u1 k1) :: (e2, tupO (nf (-4) r).1 (nf (-4) r).2 t2 u2 k2) :: (e3, tupO (nf (-4) c3).1 (nf (-4) c3).2 t3 u3 k3) :: (S, W.listOf #[.ref s0, .ref s1, .ref s2, .ref s3] kS) :: (s0, tupO (nf (-4) v0).1 (nf (-4) v0).2 t4 u4 k4) :: (s1, tupO (nf (-4) g0).1 (nf (-4) g0).2 t5 u5 k5) :: (s2, tupO (nf (-4) h1).1 (nf (-4) h1).2 t6 u6 k6) :: (s3, tupO (nf (-4) c3).1 (nf (-4) c3).2 t7 u7 k7) :: (Z, tupO zx zy t8 u8 k8) :: (VL, W.listOf vs.toArray kV) :: (w0, tupO (nf (-4) v0).1 (nf (-4) v0).2 t9 u9 k9) :: (wj, tupO (nf (-4) p').1 (nf (-4) p').2 t10 u10 k10) :: news) → dp + 20 < recursionLimit → un + 200 < cLine → PassesOwn (model prog w) (ktrTop dp un gd qual scope L fa cdv (cellsFrom (L + 1) scope.names []) outer) (envOfC qual scope L fa cdv) E →
      (∀ (h' : Heap) (tk' : Nat) (G' e0' e1' e2' Z' : Addr) (tt0 uu0 tt1 uu1 tt2 uu2 tt3 uu3 : Tok) (kk0 kk1 kk2 kk3 kG' : Nat) (m' : Str → Option Value), Fr h₀ L h' (fun y => if y = Str.ofString "engine" then some (.ref G') else if y = Str.ofString "total" then some (.ref Z') else m' y) → (∀ y, y ≠ Str.ofString "engine" → y ≠ Str.ofString "total" → y ≠ Str.ofString "weight" → y ≠ Str.ofString "newton" → y ≠ Str.ofString "degree" → m' y = (fun y => if y = Str.ofString "turn" then some (.int T tT) else if y = Str.ofString "engine" then some (.ref G) else if y = Str.ofString "total" then some (.ref Z) else if y = Str.ofString "start" then some (.ref S) else if y = Str.ofString "values" then some (.ref VL) else m y) y) →
        News h₀ L h' ((G', W.listOf #[.ref e0', .ref e1', .ref e2', .ref e3] kG') :: (e0', tupO (nf (-4) p').1 (nf (-4) p').2 tt0 uu0 kk0) :: (e1', tupO (nf (-4) q').1 (nf (-4) q').2 tt1 uu1 kk1) :: (e2', tupO (nf (-4) r').1 (nf (-4) r').2 tt2 uu2 kk2) :: (Z', tupO (nf (-4) d').1 (nf (-4) d').2 tt3 uu3 kk3) :: (I, it) :: (G, W.listOf #[.ref e0, .ref e1, .ref e2, .ref e3] kG) :: (e0, tupO (nf (-4) p).1 (nf (-4) p).2 t0 u0 k0) :: (e1, tupO (nf (-4) q).1 (nf (-4) q).2 t1 u1 k1) :: (e2, tupO (nf (-4) r).1 (nf (-4) r).2 t2 u2 k2) :: (e3, tupO (nf (-4) c3).1 (nf (-4) c3).2 t3 u3 k3) :: (S, W.listOf #[.ref s0, .ref s1, .ref s2, .ref s3] kS) :: (s0, tupO (nf (-4) v0).1 (nf (-4) v0).2 t4 u4 k4) :: (s1, tupO (nf (-4) g0).1 (nf (-4) g0).2 t5 u5 k5) :: (s2, tupO (nf (-4) h1).1 (nf (-4) h1).2 t6 u6 k6) :: (s3, tupO (nf (-4) c3).1 (nf (-4) c3).2 t7 u7 k7) :: (Z, tupO zx zy t8 u8 k8) :: (VL, W.listOf vs.toArray kV) :: (w0, tupO (nf (-4) v0).1 (nf (-4) v0).2 t9 u9 k9) :: (wj, tupO (nf (-4) p').1 (nf (-4) p').2 t10 u10 k10) :: news) → Q .next { st with heap := h', toks := tk' }) →
      wpAny (model prog w) (ktrTop dp un gd qual scope L fa cdv (cellsFrom (L + 1) scope.names []) outer) (execs body (envOfC qual scope L fa cdv)) Q E st
theorem t2_spec {prog : Program} {w : World} {mean : ExcName → Option Value} {mg mb : Str → Option Value} : LawTurn 8 (Turn2 prog w mean mg mb) ((Mine.hd.heap_39 w.params).lookup 256) := by
  (have dummy : (PySem.Challenge.rw_tk0005_01.Holds → Frag.In (Mine.hd.heap_39 w.params) default → True) := by (k_fill; intros; trivial))
  clear dummy
  refine' law_turn_of ?e ?h
  (case e => k_dflt k_is)
  unfold LawTurn
  intro cdv
  unfold Turn2
  intro T p q r c3 p' q' r' d d' v0 g0 h1 m0 m1 m2 m3 n0 n1 n2 zx zy tT I G e0 e1 e2 e3 S s0 s1 s2 s3 Z VL w0 wj it vs t0 u0 t1 u1 t2 u2 t3 u3 t4 u4 t5 u5 t6 u6 t7 u7 t8 u8 t9 u9 t10 u10 k0 k1 k2 k3 k4 k5 k6 k7 k8 k9 k10 kG kS kV news dp un gd fa outer A₀ base h₀ L m st Q E x0 x1 x2 x3 x4 x5 x6 x7 x8 x9 x10 x11 x12 x13 x14 x15 x16 x17 x18 x19 x20 x21 x22 x23 x24 x25 x26 x27 x28 x29 x30 x31 x32 x33 x34 x35 x36 x37 x38 x39 x40 x41 x42 x43 x44 x45 x46 T0 T1 B X T' F N hd hu hE hret
  show wpAny _ _ _ _ _ _
  w_top off
  k_steps
  rename Fr _ _ _ _ => FF
  rename News _ _ _ _ => NN
  refine hret _ _ _ _ _ _ _ _ _ _ _ _ _ _ _ _ _ _ _ _ _ (fr_put (fr_put FF ?e1) ?e2) ?e3 (pick5 NN)
  case e1 => rfl
  case e2 => rfl
  case e3 => intro y q1 q2 q3 q4 q5; simp only [if_neg q1, if_neg q2, if_neg q3, if_neg q4, if_neg q5]
end
end Mine
end
section
-- part T3
open PySem PySem.W PySem.Calls PyProof.Rows
namespace Mine
noncomputable section




theorem lines_T3_1 : True := by
  k_with_none
  (k_with "subscriptTail Name Constant ref int" => ((k_here; k_dflt (refine' item_tupleT ?tt31 ?at31 ?bt31 ?ct31 ?dt31 ?_; (case tt31 => exact News.isTup (by k_asm) (by k_extra "mine mem")); (case at31 => decide); (case bt31 => decide); (case ct31 => rfl); (case dt31 => rfl); k_whole))))
  (k_with "mine item" => ((k_here; k_dflt (refine' lst_item ?tt32 ?at32 ?bt32 ?ct32 ?dt32 ?_; (case tt32 => k_asm); (case at32 => k_extra "mine mem"); (case bt32 => first | decide | omega); (case ct32 => first | decide | omega); (case dt32 => rfl); k_whole))))
  (k_with "subscriptTail Name Constant ref int" => (k_extra "mine item"))
  (k_with "subscriptTail Name Name ref int" => (k_extra "mine item"))
  (k_with "subscriptTail Name BinOp ref int" => (k_extra "mine item"))
  (k_with "mine gotb" => ((intro zzh9 zztk9 zzF9 zzN9; (try dsimp only); (try k_fold); (try k_sweep))))
  (k_with "mine mem" => (first | (with_reducible assumption) | exact List.Mem.head _ | (refine' List.mem_cons_of_mem _ ?mmt37; (case mmt37 => k_extra "mine mem"))))
  (k_with "mine need" => (first | exact List.forall_mem_nil _ | (refine' List.forall_mem_cons.mpr (And.intro ?nat38 ?nbt38); (case nat38 => k_mem); (case nbt38 => k_extra "mine need"))))
  (k_with "mine gs" => ((refine' Gd.mk ?k1t39 ?k2t39 ?k3t39 ?k4t39 ?k5t39 ?kKt39 ?kdt39 ?kut39; (case k1t39 => k_asm); (case k2t39 => k_asm); (case k3t39 => k_asm); (case k4t39 => k_asm); (case k5t39 => k_asm); (case kKt39 => first | exact rfl | assumption); (case kdt39 => ktr_room); (case kut39 => ktr_units))))
  (k_with "mine got" => ((intro zzD9 zzt9 zzu9 zzc9 zzh9 zztk9 zzF9 zzN9 zzl9; (try dsimp only); (try k_fold); (try k_sweep))))
  (k_with "mine lt" => (first | assumption | (refine' lt_drop ?ltat311 ?ltbt311; (case ltat311 => assumption); (case ltbt311 => kcj_all))))
  (k_with "mine rt" => ((refine' rt_end ?_ ?_ ?fFt312 ?fNt312 ?fmt312 ?fst312 ?flt312; (case fFt312 => k_asm); (case fNt312 => assumption); (case fmt312 => k_mem); (case fst312 => kcj_all); (case flt312 => k_extra "mine lt"))))
  (k_with "mine ne" => (first | (refine' ne_of_lts ?ltat313 ?ltbt313; (case ltat313 => assumption); (case ltbt313 => kcj_all)) | (refine' ne_of_nes ?ltat313 ?ltbt313; (case ltat313 => assumption); (case ltbt313 => kcj_all))))
  (k_with "mine rn" => ((refine' rn_end ?n0t314 ?n1t314 ?_ ?_ ?n2t314 ?n3t314 ?n4t314 ?n5t314 ?n6t314 ?n7t314 ?n8t314 ?n9t314; (case n0t314 => assumption); (case n1t314 => assumption); (case n2t314 => assumption); (case n3t314 => assumption); (case n4t314 => assumption); (case n5t314 => k_asm); (case n6t314 => assumption); (case n7t314 => k_mem); (case n8t314 => kcj_all); (case n9t314 => k_extra "mine ne"))))
  (k_with "compareOp Eq ref ref" => ((k_here; k_dflt (refine' eq_tt ?cat315 ?cbt315 ?cct315 ?cxt315 ?cyt315 ?cut315 ?_; (case cat315 => k_asm); (case cbt315 => k_mem); (case cct315 => k_mem); (case cxt315 => k_extra "mine same"); (case cyt315 => k_extra "mine same"); (case cut315 => ktr_units)))))
  (k_with "compareOp NotEq ref ref" => ((k_here; k_dflt (refine' ne_tt ?cat316 ?cbt316 ?cct316 ?cxt316 ?cyt316 ?cut316 ?_; (case cat316 => k_asm); (case cbt316 => k_mem); (case cct316 => k_mem); (case cxt316 => k_extra "mine same"); (case cyt316 => k_extra "mine same"); (case cut316 => ktr_units)))))
  (k_with "mine ne2" => (first | (with_reducible assumption) | (refine' Nat.ne_of_lt (lt_mem ?ht317 ?mt317); (case ht317 => (with_reducible assumption)); (case mt317 => k_extra "mine mem")) | (refine' ne_cell ?ht317 ?mt317; (case ht317 => (with_reducible assumption)); (case mt317 => k_extra "mine mem")) | (refine' ne_mem ?ht317 ?mt317; (case ht317 => (with_reducible assumption)); (case mt317 => k_extra "mine mem")) | (refine' ne_mem1 ?ht317 ?mt317; (case ht317 => (with_reducible assumption)); (case mt317 => k_extra "mine mem")) | (refine' (ne_mem3 ?ht317 ?mt317).1; (case ht317 => (with_reducible assumption)); (case mt317 => k_extra "mine mem")) | (refine' (ne_mem3 ?ht317 ?mt317).2.1; (case ht317 => (with_reducible assumption)); (case mt317 => k_extra "mine mem")) | (refine' (ne_mem3 ?ht317 ?mt317).2.2; (case ht317 => (with_reducible assumption)); (case mt317 => k_extra "mine mem"))))
  (k_with "mine kall" => (first | (refine' all_off ?ht318 ?et318; (case ht318 => (with_reducible assumption)); (case et318 => rfl)) | (refine' all_cell ?ht318 ?et318; (case ht318 => (with_reducible assumption)); (case et318 => rfl))))
  (k_with "newList" => ((k_here; k_dflt (refine' newList_K ?k1t319 ?k2t319 ?_; (case k1t319 => k_asm); (case k2t319 => k_asm); k_whole); intro zzl' zzh' zzF' zzN' zzl1; (try k_sweep))))
  (k_with "mine kne" => (((refine neN ?_); (try dsimp only); first | (refine' Nat.ne_of_gt (lt_mem ?ht320 ?mt320); (case ht320 => (with_reducible assumption)); (case mt320 => k_extra "mine mem")) | k_extra "mine ne2" | (refine' Ne.symm ?xt320; (case xt320 => k_extra "mine ne2")) | fail "mine ne")))
  (k_with "mine same" => (exact rfl))
  (k_with "mine vb" => (first | (refine' Hid.out ?hidt322; (case hidt322 => with_reducible assumption)) | decide))
  (k_with "mine hw" => ((refine' Hid.out ?hidt323; (case hidt323 => with_reducible assumption))))
  (k_with "mine is" => (first | (with_reducible refine' is_nf ?iat324 ?ibt324 ?ict324; (case iat324 => decide); (case ibt324 => decide); (case ict324 => k_extra "mine vb")) | (refine' Hid.out ?hidt324; (case hidt324 => with_reducible assumption)) | (with_reducible refine' is_zero ?iat324 ?ibt324; (case iat324 => decide); (case ibt324 => decide))))
  (k_with "mine nfa" => (first | (refine' Hid.out ?hidt325; (case hidt325 => with_reducible assumption)) | (refine' nf_abs ?iat325 ?ibt325 ?ict325; (case iat325 => decide); (case ibt325 => decide); (case ict325 => k_extra "mine vb")) | decide))
  (k_with "mine item" => ((k_here; k_dflt (refine' lst_item ?tt326 ?at326 ?bt326 ?ct326 ?dt326 ?_; (case tt326 => k_asm); (case at326 => k_extra "mine mem"); (case bt326 => k_extra "mine vb"); (case ct326 => k_extra "mine vb"); (case dt326 => first | (refine' Hid.out ?hidt326; (case hidt326 => with_reducible assumption)) | rfl); k_whole))))
  (k_with "mine gotl" => ((intro zzD9 zzf0 zzf1 zzf2 zzt0 zzu0 zzt1 zzu1 zzt2 zzu2 zzc0 zzc1 zzc2 zzc9 zzh9 zztk9 zzF9 zzN9; (try dsimp only); (try k_fold); (try k_sweep))))
  (k_with "call ref" => ((k_here; (with_reducible show wpAny _ _ (call (Value.ref 251) _) _ _ _); k_dflt (refine' sp_rl (back2_spec _ _ _ _ _ _ _ _ _ _ _ _ _ _ _ _ _ _ _ _ _ _ _ _ _ ?w0t328 ?w1t328 ?w2t328 ?b0t328 ?b1t328 ?b2t328 ?b3t328) ?kgt328 ?knt328 ?_; (case kgt328 => k_extra "mine gs"); (case knt328 => k_extra "mine need"); (case w0t328 => (refine' Hid.out ?hidt328; (case hidt328 => with_reducible assumption))); (case w1t328 => (refine' Hid.out ?hidt328; (case hidt328 => with_reducible assumption))); (case w2t328 => (refine' Hid.out ?hidt328; (case hidt328 => with_reducible assumption))); (case b0t328 => (refine' Hid.out ?hidt328; (case hidt328 => with_reducible assumption))); (case b1t328 => (refine' Hid.out ?hidt328; (case hidt328 => with_reducible assumption))); (case b2t328 => (refine' Hid.out ?hidt328; (case hidt328 => with_reducible assumption))); (case b3t328 => (refine' Hid.out ?hidt328; (case hidt328 => with_reducible assumption))); k_extra "mine gotl"))))
  (k_with "call ref" => ((k_here; (with_reducible show wpAny _ _ (call (Value.ref 234) _) _ _ _); k_dflt (refine' sp_rb (is_spec _ _ _ _ _ _ _ _ _ _ _ _ _ _ _ _ _ ?h0t329 ?h1t329 ?h2t329 ?h3t329 ?hbt329 ?hVt329 ?duet329) ?kgt329 ?knt329 ?_; (case kgt329 => k_extra "mine gs"); (case knt329 => k_extra "mine need"); (case h0t329 => k_extra "mine vb"); (case h1t329 => k_extra "mine vb"); (case h2t329 => k_extra "mine vb"); (case h3t329 => k_extra "mine vb"); (case duet329 => (refine' Hid.out ?hidt329; (case hidt329 => with_reducible assumption))); (case hbt329 => k_extra "mine vb"); (case hVt329 => k_extra "mine vb"); k_extra "mine gotb"))))
  trivial
def Turn3 (prog : Program) (w : World) (mean : ExcName → Option Value) (mg mb : Str → Option Value) (body : List Stmt) (qual : Str) (scope : Scope) (cdv : Value) : Prop :=
    ∀ (T p q r c3 p' q' r' a0 a1 a2 a3 b s : Int) (tT tb ts ta0 ta1 ta2 ta3 : Tok) (I G e0 e1 e2 e3 R : Addr) (it : Obj) (t0 u0 t1 u1 t2 u2 t3 u3 : Tok) (k0 k1 k2 k3 kG : Nat) (news : List (Addr × Obj)) (dp un : Nat) (gd : Option (List Code)) (fa : Addr) (outer : List Env) (A₀ : Around) (base h₀ : Heap) (L : Addr) (m : Str → Option Value) (st : Shared) (Q : Flow → Shared → Prop) (E : Value → Shared → Prop),
      Hid (p - (q - (r - c3)) = p') → Hid (q - (r - c3) = q') → Hid (r - c3 = r') → Hid (p.natAbs < 90000000) → Hid (q.natAbs < 90000000) → Hid (r.natAbs < 90000000) → Hid (c3.natAbs < 90000000) → Hid (p'.natAbs < 1000000000) → Hid (a0.natAbs ≤ 1000) → Hid (a1.natAbs ≤ 1000) → Hid (a2.natAbs ≤ 1000) → Hid (a3.natAbs ≤ 1000) → Hid ((b + (4 - T) * s).natAbs ≤ 1000) → Hid (1000 * a0 + 100 * a1 * (b + (4 - T) * s) + 10 * a2 * (b + (4 - T) * s) * (b + (4 - T) * s) + a3 * (b + (4 - T) * s) * (b + (4 - T) * s) * (b + (4 - T) * s) = p') → 0 ≤ T → T ≤ 6 → 1 ≤ s → s ≤ 5 →
      Below A₀ base outer h₀ → Frag.In (Mine.hd.heap_39 w.params) h₀ → Top Mine.hd.view_39 (looseW Mine.hd.view_39 [Str.ofString "BasicError"]) mean mg mb h₀ → Fr h₀ L st.heap (fun y => if y = Str.ofString "turn" then some (.int T tT) else if y = Str.ofString "engine" then some (.ref G) else if y = Str.ofString "rates" then some (.ref R) else if y = Str.ofString "begin" then some (.int b tb) else if y = Str.ofString "stride" then some (.int s ts) else m y) →
      News h₀ L st.heap ((I, it) :: (G, W.listOf #[.ref e0, .ref e1, .ref e2, .ref e3] kG) :: (e0, tupO (nf (-4) p).1 (nf (-4) p).2 t0 u0 k0) :: (e1, tupO (nf (-4) q).1 (nf (-4) q).2 t1 u1 k1) :: (e2, tupO (nf (-4) r).1 (nf (-4) r).2 t2 u2 k2) :: (e3, tupO (nf (-4) c3).1 (nf (-4) c3).2 t3 u3 k3) :: (R, LCg.lst [.int a0 ta0, .int a1 ta1, .int a2 ta2, .int a3 ta3]) :: news) → dp + 20 < recursionLimit → un + 200 < cLine → PassesOwn (model prog w) (ktrTop dp un gd qual scope L fa cdv (cellsFrom (L + 1) scope.names []) outer) (envOfC qual scope L fa cdv) E →
      (∀ (h' : Heap) (tk' : Nat) (G' e0' e1' e2' : Addr) (tt0 uu0 tt1 uu1 tt2 uu2 : Tok) (kk0 kk1 kk2 kG' : Nat) (m' : Str → Option Value), Fr h₀ L h' (fun y => if y = Str.ofString "engine" then some (.ref G') else m' y) → (∀ y, y ≠ Str.ofString "engine" → m' y = (fun y => if y = Str.ofString "turn" then some (.int T tT) else if y = Str.ofString "engine" then some (.ref G) else if y = Str.ofString "rates" then some (.ref R) else if y = Str.ofString "begin" then some (.int b tb) else if y = Str.ofString "stride" then some (.int s ts) else m y) y) →
        News h₀ L h' ((G', W.listOf #[.ref e0', .ref e1', .ref e2', .ref e3] kG') :: (e0', tupO (nf (-4) p').1 (nf (-4) p').2 tt0 uu0 kk0) :: (e1', tupO (nf (-4) q').1 (nf (-4) q').2 tt1 uu1 kk1) :: (e2', tupO (nf (-4) r').1 (nf (-4) r').2 tt2 uu2 kk2) :: (I, it) :: (G, W.listOf #[.ref e0, .ref e1, .ref e2, .ref e3] kG) :: (e0, tupO (nf (-4) p).1 (nf (-4) p).2 t0 u0 k0) :: (e1, tupO (nf (-4) q).1 (nf (-4) q).2 t1 u1 k1) :: (e2, tupO (nf (-4) r).1 (nf (-4) r).2 t2 u2 k2) :: (e3, tupO (nf (-4) c3).1 (nf (-4) c3).2 t3 u3 k3) :: (R, LCg.lst [.int a0 ta0, .int a1 ta1, .int a2 ta2, .int a3 ta3]) :: news) → Q .next { st with heap := h', toks := tk' }) →
      wpAny (model prog w) (ktrTop dp un gd qual scope L fa cdv (cellsFrom (L + 1) scope.names []) outer) (execs body (envOfC qual scope L fa cdv)) Q E st
theorem t3_spec {prog : Program} {w : World} {mean : ExcName → Option Value} {mg mb : Str → Option Value} : LawTurn 9 (Turn3 prog w mean mg mb) ((Mine.hd.heap_39 w.params).lookup 256) := by
  (have dummy : (PySem.Challenge.rw_tk0005_01.Holds → Frag.In (Mine.hd.heap_39 w.params) default → True) := by (k_fill; intros; trivial))
  clear dummy
  refine' law_turn_of ?e ?h
  (case e => k_dflt k_is)
  unfold LawTurn
  intro cdv
  unfold Turn3
  intro T p q r c3 p' q' r' a0 a1 a2 a3 b s tT tb ts ta0 ta1 ta2 ta3 I G e0 e1 e2 e3 R it t0 u0 t1 u1 t2 u2 t3 u3 k0 k1 k2 k3 kG news dp un gd fa outer A₀ base h₀ L m st Q E x0 x1 x2 x3 x4 x5 x6 x7 x8 x9 x10 x11 x12 x13 T0 T1 S0 S1 B X T' F N hd hu hE hret
  show wpAny _ _ _ _ _ _
  w_top off
  k_steps
  rename Fr _ _ _ _ => FF
  rename News _ _ _ _ => NN
  refine hret _ _ _ _ _ _ _ _ _ _ _ _ _ _ _ _ _ (fr_put FF ?e1) ?e3 NN
  case e1 => rfl
  case e3 => intro y q1; simp only [if_neg q1]
end
end Mine
end
section
-- part S2
open PySem PySem.W PySem.Calls PyProof.Rows
namespace Mine
noncomputable section

theorem put_eq {m : Str → Option Value} {x : Str} {v : Option Value} (e : m x = v) : (fun y => if y = x then v else m y) = m := funext fun y => by
  by_cases q : y = x
  · simp only [if_pos q]; rw [q, e]
  · simp only [if_neg q]
theorem put5 {m : Str → Option Value} {x0 x1 x2 x3 x4 : Str} {v0 v1 v2 v3 v4 : Option Value} (e0 : m x0 = v0) (e1 : m x1 = v1) (e2 : m x2 = v2) (e3 : m x3 = v3) (e4 : m x4 = v4) : (fun y => if y = x0 then v0 else if y = x1 then v1 else if y = x2 then v2 else if y = x3 then v3 else if y = x4 then v4 else m y) = m := funext fun y => by
  by_cases q0 : y = x0
  · simp only [if_pos q0]; rw [q0, e0]
  by_cases q1 : y = x1
  · simp only [if_neg q0, if_pos q1]; rw [q1, e1]
  by_cases q2 : y = x2
  · simp only [if_neg q0, if_neg q1, if_pos q2]; rw [q2, e2]
  by_cases q3 : y = x3
  · simp only [if_neg q0, if_neg q1, if_neg q2, if_pos q3]; rw [q3, e3]
  by_cases q4 : y = x4
  · simp only [if_neg q0, if_neg q1, if_neg q2, if_neg q3, if_pos q4]; rw [q4, e4]
  simp only [if_neg q0, if_neg q1, if_neg q2, if_neg q3, if_neg q4]
theorem put3 {m : Str → Option Value} {x0 x1 x2 : Str} {v0 v1 v2 : Option Value} (e0 : m x0 = v0) (e1 : m x1 = v1) (e2 : m x2 = v2) : (fun y => if y = x0 then v0 else if y = x1 then v1 else if y = x2 then v2 else m y) = m := funext fun y => by
  by_cases q0 : y = x0
  · simp only [if_pos q0]; rw [q0, e0]
  by_cases q1 : y = x1
  · simp only [if_neg q0, if_pos q1]; rw [q1, e1]
  by_cases q2 : y = x2
  · simp only [if_neg q0, if_neg q1, if_pos q2]; rw [q2, e2]
  simp only [if_neg q0, if_neg q1, if_neg q2]

theorem step2 {prog : Program} {w : World} {mean : ExcName → Option Value} {mg mb : Str → Option Value} {body : List Stmt} {qual : Str} {scope : Scope} {cdv : Value} (tn : Turn2 prog w mean mg mb body qual scope cdv) (p q r c3 p' q' r' d d' v0 g0 h1 m0 m1 m2 m3 n0 n1 n2 zx zy : Int) (i n k : Nat) (b s : Int) (tb ts : Tok) (S s0 s1 s2 s3 VL w0 w1 w2 w3 w4 w5 wj R e3 : Addr) (I : Addr) (t0 u0 t1 u1 t2 u2 t3 u3 t4 u4 t5 u5 t6 u6 t7 u7 t8 u8 t9 u9 t10 u10 : Tok) (k0 k1 k2 k3 k4 k5 k6 k7 k8 k9 k10 kS kV : Nat) (ow1 ow2 ow3 ow4 ow5 oR : Obj)
    (dp un : Nat) (gd : Option (List Code)) (fa : Addr) (outer : List Env) (A₀ : Around) (base h₀ : Heap) (L : Addr) (st : Shared) (Q : Flow → Shared → Prop) (E : Value → Shared → Prop)
    (x0 : Hid (0 ≤ (0 + (i : Int)) + 1)) (x1 : Hid ((0 + (i : Int)) + 1 < 2 ^ 63)) (x2 : Hid (Is (-4) d zx zy)) (x3 : Hid (zx.natAbs < 1000000000)) (x4 : Hid (zy.natAbs < 1000000000)) (x5 : Hid (d + q = d')) (x6 : Hid (p + q = p')) (x7 : Hid (q + r = q')) (x8 : Hid (r + c3 = r')) (x9 : Hid (v0 + d' = p')) (x10 : Hid (p.natAbs < 90000000)) (x11 : Hid (q.natAbs < 90000000)) (x12 : Hid (r.natAbs < 90000000)) (x13 : Hid (c3.natAbs < 90000000)) (x14 : Hid (p.natAbs < 1000000000)) (x15 : Hid (q.natAbs < 1000000000)) (x16 : Hid (r.natAbs < 1000000000)) (x17 : Hid (c3.natAbs < 1000000000)) (x18 : Hid (p'.natAbs < 1000000000)) (x19 : Hid (q'.natAbs < 1000000000)) (x20 : Hid (r'.natAbs < 1000000000)) (x21 : Hid (d.natAbs < 1000000000)) (x22 : Hid (d'.natAbs < 1000000000)) (x23 : Hid (v0.natAbs < 1000000000)) (x24 : Hid (g0.natAbs < 1000000000)) (x25 : Hid (h1.natAbs < 1000000000)) (x26 : Hid (m0.natAbs < 1000000000)) (x27 : Hid (m1.natAbs < 1000000000)) (x28 : Hid (m2.natAbs < 1000000000)) (x29 : Hid (m3.natAbs < 1000000000)) (x30 : Hid (n0.natAbs < 1000000000)) (x31 : Hid (n1.natAbs < 1000000000)) (x32 : Hid (n2.natAbs < 1000000000)) (x33 : Hid (((1 : Int)).natAbs < 1000000000)) (x34 : Hid ((((1 : Int) * ((0 + (i : Int)) + 1 - (0 + ((0 : Nat) : Int)))).fdiv (0 + ((0 : Nat) : Int) + 1)).natAbs < 1000000000)) (x35 : Hid (((((1 : Int) * ((0 + (i : Int)) + 1 - (0 + ((0 : Nat) : Int)))).fdiv (0 + ((0 : Nat) : Int) + 1) * ((0 + (i : Int)) + 1 - (0 + ((0 + 1 : Nat) : Int)))).fdiv (0 + ((0 + 1 : Nat) : Int) + 1)).natAbs < 1000000000)) (x36 : Hid ((((((1 : Int) * ((0 + (i : Int)) + 1 - (0 + ((0 : Nat) : Int)))).fdiv (0 + ((0 : Nat) : Int) + 1) * ((0 + (i : Int)) + 1 - (0 + ((0 + 1 : Nat) : Int)))).fdiv (0 + ((0 + 1 : Nat) : Int) + 1) * ((0 + (i : Int)) + 1 - (0 + ((0 + 1 + 1 : Nat) : Int)))).fdiv (0 + ((0 + 1 + 1 : Nat) : Int) + 1)).natAbs < 1000000000)) (x37 : Hid (v0 * ((1 : Int)) = m0)) (x38 : Hid (g0 * (((1 : Int) * ((0 + (i : Int)) + 1 - (0 + ((0 : Nat) : Int)))).fdiv (0 + ((0 : Nat) : Int) + 1)) = m1)) (x39 : Hid (h1 * ((((1 : Int) * ((0 + (i : Int)) + 1 - (0 + ((0 : Nat) : Int)))).fdiv (0 + ((0 : Nat) : Int) + 1) * ((0 + (i : Int)) + 1 - (0 + ((0 + 1 : Nat) : Int)))).fdiv (0 + ((0 + 1 : Nat) : Int) + 1)) = m2)) (x40 : Hid (c3 * (((((1 : Int) * ((0 + (i : Int)) + 1 - (0 + ((0 : Nat) : Int)))).fdiv (0 + ((0 : Nat) : Int) + 1) * ((0 + (i : Int)) + 1 - (0 + ((0 + 1 : Nat) : Int)))).fdiv (0 + ((0 + 1 : Nat) : Int) + 1) * ((0 + (i : Int)) + 1 - (0 + ((0 + 1 + 1 : Nat) : Int)))).fdiv (0 + ((0 + 1 + 1 : Nat) : Int) + 1)) = m3)) (x41 : Hid (0 + m0 = n0)) (x42 : Hid (n0 + m1 = n1)) (x43 : Hid (n1 + m2 = n2)) (x44 : Hid (n2 + m3 = p')) (y0 : Hid ([Value.ref w0, .ref w1, .ref w2, .ref w3, .ref w4, .ref w5][Int.toNat 0]? = some (.ref w0))) (y1 : Hid ([Value.ref w0, .ref w1, .ref w2, .ref w3, .ref w4, .ref w5][((0 + (i : Int)) + 1).toNat]? = some (.ref wj)))
    (hw : ((wj, tupO (nf (-4) p').1 (nf (-4) p').2 t10 u10 k10) : Addr × Obj) ∈ [(w1, ow1), (w2, ow2), (w3, ow3), (w4, ow4), (w5, ow5)]) (hc1 : ow1.cls = .type "tuple") (hc2 : ow2.cls = .type "tuple") (hc3 : ow3.cls = .type "tuple") (hc4 : ow4.cls = .type "tuple") (hc5 : ow5.cls = .type "tuple") (hcR : oR.cls = .type "list")
    (T0 : 0 ≤ (0 + (i : Int))) (T1 : (0 + (i : Int)) ≤ 4)
    (B : Below A₀ base outer h₀) (X : Frag.In (Mine.hd.heap_39 w.params) h₀) (T' : Top Mine.hd.view_39 (looseW Mine.hd.view_39 [Str.ofString "BasicError"]) mean mg mb h₀) (hd : dp + 20 < recursionLimit) (hu : un + 200 < cLine) (hE : PassesOwn (model prog w) (ktrTop dp un gd qual scope L fa cdv (cellsFrom (L + 1) scope.names []) outer) (envOfC qual scope L fa cdv) E)
    (next : ∀ (G' e0' e1' e2' Z' : Addr) (tt0 uu0 tt1 uu1 tt2 uu2 tt3 uu3 : Tok) (kk0 kk1 kk2 kk3 kG' : Nat) (m' : Str → Option Value), RangeRest prog w (ktrTop dp un gd qual scope L fa cdv (cellsFrom (L + 1) scope.names []) outer) E h₀ (envOfC qual scope L fa cdv) (Str.ofString "turn") body Q st I 0 n k (i + 1) (fun y => if y = Str.ofString "engine" then some (.ref G') else if y = Str.ofString "total" then some (.ref Z') else if y = Str.ofString "start" then some (.ref S) else if y = Str.ofString "values" then some (.ref VL) else if y = Str.ofString "rates" then some (.ref R) else if y = Str.ofString "begin" then some (.int b tb) else if y = Str.ofString "stride" then some (.int s ts) else m' y) ([(G', W.listOf #[.ref e0', .ref e1', .ref e2', .ref e3] kG'), (e0', tupO (nf (-4) p').1 (nf (-4) p').2 tt0 uu0 kk0), (e1', tupO (nf (-4) q').1 (nf (-4) q').2 tt1 uu1 kk1), (e2', tupO (nf (-4) r').1 (nf (-4) r').2 tt2 uu2 kk2), (e3, tupO (nf (-4) c3).1 (nf (-4) c3).2 t3 u3 k3), (S, W.listOf #[.ref s0, .ref s1, .ref s2, .ref s3] kS), (s0, tupO (nf (-4) v0).1 (nf (-4) v0).2 t4 u4 k4), (s1, tupO (nf (-4) g0).1 (nf (-4) g0).2 t5 u5 k5), (s2, tupO (nf (-4) h1).1 (nf (-4) h1).2 t6 u6 k6), (s3, tupO (nf (-4) c3).1 (nf (-4) c3).2 t7 u7 k7), (Z', tupO (nf (-4) d').1 (nf (-4) d').2 tt3 uu3 kk3), (VL, W.listOf #[.ref w0, .ref w1, .ref w2, .ref w3, .ref w4, .ref w5] kV), (w0, tupO (nf (-4) v0).1 (nf (-4) v0).2 t9 u9 k9), (w1, ow1), (w2, ow2), (w3, ow3), (w4, ow4), (w5, ow5), (R, oR)] : List (Addr × Obj)))
    (G e0 e1 e2 Z : Addr) (kG : Nat) (mm : Str → Option Value) :
    RangeRest prog w (ktrTop dp un gd qual scope L fa cdv (cellsFrom (L + 1) scope.names []) outer) E h₀ (envOfC qual scope L fa cdv) (Str.ofString "turn") body Q st I 0 n (k + 1) i (fun y => if y = Str.ofString "engine" then some (.ref G) else if y = Str.ofString "total" then some (.ref Z) else if y = Str.ofString "start" then some (.ref S) else if y = Str.ofString "values" then some (.ref VL) else if y = Str.ofString "rates" then some (.ref R) else if y = Str.ofString "begin" then some (.int b tb) else if y = Str.ofString "stride" then some (.int s ts) else mm y) ([(G, W.listOf #[.ref e0, .ref e1, .ref e2, .ref e3] kG), (e0, tupO (nf (-4) p).1 (nf (-4) p).2 t0 u0 k0), (e1, tupO (nf (-4) q).1 (nf (-4) q).2 t1 u1 k1), (e2, tupO (nf (-4) r).1 (nf (-4) r).2 t2 u2 k2), (e3, tupO (nf (-4) c3).1 (nf (-4) c3).2 t3 u3 k3), (S, W.listOf #[.ref s0, .ref s1, .ref s2, .ref s3] kS), (s0, tupO (nf (-4) v0).1 (nf (-4) v0).2 t4 u4 k4), (s1, tupO (nf (-4) g0).1 (nf (-4) g0).2 t5 u5 k5), (s2, tupO (nf (-4) h1).1 (nf (-4) h1).2 t6 u6 k6), (s3, tupO (nf (-4) c3).1 (nf (-4) c3).2 t7 u7 k7), (Z, tupO zx zy t8 u8 k8), (VL, W.listOf #[.ref w0, .ref w1, .ref w2, .ref w3, .ref w4, .ref w5] kV), (w0, tupO (nf (-4) v0).1 (nf (-4) v0).2 t9 u9 k9), (w1, ow1), (w2, ow2), (w3, ow3), (w4, ow4), (w5, ow5), (R, oR)] : List (Addr × Obj)) := by
  refine RangeRest.succ fun t h tk F N => ?_
  have N1 : News h₀ L h ((I, itR (0 + ((i + 1 : Nat) : Int)) ((n : Int) - ((i + 1 : Nat) : Int))) :: (G, W.listOf #[.ref e0, .ref e1, .ref e2, .ref e3] kG) :: (e0, tupO (nf (-4) p).1 (nf (-4) p).2 t0 u0 k0) :: (e1, tupO (nf (-4) q).1 (nf (-4) q).2 t1 u1 k1) :: (e2, tupO (nf (-4) r).1 (nf (-4) r).2 t2 u2 k2) :: (e3, tupO (nf (-4) c3).1 (nf (-4) c3).2 t3 u3 k3) :: (S, W.listOf #[.ref s0, .ref s1, .ref s2, .ref s3] kS) :: (s0, tupO (nf (-4) v0).1 (nf (-4) v0).2 t4 u4 k4) :: (s1, tupO (nf (-4) g0).1 (nf (-4) g0).2 t5 u5 k5) :: (s2, tupO (nf (-4) h1).1 (nf (-4) h1).2 t6 u6 k6) :: (s3, tupO (nf (-4) c3).1 (nf (-4) c3).2 t7 u7 k7) :: (Z, tupO zx zy t8 u8 k8) :: (VL, W.listOf [Value.ref w0, .ref w1, .ref w2, .ref w3, .ref w4, .ref w5].toArray kV) :: (w0, tupO (nf (-4) v0).1 (nf (-4) v0).2 t9 u9 k9) :: (wj, tupO (nf (-4) p').1 (nf (-4) p').2 t10 u10 k10) :: [(w1, ow1), (w2, ow2), (w3, ow3), (w4, ow4), (w5, ow5), (R, oR)]) := fun a ha => N a (by
    rcases List.mem_cons.mp ha with rfl | ha
    · exact .head _
    iterate 13
      rcases List.mem_cons.mp ha with rfl | ha
      · k_mem
    rcases List.mem_cons.mp ha with rfl | ha
    · exact List.mem_append_left (bs := [(R, oR)]) (show ((wj, tupO (nf (-4) p').1 (nf (-4) p').2 t10 u10 k10) : Addr × Obj) ∈ ([(I, itR (0 + ((i + 1 : Nat) : Int)) ((n : Int) - ((i + 1 : Nat) : Int))), (G, W.listOf #[.ref e0, .ref e1, .ref e2, .ref e3] kG), (e0, tupO (nf (-4) p).1 (nf (-4) p).2 t0 u0 k0), (e1, tupO (nf (-4) q).1 (nf (-4) q).2 t1 u1 k1), (e2, tupO (nf (-4) r).1 (nf (-4) r).2 t2 u2 k2), (e3, tupO (nf (-4) c3).1 (nf (-4) c3).2 t3 u3 k3), (S, W.listOf #[.ref s0, .ref s1, .ref s2, .ref s3] kS), (s0, tupO (nf (-4) v0).1 (nf (-4) v0).2 t4 u4 k4), (s1, tupO (nf (-4) g0).1 (nf (-4) g0).2 t5 u5 k5), (s2, tupO (nf (-4) h1).1 (nf (-4) h1).2 t6 u6 k6), (s3, tupO (nf (-4) c3).1 (nf (-4) c3).2 t7 u7 k7), (Z, tupO zx zy t8 u8 k8), (VL, W.listOf #[.ref w0, .ref w1, .ref w2, .ref w3, .ref w4, .ref w5] kV), (w0, tupO (nf (-4) v0).1 (nf (-4) v0).2 t9 u9 k9)] ++ [(w1, ow1), (w2, ow2), (w3, ow3), (w4, ow4), (w5, ow5)] : List (Addr × Obj)) from List.mem_append_right _ hw)
    iterate 6
      rcases List.mem_cons.mp ha with rfl | ha
      · k_mem
    cases ha)
  refine tn (0 + (i : Int)) p q r c3 p' q' r' d d' v0 g0 h1 m0 m1 m2 m3 n0 n1 n2 zx zy t I G e0 e1 e2 e3 S s0 s1 s2 s3 Z VL w0 wj _ _ t0 u0 t1 u1 t2 u2 t3 u3 t4 u4 t5 u5 t6 u6 t7 u7 t8 u8 t9 u9 t10 u10 k0 k1 k2 k3 k4 k5 k6 k7 k8 k9 k10 kG kS kV _ dp un gd fa outer A₀ base h₀ L (fun y => if y = Str.ofString "rates" then some (.ref R) else if y = Str.ofString "begin" then some (.int b tb) else if y = Str.ofString "stride" then some (.int s ts) else mm y) _ _ E x0 x1 x2 x3 x4 x5 x6 x7 x8 x9 x10 x11 x12 x13 x14 x15 x16 x17 x18 x19 x20 x21 x22 x23 x24 x25 x26 x27 x28 x29 x30 x31 x32 x33 x34 x35 x36 x37 x38 x39 x40 x41 x42 x43 x44 y0 y1 T0 T1 B X T' F N1 hd hu hE ?_
  intro h' tk' G' e0' e1' e2' Z' tt0 uu0 tt1 uu1 tt2 uu2 tt3 uu3 kk0 kk1 kk2 kk3 kG' m' F' em' N'
  have hm : (fun y => if y = Str.ofString "start" then some (.ref S) else if y = Str.ofString "values" then some (.ref VL) else if y = Str.ofString "rates" then some (.ref R) else if y = Str.ofString "begin" then some (.int b tb) else if y = Str.ofString "stride" then some (.int s ts) else m' y) = m' := put5 ((em' _ (by decide) (by decide) (by decide) (by decide) (by decide)).trans rfl) ((em' _ (by decide) (by decide) (by decide) (by decide) (by decide)).trans rfl) ((em' _ (by decide) (by decide) (by decide) (by decide) (by decide)).trans rfl) ((em' _ (by decide) (by decide) (by decide) (by decide) (by decide)).trans rfl) ((em' _ (by decide) (by decide) (by decide) (by decide) (by decide)).trans rfl)
  have F2 : Fr h₀ L h' (fun y => if y = Str.ofString "engine" then some (.ref G') else if y = Str.ofString "total" then some (.ref Z') else if y = Str.ofString "start" then some (.ref S) else if y = Str.ofString "values" then some (.ref VL) else if y = Str.ofString "rates" then some (.ref R) else if y = Str.ofString "begin" then some (.int b tb) else if y = Str.ofString "stride" then some (.int s ts) else m' y) := by
    have e : (fun y => if y = Str.ofString "engine" then some (.ref G') else if y = Str.ofString "total" then some (.ref Z') else if y = Str.ofString "start" then some (.ref S) else if y = Str.ofString "values" then some (.ref VL) else if y = Str.ofString "rates" then some (.ref R) else if y = Str.ofString "begin" then some (.int b tb) else if y = Str.ofString "stride" then some (.int s ts) else m' y) = (fun y => if y = Str.ofString "engine" then some (.ref G') else if y = Str.ofString "total" then some (.ref Z') else m' y) := funext fun y => by
      have := congrFun hm y
      try dsimp only at this
      rw [this]
    rw [e]; exact F'
  show UnrEnd _ _ _ _ _ _ _
  refine UnrEnd.intro2 F2 N' [(G', W.listOf #[.ref e0', .ref e1', .ref e2', .ref e3] kG'), (e0', tupO (nf (-4) p').1 (nf (-4) p').2 tt0 uu0 kk0), (e1', tupO (nf (-4) q').1 (nf (-4) q').2 tt1 uu1 kk1), (e2', tupO (nf (-4) r').1 (nf (-4) r').2 tt2 uu2 kk2), (e3, tupO (nf (-4) c3).1 (nf (-4) c3).2 t3 u3 k3), (S, W.listOf #[.ref s0, .ref s1, .ref s2, .ref s3] kS), (s0, tupO (nf (-4) v0).1 (nf (-4) v0).2 t4 u4 k4), (s1, tupO (nf (-4) g0).1 (nf (-4) g0).2 t5 u5 k5), (s2, tupO (nf (-4) h1).1 (nf (-4) h1).2 t6 u6 k6), (s3, tupO (nf (-4) c3).1 (nf (-4) c3).2 t7 u7 k7), (Z', tupO (nf (-4) d').1 (nf (-4) d').2 tt3 uu3 kk3), (VL, W.listOf #[.ref w0, .ref w1, .ref w2, .ref w3, .ref w4, .ref w5] kV), (w0, tupO (nf (-4) v0).1 (nf (-4) v0).2 t9 u9 k9), (w1, ow1), (w2, ow2), (w3, ow3), (w4, ow4), (w5, ow5), (R, oR)] (by k_mem) (by k_subL) ?_ (next G' e0' e1' e2' Z' tt0 uu0 tt1 uu1 tt2 uu2 tt3 uu3 kk0 kk1 kk2 kk3 kG' m')
  refine ⟨?_, ?_, ?_, ?_, ?_, ?_, ?_, ?_, ?_, ?_, ?_, ?_, ?_, ?_, ?_, ?_, ?_, ?_, ?_, trivial⟩
  all_goals first | k_cls | (show Obj.cls _ ≠ Obj.cls _; first | (rw [hc1]; exact fun e => absurd (Value.type.inj e) (by decide)) | (rw [hc2]; exact fun e => absurd (Value.type.inj e) (by decide)) | (rw [hc3]; exact fun e => absurd (Value.type.inj e) (by decide)) | (rw [hc4]; exact fun e => absurd (Value.type.inj e) (by decide)) | (rw [hc5]; exact fun e => absurd (Value.type.inj e) (by decide)) | (rw [hcR]; exact fun e => absurd (Value.type.inj e) (by decide)))
theorem put4 {m : Str → Option Value} {x0 x1 x2 x3 : Str} {v0 v1 v2 v3 : Option Value} (e0 : m x0 = v0) (e1 : m x1 = v1) (e2 : m x2 = v2) (e3 : m x3 = v3) : (fun y => if y = x0 then v0 else if y = x1 then v1 else if y = x2 then v2 else if y = x3 then v3 else m y) = m := funext fun y => by
  by_cases q0 : y = x0
  · simp only [if_pos q0]; rw [q0, e0]
  by_cases q1 : y = x1
  · simp only [if_neg q0, if_pos q1]; rw [q1, e1]
  by_cases q2 : y = x2
  · simp only [if_neg q0, if_neg q1, if_pos q2]; rw [q2, e2]
  by_cases q3 : y = x3
  · simp only [if_neg q0, if_neg q1, if_neg q2, if_pos q3]; rw [q3, e3]
  simp only [if_neg q0, if_neg q1, if_neg q2, if_neg q3]

theorem nf_e9 {k n : Int} (hk : k ≤ 0) (hk' : -50 ≤ k) (hb : n.natAbs < 1000000000) : (nf k n).2.natAbs < 1000000000 := by
  have h1 := is_nf hk hk' hb
  obtain ⟨j, he, _, hj⟩ := h1
  omega
theorem mbd {a c : Int} (ha : a.natAbs < 16000000) (hc : c.natAbs ≤ 10) : (a * c).natAbs ≤ 160000000 := mul_bd (Nat.le_of_lt ha) hc (by decide)
theorem abd {x y : Int} {m : Nat} (hx : x.natAbs ≤ m) (hy : y.natAbs ≤ 160000000) : (x + y).natAbs ≤ m + 160000000 := by omega
theorem xbd {T b s : Int} (hb : b.natAbs ≤ 9) (S0 : 1 ≤ s) (S1 : s ≤ 5) (T0 : 0 ≤ T) (T1 : T ≤ 6) : (b + (4 - T) * s).natAbs ≤ 1000 := by
  have q1 : s.natAbs ≤ 5 := by omega
  have q2 : (4 - T).natAbs ≤ 4 := by omega
  have q3 : ((4 - T) * s).natAbs ≤ 20 := mul_bd q2 q1 (by decide)
  omega
theorem loop2 {prog : Program} {w : World} {mean : ExcName → Option Value} {mg mb : Str → Option Value} {body : List Stmt} {qual : Str} {scope : Scope} {cdv : Value} (tn : Turn2 prog w mean mg mb body qual scope cdv) (v f1 f2 d : Int → Int) (c3 b s : Int) (tb ts : Tok) (I G e0 e1 e2 e3 Z VL w0 w1 w2 w3 w4 w5 R : Addr) (t0 u0 t1 u1 t2 u2 t3 u3 t8 u8 tw0 uw0 tw1 uw1 tw2 uw2 tw3 uw3 tw4 uw4 tw5 uw5 : Tok) (k0 k1 k2 k3 k8 kG kV kw0 kw1 kw2 kw3 kw4 kw5 : Nat) (oR : Obj) (hcR : oR.cls = .type "list") (dp un : Nat) (gd : Option (List Code)) (fa : Addr) (outer : List Env) (A₀ : Around) (base h₀ : Heap) (L : Addr) (st : Shared) (Q : Flow → Shared → Prop) (E : Value → Shared → Prop) (B : Below A₀ base outer h₀) (X : Frag.In (Mine.hd.heap_39 w.params) h₀) (T' : Top Mine.hd.view_39 (looseW Mine.hd.view_39 [Str.ofString "BasicError"]) mean mg mb h₀) (hd : dp + 20 < recursionLimit) (hu : un + 200 < cLine) (hE : PassesOwn (model prog w) (ktrTop dp un gd qual scope L fa cdv (cellsFrom (L + 1) scope.names []) outer) (envOfC qual scope L fa cdv) E)
    (on0_0 : v 0 + f1 0 = v 1) (on1_0 : f1 0 + f2 0 = f1 1) (on2_0 : f2 0 + c3 = f2 1) (on0_1 : v 1 + f1 1 = v 2) (on1_1 : f1 1 + f2 1 = f1 2) (on2_1 : f2 1 + c3 = f2 2) (on0_2 : v 2 + f1 2 = v 3) (on1_2 : f1 2 + f2 2 = f1 3) (on2_2 : f2 2 + c3 = f2 3) (on0_3 : v 3 + f1 3 = v 4) (on1_3 : f1 3 + f2 3 = f1 4) (on2_3 : f2 3 + c3 = f2 4) (on0_4 : v 4 + f1 4 = v 5) (on1_4 : f1 4 + f2 4 = f1 5) (on2_4 : f2 4 + c3 = f2 5) (bk2_5 : f2 5 - c3 = f2 4) (bk1_5 : f1 5 - (f2 5 - c3) = f1 4) (bk0_5 : v 5 - (f1 5 - (f2 5 - c3)) = v 4) (bk2_4 : f2 4 - c3 = f2 3) (bk1_4 : f1 4 - (f2 4 - c3) = f1 3) (bk0_4 : v 4 - (f1 4 - (f2 4 - c3)) = v 3) (bk2_3 : f2 3 - c3 = f2 2) (bk1_3 : f1 3 - (f2 3 - c3) = f1 2) (bk0_3 : v 3 - (f1 3 - (f2 3 - c3)) = v 2) (bk2_2 : f2 2 - c3 = f2 1) (bk1_2 : f1 2 - (f2 2 - c3) = f1 1) (bk0_2 : v 2 - (f1 2 - (f2 2 - c3)) = v 1) (bk2_1 : f2 1 - c3 = f2 0) (bk1_1 : f1 1 - (f2 1 - c3) = f1 0) (bk0_1 : v 1 - (f1 1 - (f2 1 - c3)) = v 0) (bk2_0 : f2 0 - c3 = f2 (-1)) (bk1_0 : f1 0 - (f2 0 - c3) = f1 (-1)) (bk0_0 : v 0 - (f1 0 - (f2 0 - c3)) = v (-1)) (bk2_m1 : f2 (-1) - c3 = f2 (-2)) (bk1_m1 : f1 (-1) - (f2 (-1) - c3) = f1 (-2)) (bk0_m1 : v (-1) - (f1 (-1) - (f2 (-1) - c3)) = v (-2)) (di1 : (v 1 - v 0) = f1 0) (di2 : ((v 2 - v 1) - (v 1 - v 0)) = f2 0) (di3 : (((v 3 - v 2) - (v 2 - v 1)) - ((v 2 - v 1) - (v 1 - v 0))) = c3) (di4 : ((((v 4 - v 3) - (v 3 - v 2)) - ((v 3 - v 2) - (v 2 - v 1))) - (((v 3 - v 2) - (v 2 - v 1)) - ((v 2 - v 1) - (v 1 - v 0)))) = 0) (di5 : (((((v 5 - v 4) - (v 4 - v 3)) - ((v 4 - v 3) - (v 3 - v 2))) - (((v 4 - v 3) - (v 3 - v 2)) - ((v 3 - v 2) - (v 2 - v 1)))) - ((((v 4 - v 3) - (v 3 - v 2)) - ((v 3 - v 2) - (v 2 - v 1))) - (((v 3 - v 2) - (v 2 - v 1)) - ((v 2 - v 1) - (v 1 - v 0))))) = 0) (to0 : 0 + f1 0 = d 1) (to1 : d 1 + f1 1 = d 2) (to2 : d 2 + f1 2 = d 3) (to3 : d 3 + f1 3 = d 4) (to4 : d 4 + f1 4 = d 5) (tv1 : v 0 + d 1 = v 1) (tv2 : v 0 + d 2 = v 2) (tv3 : v 0 + d 3 = v 3) (tv4 : v 0 + d 4 = v 4) (tv5 : v 0 + d 5 = v 5) (nw1 : 0 + v 0 * 1 + f1 0 * 1 + f2 0 * 0 + c3 * 0 = v 1) (nw2 : 0 + v 0 * 1 + f1 0 * 2 + f2 0 * 1 + c3 * 0 = v 2) (nw3 : 0 + v 0 * 1 + f1 0 * 3 + f2 0 * 3 + c3 * 1 = v 3) (nw4 : 0 + v 0 * 1 + f1 0 * 4 + f2 0 * 6 + c3 * 4 = v 4) (nw5 : 0 + v 0 * 1 + f1 0 * 5 + f2 0 * 10 + c3 * 10 = v 5) (bv0 : (v (-2)).natAbs < 4000000) (bv1 : (v (-1)).natAbs < 4000000) (bv2 : (v 0).natAbs < 4000000) (bv3 : (v 1).natAbs < 4000000) (bv4 : (v 2).natAbs < 4000000) (bv5 : (v 3).natAbs < 4000000) (bv6 : (v 4).natAbs < 4000000) (bv7 : (v 5).natAbs < 4000000) (b10 : (f1 (-2)).natAbs < 8000000) (b20 : (f2 (-2)).natAbs < 16000000) (b11 : (f1 (-1)).natAbs < 8000000) (b21 : (f2 (-1)).natAbs < 16000000) (b12 : (f1 0).natAbs < 8000000) (b22 : (f2 0).natAbs < 16000000) (b13 : (f1 1).natAbs < 8000000) (b23 : (f2 1).natAbs < 16000000) (b14 : (f1 2).natAbs < 8000000) (b24 : (f2 2).natAbs < 16000000) (b15 : (f1 3).natAbs < 8000000) (b25 : (f2 3).natAbs < 16000000) (b16 : (f1 4).natAbs < 8000000) (b26 : (f2 4).natAbs < 16000000) (b17 : (f1 5).natAbs < 8000000) (b27 : (f2 5).natAbs < 16000000) (b3 : c3.natAbs < 7000) (bd1 : (d 1).natAbs < 8000000) (bd2 : (d 2).natAbs < 8000000) (bd3 : (d 3).natAbs < 8000000) (bd4 : (d 4).natAbs < 8000000) (bd5 : (d 5).natAbs < 8000000)
    (hQ : ∀ (G' e0' e1' e2' : Addr) (tt0 uu0 tt1 uu1 tt2 uu2 : Tok) (kk0 kk1 kk2 kG' : Nat) (mm : Str → Option Value) (h : Heap) (tk : Nat), Fr h₀ L h (fun y => if y = Str.ofString "engine" then some (.ref G') else if y = Str.ofString "rates" then some (.ref R) else if y = Str.ofString "begin" then some (.int b tb) else if y = Str.ofString "stride" then some (.int s ts) else mm y) → News h₀ L h [(G', W.listOf #[.ref e0', .ref e1', .ref e2', .ref e3] kG'), (e0', tupO (nf (-4) (v 5)).1 (nf (-4) (v 5)).2 tt0 uu0 kk0), (e1', tupO (nf (-4) (f1 5)).1 (nf (-4) (f1 5)).2 tt1 uu1 kk1), (e2', tupO (nf (-4) (f2 5)).1 (nf (-4) (f2 5)).2 tt2 uu2 kk2), (e3, tupO (nf (-4) c3).1 (nf (-4) c3).2 t3 u3 k3), (R, oR)] → Q .next { st with heap := h, toks := tk }) (mm : Str → Option Value) :
    RangeRest prog w (ktrTop dp un gd qual scope L fa cdv (cellsFrom (L + 1) scope.names []) outer) E h₀ (envOfC qual scope L fa cdv) (Str.ofString "turn") body Q st I 0 5 5 0 (fun y => if y = Str.ofString "engine" then some (.ref G) else if y = Str.ofString "total" then some (.ref Z) else if y = Str.ofString "start" then some (.ref G) else if y = Str.ofString "values" then some (.ref VL) else if y = Str.ofString "rates" then some (.ref R) else if y = Str.ofString "begin" then some (.int b tb) else if y = Str.ofString "stride" then some (.int s ts) else mm y) ([(G, W.listOf #[.ref e0, .ref e1, .ref e2, .ref e3] kG), (e0, tupO (nf (-4) (v 0)).1 (nf (-4) (v 0)).2 t0 u0 k0), (e1, tupO (nf (-4) (f1 0)).1 (nf (-4) (f1 0)).2 t1 u1 k1), (e2, tupO (nf (-4) (f2 0)).1 (nf (-4) (f2 0)).2 t2 u2 k2), (e3, tupO (nf (-4) c3).1 (nf (-4) c3).2 t3 u3 k3), (G, W.listOf #[.ref e0, .ref e1, .ref e2, .ref e3] kG), (e0, tupO (nf (-4) (v 0)).1 (nf (-4) (v 0)).2 t0 u0 k0), (e1, tupO (nf (-4) (f1 0)).1 (nf (-4) (f1 0)).2 t1 u1 k1), (e2, tupO (nf (-4) (f2 0)).1 (nf (-4) (f2 0)).2 t2 u2 k2), (e3, tupO (nf (-4) c3).1 (nf (-4) c3).2 t3 u3 k3), (Z, tupO 0 0 t8 u8 k8), (VL, W.listOf #[.ref w0, .ref w1, .ref w2, .ref w3, .ref w4, .ref w5] kV), (w0, tupO (nf (-4) (v 0)).1 (nf (-4) (v 0)).2 tw0 uw0 kw0), (w1, tupO (nf (-4) (v 1)).1 (nf (-4) (v 1)).2 tw1 uw1 kw1), (w2, tupO (nf (-4) (v 2)).1 (nf (-4) (v 2)).2 tw2 uw2 kw2), (w3, tupO (nf (-4) (v 3)).1 (nf (-4) (v 3)).2 tw3 uw3 kw3), (w4, tupO (nf (-4) (v 4)).1 (nf (-4) (v 4)).2 tw4 uw4 kw4), (w5, tupO (nf (-4) (v 5)).1 (nf (-4) (v 5)).2 tw5 uw5 kw5), (R, oR)] : List (Addr × Obj)) := by
  refine step2 tn (v 0) (f1 0) (f2 0) (c3) (v 1) (f1 1) (f2 1) (0) (d 1) (v 0) (f1 0) (f2 0) (v 0 * 1) (f1 0 * 1) (f2 0 * 0) (c3 * 0) (0 + v 0 * 1) (0 + v 0 * 1 + f1 0 * 1) (0 + v 0 * 1 + f1 0 * 1 + f2 0 * 0) (0) (0) (0) 5 _ b s tb ts G e0 e1 e2 e3 VL w0 w1 w2 w3 w4 w5 w1 R e3 I _ _ _ _ _ _ _ _ _ _ _ _ _ _ _ _ _ _ tw0 uw0 tw1 uw1 _ _ _ _ _ _ _ _ _ kw0 kw1 _ _ _ _ _ _ _ oR dp un gd fa outer A₀ base h₀ L st Q E ⟨by decide⟩ ⟨by decide⟩ ⟨is_zero (by decide) (by decide)⟩ ⟨by decide⟩ ⟨by decide⟩ ⟨to0⟩ ⟨on0_0⟩ ⟨on1_0⟩ ⟨on2_0⟩ ⟨tv1⟩ ⟨Nat.lt_trans bv2 (by decide)⟩ ⟨Nat.lt_trans b12 (by decide)⟩ ⟨Nat.lt_trans b22 (by decide)⟩ ⟨Nat.lt_trans b3 (by decide)⟩ ⟨Nat.lt_trans bv2 (by decide)⟩ ⟨Nat.lt_trans b12 (by decide)⟩ ⟨Nat.lt_trans b22 (by decide)⟩ ⟨Nat.lt_trans b3 (by decide)⟩ ⟨Nat.lt_trans bv3 (by decide)⟩ ⟨Nat.lt_trans b13 (by decide)⟩ ⟨Nat.lt_trans b23 (by decide)⟩ ⟨by decide⟩ ⟨Nat.lt_trans bd1 (by decide)⟩ ⟨Nat.lt_trans bv2 (by decide)⟩ ⟨Nat.lt_trans b12 (by decide)⟩ ⟨Nat.lt_trans b22 (by decide)⟩ ⟨Nat.lt_of_le_of_lt (mbd (c := 1) (Nat.lt_of_lt_of_le bv2 (by decide)) (by decide)) (by decide)⟩ ⟨Nat.lt_of_le_of_lt (mbd (c := 1) (Nat.lt_of_lt_of_le b12 (by decide)) (by decide)) (by decide)⟩ ⟨Nat.lt_of_le_of_lt (mbd (c := 0) (Nat.lt_of_lt_of_le b22 (by decide)) (by decide)) (by decide)⟩ ⟨Nat.lt_of_le_of_lt (mbd (c := 0) (Nat.lt_of_lt_of_le b3 (by decide)) (by decide)) (by decide)⟩ ⟨Nat.lt_of_le_of_lt (abd (x := 0) (m := 0) (by decide) (mbd (c := 1) (Nat.lt_of_lt_of_le bv2 (by decide)) (by decide))) (by decide)⟩ ⟨Nat.lt_of_le_of_lt (abd (abd (x := 0) (m := 0) (by decide) (mbd (c := 1) (Nat.lt_of_lt_of_le bv2 (by decide)) (by decide))) (mbd (c := 1) (Nat.lt_of_lt_of_le b12 (by decide)) (by decide))) (by decide)⟩ ⟨Nat.lt_of_le_of_lt (abd (abd (abd (x := 0) (m := 0) (by decide) (mbd (c := 1) (Nat.lt_of_lt_of_le bv2 (by decide)) (by decide))) (mbd (c := 1) (Nat.lt_of_lt_of_le b12 (by decide)) (by decide))) (mbd (c := 0) (Nat.lt_of_lt_of_le b22 (by decide)) (by decide))) (by decide)⟩ ⟨by decide⟩ ⟨by decide⟩ ⟨by decide⟩ ⟨by decide⟩ ⟨rfl⟩ ⟨congrArg (f1 0 * ·) (by decide)⟩ ⟨congrArg (f2 0 * ·) (by decide)⟩ ⟨congrArg (c3 * ·) (by decide)⟩ ⟨rfl⟩ ⟨rfl⟩ ⟨rfl⟩ ⟨nw1⟩ ⟨rfl⟩ ⟨rfl⟩ (by k_mem) rfl rfl rfl rfl rfl hcR (by decide) (by decide) B X T' hd hu hE (fun G0 ea0 eb0 ec0 Z0 tt0 uu0 tt1 uu1 tt2 uu2 tt3 uu3 kk0 kk1 kk2 kk3 kG0 m0 => ?_) _ _ _ _ _ _ _
  refine step2 tn (v 1) (f1 1) (f2 1) (c3) (v 2) (f1 2) (f2 2) (d 1) (d 2) (v 0) (f1 0) (f2 0) (v 0 * 1) (f1 0 * 2) (f2 0 * 1) (c3 * 0) (0 + v 0 * 1) (0 + v 0 * 1 + f1 0 * 2) (0 + v 0 * 1 + f1 0 * 2 + f2 0 * 1) ((nf (-4) (d 1)).1) ((nf (-4) (d 1)).2) (0 + 1) 5 _ b s tb ts G e0 e1 e2 e3 VL w0 w1 w2 w3 w4 w5 w2 R e3 I _ _ _ _ _ _ _ _ _ _ _ _ _ _ _ _ _ _ tw0 uw0 tw2 uw2 _ _ _ _ _ _ _ _ _ kw0 kw2 _ _ _ _ _ _ _ oR dp un gd fa outer A₀ base h₀ L st Q E ⟨by decide⟩ ⟨by decide⟩ ⟨is_nf (by decide) (by decide) (Nat.lt_trans bd1 (by decide))⟩ ⟨nf_abs (by decide) (by decide) (Nat.lt_trans bd1 (by decide))⟩ ⟨nf_e9 (by decide) (by decide) (Nat.lt_trans bd1 (by decide))⟩ ⟨to1⟩ ⟨on0_1⟩ ⟨on1_1⟩ ⟨on2_1⟩ ⟨tv2⟩ ⟨Nat.lt_trans bv3 (by decide)⟩ ⟨Nat.lt_trans b13 (by decide)⟩ ⟨Nat.lt_trans b23 (by decide)⟩ ⟨Nat.lt_trans b3 (by decide)⟩ ⟨Nat.lt_trans bv3 (by decide)⟩ ⟨Nat.lt_trans b13 (by decide)⟩ ⟨Nat.lt_trans b23 (by decide)⟩ ⟨Nat.lt_trans b3 (by decide)⟩ ⟨Nat.lt_trans bv4 (by decide)⟩ ⟨Nat.lt_trans b14 (by decide)⟩ ⟨Nat.lt_trans b24 (by decide)⟩ ⟨Nat.lt_trans bd1 (by decide)⟩ ⟨Nat.lt_trans bd2 (by decide)⟩ ⟨Nat.lt_trans bv2 (by decide)⟩ ⟨Nat.lt_trans b12 (by decide)⟩ ⟨Nat.lt_trans b22 (by decide)⟩ ⟨Nat.lt_of_le_of_lt (mbd (c := 1) (Nat.lt_of_lt_of_le bv2 (by decide)) (by decide)) (by decide)⟩ ⟨Nat.lt_of_le_of_lt (mbd (c := 2) (Nat.lt_of_lt_of_le b12 (by decide)) (by decide)) (by decide)⟩ ⟨Nat.lt_of_le_of_lt (mbd (c := 1) (Nat.lt_of_lt_of_le b22 (by decide)) (by decide)) (by decide)⟩ ⟨Nat.lt_of_le_of_lt (mbd (c := 0) (Nat.lt_of_lt_of_le b3 (by decide)) (by decide)) (by decide)⟩ ⟨Nat.lt_of_le_of_lt (abd (x := 0) (m := 0) (by decide) (mbd (c := 1) (Nat.lt_of_lt_of_le bv2 (by decide)) (by decide))) (by decide)⟩ ⟨Nat.lt_of_le_of_lt (abd (abd (x := 0) (m := 0) (by decide) (mbd (c := 1) (Nat.lt_of_lt_of_le bv2 (by decide)) (by decide))) (mbd (c := 2) (Nat.lt_of_lt_of_le b12 (by decide)) (by decide))) (by decide)⟩ ⟨Nat.lt_of_le_of_lt (abd (abd (abd (x := 0) (m := 0) (by decide) (mbd (c := 1) (Nat.lt_of_lt_of_le bv2 (by decide)) (by decide))) (mbd (c := 2) (Nat.lt_of_lt_of_le b12 (by decide)) (by decide))) (mbd (c := 1) (Nat.lt_of_lt_of_le b22 (by decide)) (by decide))) (by decide)⟩ ⟨by decide⟩ ⟨by decide⟩ ⟨by decide⟩ ⟨by decide⟩ ⟨rfl⟩ ⟨congrArg (f1 0 * ·) (by decide)⟩ ⟨congrArg (f2 0 * ·) (by decide)⟩ ⟨congrArg (c3 * ·) (by decide)⟩ ⟨rfl⟩ ⟨rfl⟩ ⟨rfl⟩ ⟨nw2⟩ ⟨rfl⟩ ⟨rfl⟩ (by k_mem) rfl rfl rfl rfl rfl hcR (by decide) (by decide) B X T' hd hu hE (fun G1 ea1 eb1 ec1 Z1 tt0 uu0 tt1 uu1 tt2 uu2 tt3 uu3 kk0 kk1 kk2 kk3 kG1 m1 => ?_) _ _ _ _ _ _ _
  refine step2 tn (v 2) (f1 2) (f2 2) (c3) (v 3) (f1 3) (f2 3) (d 2) (d 3) (v 0) (f1 0) (f2 0) (v 0 * 1) (f1 0 * 3) (f2 0 * 3) (c3 * 1) (0 + v 0 * 1) (0 + v 0 * 1 + f1 0 * 3) (0 + v 0 * 1 + f1 0 * 3 + f2 0 * 3) ((nf (-4) (d 2)).1) ((nf (-4) (d 2)).2) (0 + 1 + 1) 5 _ b s tb ts G e0 e1 e2 e3 VL w0 w1 w2 w3 w4 w5 w3 R e3 I _ _ _ _ _ _ _ _ _ _ _ _ _ _ _ _ _ _ tw0 uw0 tw3 uw3 _ _ _ _ _ _ _ _ _ kw0 kw3 _ _ _ _ _ _ _ oR dp un gd fa outer A₀ base h₀ L st Q E ⟨by decide⟩ ⟨by decide⟩ ⟨is_nf (by decide) (by decide) (Nat.lt_trans bd2 (by decide))⟩ ⟨nf_abs (by decide) (by decide) (Nat.lt_trans bd2 (by decide))⟩ ⟨nf_e9 (by decide) (by decide) (Nat.lt_trans bd2 (by decide))⟩ ⟨to2⟩ ⟨on0_2⟩ ⟨on1_2⟩ ⟨on2_2⟩ ⟨tv3⟩ ⟨Nat.lt_trans bv4 (by decide)⟩ ⟨Nat.lt_trans b14 (by decide)⟩ ⟨Nat.lt_trans b24 (by decide)⟩ ⟨Nat.lt_trans b3 (by decide)⟩ ⟨Nat.lt_trans bv4 (by decide)⟩ ⟨Nat.lt_trans b14 (by decide)⟩ ⟨Nat.lt_trans b24 (by decide)⟩ ⟨Nat.lt_trans b3 (by decide)⟩ ⟨Nat.lt_trans bv5 (by decide)⟩ ⟨Nat.lt_trans b15 (by decide)⟩ ⟨Nat.lt_trans b25 (by decide)⟩ ⟨Nat.lt_trans bd2 (by decide)⟩ ⟨Nat.lt_trans bd3 (by decide)⟩ ⟨Nat.lt_trans bv2 (by decide)⟩ ⟨Nat.lt_trans b12 (by decide)⟩ ⟨Nat.lt_trans b22 (by decide)⟩ ⟨Nat.lt_of_le_of_lt (mbd (c := 1) (Nat.lt_of_lt_of_le bv2 (by decide)) (by decide)) (by decide)⟩ ⟨Nat.lt_of_le_of_lt (mbd (c := 3) (Nat.lt_of_lt_of_le b12 (by decide)) (by decide)) (by decide)⟩ ⟨Nat.lt_of_le_of_lt (mbd (c := 3) (Nat.lt_of_lt_of_le b22 (by decide)) (by decide)) (by decide)⟩ ⟨Nat.lt_of_le_of_lt (mbd (c := 1) (Nat.lt_of_lt_of_le b3 (by decide)) (by decide)) (by decide)⟩ ⟨Nat.lt_of_le_of_lt (abd (x := 0) (m := 0) (by decide) (mbd (c := 1) (Nat.lt_of_lt_of_le bv2 (by decide)) (by decide))) (by decide)⟩ ⟨Nat.lt_of_le_of_lt (abd (abd (x := 0) (m := 0) (by decide) (mbd (c := 1) (Nat.lt_of_lt_of_le bv2 (by decide)) (by decide))) (mbd (c := 3) (Nat.lt_of_lt_of_le b12 (by decide)) (by decide))) (by decide)⟩ ⟨Nat.lt_of_le_of_lt (abd (abd (abd (x := 0) (m := 0) (by decide) (mbd (c := 1) (Nat.lt_of_lt_of_le bv2 (by decide)) (by decide))) (mbd (c := 3) (Nat.lt_of_lt_of_le b12 (by decide)) (by decide))) (mbd (c := 3) (Nat.lt_of_lt_of_le b22 (by decide)) (by decide))) (by decide)⟩ ⟨by decide⟩ ⟨by decide⟩ ⟨by decide⟩ ⟨by decide⟩ ⟨rfl⟩ ⟨congrArg (f1 0 * ·) (by decide)⟩ ⟨congrArg (f2 0 * ·) (by decide)⟩ ⟨congrArg (c3 * ·) (by decide)⟩ ⟨rfl⟩ ⟨rfl⟩ ⟨rfl⟩ ⟨nw3⟩ ⟨rfl⟩ ⟨rfl⟩ (by k_mem) rfl rfl rfl rfl rfl hcR (by decide) (by decide) B X T' hd hu hE (fun G2 ea2 eb2 ec2 Z2 tt0 uu0 tt1 uu1 tt2 uu2 tt3 uu3 kk0 kk1 kk2 kk3 kG2 m2 => ?_) _ _ _ _ _ _ _
  refine step2 tn (v 3) (f1 3) (f2 3) (c3) (v 4) (f1 4) (f2 4) (d 3) (d 4) (v 0) (f1 0) (f2 0) (v 0 * 1) (f1 0 * 4) (f2 0 * 6) (c3 * 4) (0 + v 0 * 1) (0 + v 0 * 1 + f1 0 * 4) (0 + v 0 * 1 + f1 0 * 4 + f2 0 * 6) ((nf (-4) (d 3)).1) ((nf (-4) (d 3)).2) (0 + 1 + 1 + 1) 5 _ b s tb ts G e0 e1 e2 e3 VL w0 w1 w2 w3 w4 w5 w4 R e3 I _ _ _ _ _ _ _ _ _ _ _ _ _ _ _ _ _ _ tw0 uw0 tw4 uw4 _ _ _ _ _ _ _ _ _ kw0 kw4 _ _ _ _ _ _ _ oR dp un gd fa outer A₀ base h₀ L st Q E ⟨by decide⟩ ⟨by decide⟩ ⟨is_nf (by decide) (by decide) (Nat.lt_trans bd3 (by decide))⟩ ⟨nf_abs (by decide) (by decide) (Nat.lt_trans bd3 (by decide))⟩ ⟨nf_e9 (by decide) (by decide) (Nat.lt_trans bd3 (by decide))⟩ ⟨to3⟩ ⟨on0_3⟩ ⟨on1_3⟩ ⟨on2_3⟩ ⟨tv4⟩ ⟨Nat.lt_trans bv5 (by decide)⟩ ⟨Nat.lt_trans b15 (by decide)⟩ ⟨Nat.lt_trans b25 (by decide)⟩ ⟨Nat.lt_trans b3 (by decide)⟩ ⟨Nat.lt_trans bv5 (by decide)⟩ ⟨Nat.lt_trans b15 (by decide)⟩ ⟨Nat.lt_trans b25 (by decide)⟩ ⟨Nat.lt_trans b3 (by decide)⟩ ⟨Nat.lt_trans bv6 (by decide)⟩ ⟨Nat.lt_trans b16 (by decide)⟩ ⟨Nat.lt_trans b26 (by decide)⟩ ⟨Nat.lt_trans bd3 (by decide)⟩ ⟨Nat.lt_trans bd4 (by decide)⟩ ⟨Nat.lt_trans bv2 (by decide)⟩ ⟨Nat.lt_trans b12 (by decide)⟩ ⟨Nat.lt_trans b22 (by decide)⟩ ⟨Nat.lt_of_le_of_lt (mbd (c := 1) (Nat.lt_of_lt_of_le bv2 (by decide)) (by decide)) (by decide)⟩ ⟨Nat.lt_of_le_of_lt (mbd (c := 4) (Nat.lt_of_lt_of_le b12 (by decide)) (by decide)) (by decide)⟩ ⟨Nat.lt_of_le_of_lt (mbd (c := 6) (Nat.lt_of_lt_of_le b22 (by decide)) (by decide)) (by decide)⟩ ⟨Nat.lt_of_le_of_lt (mbd (c := 4) (Nat.lt_of_lt_of_le b3 (by decide)) (by decide)) (by decide)⟩ ⟨Nat.lt_of_le_of_lt (abd (x := 0) (m := 0) (by decide) (mbd (c := 1) (Nat.lt_of_lt_of_le bv2 (by decide)) (by decide))) (by decide)⟩ ⟨Nat.lt_of_le_of_lt (abd (abd (x := 0) (m := 0) (by decide) (mbd (c := 1) (Nat.lt_of_lt_of_le bv2 (by decide)) (by decide))) (mbd (c := 4) (Nat.lt_of_lt_of_le b12 (by decide)) (by decide))) (by decide)⟩ ⟨Nat.lt_of_le_of_lt (abd (abd (abd (x := 0) (m := 0) (by decide) (mbd (c := 1) (Nat.lt_of_lt_of_le bv2 (by decide)) (by decide))) (mbd (c := 4) (Nat.lt_of_lt_of_le b12 (by decide)) (by decide))) (mbd (c := 6) (Nat.lt_of_lt_of_le b22 (by decide)) (by decide))) (by decide)⟩ ⟨by decide⟩ ⟨by decide⟩ ⟨by decide⟩ ⟨by decide⟩ ⟨rfl⟩ ⟨congrArg (f1 0 * ·) (by decide)⟩ ⟨congrArg (f2 0 * ·) (by decide)⟩ ⟨congrArg (c3 * ·) (by decide)⟩ ⟨rfl⟩ ⟨rfl⟩ ⟨rfl⟩ ⟨nw4⟩ ⟨rfl⟩ ⟨rfl⟩ (by k_mem) rfl rfl rfl rfl rfl hcR (by decide) (by decide) B X T' hd hu hE (fun G3 ea3 eb3 ec3 Z3 tt0 uu0 tt1 uu1 tt2 uu2 tt3 uu3 kk0 kk1 kk2 kk3 kG3 m3 => ?_) _ _ _ _ _ _ _
  refine step2 tn (v 4) (f1 4) (f2 4) (c3) (v 5) (f1 5) (f2 5) (d 4) (d 5) (v 0) (f1 0) (f2 0) (v 0 * 1) (f1 0 * 5) (f2 0 * 10) (c3 * 10) (0 + v 0 * 1) (0 + v 0 * 1 + f1 0 * 5) (0 + v 0 * 1 + f1 0 * 5 + f2 0 * 10) ((nf (-4) (d 4)).1) ((nf (-4) (d 4)).2) (0 + 1 + 1 + 1 + 1) 5 _ b s tb ts G e0 e1 e2 e3 VL w0 w1 w2 w3 w4 w5 w5 R e3 I _ _ _ _ _ _ _ _ _ _ _ _ _ _ _ _ _ _ tw0 uw0 tw5 uw5 _ _ _ _ _ _ _ _ _ kw0 kw5 _ _ _ _ _ _ _ oR dp un gd fa outer A₀ base h₀ L st Q E ⟨by decide⟩ ⟨by decide⟩ ⟨is_nf (by decide) (by decide) (Nat.lt_trans bd4 (by decide))⟩ ⟨nf_abs (by decide) (by decide) (Nat.lt_trans bd4 (by decide))⟩ ⟨nf_e9 (by decide) (by decide) (Nat.lt_trans bd4 (by decide))⟩ ⟨to4⟩ ⟨on0_4⟩ ⟨on1_4⟩ ⟨on2_4⟩ ⟨tv5⟩ ⟨Nat.lt_trans bv6 (by decide)⟩ ⟨Nat.lt_trans b16 (by decide)⟩ ⟨Nat.lt_trans b26 (by decide)⟩ ⟨Nat.lt_trans b3 (by decide)⟩ ⟨Nat.lt_trans bv6 (by decide)⟩ ⟨Nat.lt_trans b16 (by decide)⟩ ⟨Nat.lt_trans b26 (by decide)⟩ ⟨Nat.lt_trans b3 (by decide)⟩ ⟨Nat.lt_trans bv7 (by decide)⟩ ⟨Nat.lt_trans b17 (by decide)⟩ ⟨Nat.lt_trans b27 (by decide)⟩ ⟨Nat.lt_trans bd4 (by decide)⟩ ⟨Nat.lt_trans bd5 (by decide)⟩ ⟨Nat.lt_trans bv2 (by decide)⟩ ⟨Nat.lt_trans b12 (by decide)⟩ ⟨Nat.lt_trans b22 (by decide)⟩ ⟨Nat.lt_of_le_of_lt (mbd (c := 1) (Nat.lt_of_lt_of_le bv2 (by decide)) (by decide)) (by decide)⟩ ⟨Nat.lt_of_le_of_lt (mbd (c := 5) (Nat.lt_of_lt_of_le b12 (by decide)) (by decide)) (by decide)⟩ ⟨Nat.lt_of_le_of_lt (mbd (c := 10) (Nat.lt_of_lt_of_le b22 (by decide)) (by decide)) (by decide)⟩ ⟨Nat.lt_of_le_of_lt (mbd (c := 10) (Nat.lt_of_lt_of_le b3 (by decide)) (by decide)) (by decide)⟩ ⟨Nat.lt_of_le_of_lt (abd (x := 0) (m := 0) (by decide) (mbd (c := 1) (Nat.lt_of_lt_of_le bv2 (by decide)) (by decide))) (by decide)⟩ ⟨Nat.lt_of_le_of_lt (abd (abd (x := 0) (m := 0) (by decide) (mbd (c := 1) (Nat.lt_of_lt_of_le bv2 (by decide)) (by decide))) (mbd (c := 5) (Nat.lt_of_lt_of_le b12 (by decide)) (by decide))) (by decide)⟩ ⟨Nat.lt_of_le_of_lt (abd (abd (abd (x := 0) (m := 0) (by decide) (mbd (c := 1) (Nat.lt_of_lt_of_le bv2 (by decide)) (by decide))) (mbd (c := 5) (Nat.lt_of_lt_of_le b12 (by decide)) (by decide))) (mbd (c := 10) (Nat.lt_of_lt_of_le b22 (by decide)) (by decide))) (by decide)⟩ ⟨by decide⟩ ⟨by decide⟩ ⟨by decide⟩ ⟨by decide⟩ ⟨rfl⟩ ⟨congrArg (f1 0 * ·) (by decide)⟩ ⟨congrArg (f2 0 * ·) (by decide)⟩ ⟨congrArg (c3 * ·) (by decide)⟩ ⟨rfl⟩ ⟨rfl⟩ ⟨rfl⟩ ⟨nw5⟩ ⟨rfl⟩ ⟨rfl⟩ (by k_mem) rfl rfl rfl rfl rfl hcR (by decide) (by decide) B X T' hd hu hE (fun G4 ea4 eb4 ec4 Z4 tt0 uu0 tt1 uu1 tt2 uu2 tt3 uu3 kk0 kk1 kk2 kk3 kG4 m4 => ?_) _ _ _ _ _ _ _
  refine RangeRest.zero fun h tk F N => ?_
  refine hQ G4 ea4 eb4 ec4 tt0 uu0 tt1 uu1 tt2 uu2 kk0 kk1 kk2 kG4 (fun y => if y = Str.ofString "engine" then some (.ref G4) else if y = Str.ofString "total" then some (.ref Z4) else if y = Str.ofString "start" then some (.ref G) else if y = Str.ofString "values" then some (.ref VL) else if y = Str.ofString "rates" then some (.ref R) else if y = Str.ofString "begin" then some (.int b tb) else if y = Str.ofString "stride" then some (.int s ts) else m4 y) h tk ?_ ?_
  · have e : (fun y => if y = Str.ofString "engine" then some (.ref G4) else if y = Str.ofString "rates" then some (.ref R) else if y = Str.ofString "begin" then some (.int b tb) else if y = Str.ofString "stride" then some (.int s ts) else (fun y => if y = Str.ofString "engine" then some (.ref G4) else if y = Str.ofString "total" then some (.ref Z4) else if y = Str.ofString "start" then some (.ref G) else if y = Str.ofString "values" then some (.ref VL) else if y = Str.ofString "rates" then some (.ref R) else if y = Str.ofString "begin" then some (.int b tb) else if y = Str.ofString "stride" then some (.int s ts) else m4 y) y) = (fun y => if y = Str.ofString "engine" then some (.ref G4) else if y = Str.ofString "total" then some (.ref Z4) else if y = Str.ofString "start" then some (.ref G) else if y = Str.ofString "values" then some (.ref VL) else if y = Str.ofString "rates" then some (.ref R) else if y = Str.ofString "begin" then some (.int b tb) else if y = Str.ofString "stride" then some (.int s ts) else m4 y) := put4 rfl rfl rfl rfl
    rw [e]; exact F
  · exact fun a ha => N a (SubL.mem (by k_subL) a ha)

theorem step3 {prog : Program} {w : World} {mean : ExcName → Option Value} {mg mb : Str → Option Value} {body : List Stmt} {qual : Str} {scope : Scope} {cdv : Value} (tn : Turn3 prog w mean mg mb body qual scope cdv) (p q r c3 p' q' r' a0 a1 a2 a3 b s : Int) (i n k : Nat) (tb ts ta0 ta1 ta2 ta3 : Tok) (I e3 R : Addr) (t0 u0 t1 u1 t2 u2 t3 u3 : Tok) (k0 k1 k2 k3 : Nat) (dp un : Nat) (gd : Option (List Code)) (fa : Addr) (outer : List Env) (A₀ : Around) (base h₀ : Heap) (L : Addr) (st : Shared) (Q : Flow → Shared → Prop) (E : Value → Shared → Prop)
    (x0 : Hid (p - (q - (r - c3)) = p')) (x1 : Hid (q - (r - c3) = q')) (x2 : Hid (r - c3 = r')) (x3 : Hid (p.natAbs < 90000000)) (x4 : Hid (q.natAbs < 90000000)) (x5 : Hid (r.natAbs < 90000000)) (x6 : Hid (c3.natAbs < 90000000)) (x7 : Hid (p'.natAbs < 1000000000)) (x8 : Hid (a0.natAbs ≤ 1000)) (x9 : Hid (a1.natAbs ≤ 1000)) (x10 : Hid (a2.natAbs ≤ 1000)) (x11 : Hid (a3.natAbs ≤ 1000)) (x12 : Hid ((b + (4 - (0 + (i : Int))) * s).natAbs ≤ 1000)) (x13 : Hid (1000 * a0 + 100 * a1 * (b + (4 - (0 + (i : Int))) * s) + 10 * a2 * (b + (4 - (0 + (i : Int))) * s) * (b + (4 - (0 + (i : Int))) * s) + a3 * (b + (4 - (0 + (i : Int))) * s) * (b + (4 - (0 + (i : Int))) * s) * (b + (4 - (0 + (i : Int))) * s) = p')) (T0 : 0 ≤ (0 + (i : Int))) (T1 : (0 + (i : Int)) ≤ 6) (S0 : 1 ≤ s) (S1 : s ≤ 5) (B : Below A₀ base outer h₀) (X : Frag.In (Mine.hd.heap_39 w.params) h₀) (T' : Top Mine.hd.view_39 (looseW Mine.hd.view_39 [Str.ofString "BasicError"]) mean mg mb h₀) (hd : dp + 20 < recursionLimit) (hu : un + 200 < cLine) (hE : PassesOwn (model prog w) (ktrTop dp un gd qual scope L fa cdv (cellsFrom (L + 1) scope.names []) outer) (envOfC qual scope L fa cdv) E)
    (next : ∀ (G' e0' e1' e2' : Addr) (tt0 uu0 tt1 uu1 tt2 uu2 : Tok) (kk0 kk1 kk2 kG' : Nat) (m' : Str → Option Value), RangeRest prog w (ktrTop dp un gd qual scope L fa cdv (cellsFrom (L + 1) scope.names []) outer) E h₀ (envOfC qual scope L fa cdv) (Str.ofString "turn") body Q st I 0 n k (i + 1) (fun y => if y = Str.ofString "engine" then some (.ref G') else if y = Str.ofString "rates" then some (.ref R) else if y = Str.ofString "begin" then some (.int b tb) else if y = Str.ofString "stride" then some (.int s ts) else m' y) ([(G', W.listOf #[.ref e0', .ref e1', .ref e2', .ref e3] kG'), (e0', tupO (nf (-4) p').1 (nf (-4) p').2 tt0 uu0 kk0), (e1', tupO (nf (-4) q').1 (nf (-4) q').2 tt1 uu1 kk1), (e2', tupO (nf (-4) r').1 (nf (-4) r').2 tt2 uu2 kk2), (e3, tupO (nf (-4) c3).1 (nf (-4) c3).2 t3 u3 k3), (R, LCg.lst [.int a0 ta0, .int a1 ta1, .int a2 ta2, .int a3 ta3])] : List (Addr × Obj)))
    (G e0 e1 e2 : Addr) (kG : Nat) (mm : Str → Option Value) :
    RangeRest prog w (ktrTop dp un gd qual scope L fa cdv (cellsFrom (L + 1) scope.names []) outer) E h₀ (envOfC qual scope L fa cdv) (Str.ofString "turn") body Q st I 0 n (k + 1) i (fun y => if y = Str.ofString "engine" then some (.ref G) else if y = Str.ofString "rates" then some (.ref R) else if y = Str.ofString "begin" then some (.int b tb) else if y = Str.ofString "stride" then some (.int s ts) else mm y) ([(G, W.listOf #[.ref e0, .ref e1, .ref e2, .ref e3] kG), (e0, tupO (nf (-4) p).1 (nf (-4) p).2 t0 u0 k0), (e1, tupO (nf (-4) q).1 (nf (-4) q).2 t1 u1 k1), (e2, tupO (nf (-4) r).1 (nf (-4) r).2 t2 u2 k2), (e3, tupO (nf (-4) c3).1 (nf (-4) c3).2 t3 u3 k3), (R, LCg.lst [.int a0 ta0, .int a1 ta1, .int a2 ta2, .int a3 ta3])] : List (Addr × Obj)) := by
  refine RangeRest.succ fun t h tk F N => ?_
  refine tn (0 + (i : Int)) p q r c3 p' q' r' a0 a1 a2 a3 b s t tb ts ta0 ta1 ta2 ta3 I G e0 e1 e2 e3 R _ t0 u0 t1 u1 t2 u2 t3 u3 k0 k1 k2 k3 kG [] dp un gd fa outer A₀ base h₀ L mm _ _ E x0 x1 x2 x3 x4 x5 x6 x7 x8 x9 x10 x11 x12 x13 T0 T1 S0 S1 B X T' F N hd hu hE ?_
  intro h' tk' G' e0' e1' e2' tt0 uu0 tt1 uu1 tt2 uu2 kk0 kk1 kk2 kG' m' F' em' N'
  have hm : (fun y => if y = Str.ofString "rates" then some (.ref R) else if y = Str.ofString "begin" then some (.int b tb) else if y = Str.ofString "stride" then some (.int s ts) else m' y) = m' := put3 ((em' _ (by decide)).trans rfl) ((em' _ (by decide)).trans rfl) ((em' _ (by decide)).trans rfl)
  have F2 : Fr h₀ L h' (fun y => if y = Str.ofString "engine" then some (.ref G') else if y = Str.ofString "rates" then some (.ref R) else if y = Str.ofString "begin" then some (.int b tb) else if y = Str.ofString "stride" then some (.int s ts) else m' y) := by
    have e : (fun y => if y = Str.ofString "engine" then some (.ref G') else if y = Str.ofString "rates" then some (.ref R) else if y = Str.ofString "begin" then some (.int b tb) else if y = Str.ofString "stride" then some (.int s ts) else m' y) = (fun y => if y = Str.ofString "engine" then some (.ref G') else m' y) := funext fun y => by
      have := congrFun hm y
      try dsimp only at this
      rw [this]
    rw [e]; exact F'
  show UnrEnd _ _ _ _ _ _ _
  refine UnrEnd.intro2 F2 N' [(G', W.listOf #[.ref e0', .ref e1', .ref e2', .ref e3] kG'), (e0', tupO (nf (-4) p').1 (nf (-4) p').2 tt0 uu0 kk0), (e1', tupO (nf (-4) q').1 (nf (-4) q').2 tt1 uu1 kk1), (e2', tupO (nf (-4) r').1 (nf (-4) r').2 tt2 uu2 kk2), (e3, tupO (nf (-4) c3).1 (nf (-4) c3).2 t3 u3 k3), (R, LCg.lst [.int a0 ta0, .int a1 ta1, .int a2 ta2, .int a3 ta3])] (by k_mem) (by k_subL) ?_ (next G' e0' e1' e2' tt0 uu0 tt1 uu1 tt2 uu2 kk0 kk1 kk2 kG' m')
  refine ⟨?_, ?_, ?_, ?_, ?_, ?_, trivial⟩
  all_goals k_cls

theorem loop3 {prog : Program} {w : World} {mean : ExcName → Option Value} {mg mb : Str → Option Value} {body : List Stmt} {qual : Str} {scope : Scope} {cdv : Value} (tn : Turn3 prog w mean mg mb body qual scope cdv) (v f1 f2 d : Int → Int) (c3 a0 a1 a2 a3 b s : Int) (tb ts ta0 ta1 ta2 ta3 : Tok) (I G e0 e1 e2 e3 R : Addr) (t0 u0 t1 u1 t2 u2 t3 u3 : Tok) (k0 k1 k2 k3 kG' : Nat) (dp un : Nat) (gd : Option (List Code)) (fa : Addr) (outer : List Env) (A₀ : Around) (base h₀ : Heap) (L : Addr) (st : Shared) (Q : Flow → Shared → Prop) (E : Value → Shared → Prop) (B : Below A₀ base outer h₀) (X : Frag.In (Mine.hd.heap_39 w.params) h₀) (T' : Top Mine.hd.view_39 (looseW Mine.hd.view_39 [Str.ofString "BasicError"]) mean mg mb h₀) (hd : dp + 20 < recursionLimit) (hu : un + 200 < cLine) (hE : PassesOwn (model prog w) (ktrTop dp un gd qual scope L fa cdv (cellsFrom (L + 1) scope.names []) outer) (envOfC qual scope L fa cdv) E)
    (on0_0 : v 0 + f1 0 = v 1) (on1_0 : f1 0 + f2 0 = f1 1) (on2_0 : f2 0 + c3 = f2 1) (on0_1 : v 1 + f1 1 = v 2) (on1_1 : f1 1 + f2 1 = f1 2) (on2_1 : f2 1 + c3 = f2 2) (on0_2 : v 2 + f1 2 = v 3) (on1_2 : f1 2 + f2 2 = f1 3) (on2_2 : f2 2 + c3 = f2 3) (on0_3 : v 3 + f1 3 = v 4) (on1_3 : f1 3 + f2 3 = f1 4) (on2_3 : f2 3 + c3 = f2 4) (on0_4 : v 4 + f1 4 = v 5) (on1_4 : f1 4 + f2 4 = f1 5) (on2_4 : f2 4 + c3 = f2 5) (bk2_5 : f2 5 - c3 = f2 4) (bk1_5 : f1 5 - (f2 5 - c3) = f1 4) (bk0_5 : v 5 - (f1 5 - (f2 5 - c3)) = v 4) (bk2_4 : f2 4 - c3 = f2 3) (bk1_4 : f1 4 - (f2 4 - c3) = f1 3) (bk0_4 : v 4 - (f1 4 - (f2 4 - c3)) = v 3) (bk2_3 : f2 3 - c3 = f2 2) (bk1_3 : f1 3 - (f2 3 - c3) = f1 2) (bk0_3 : v 3 - (f1 3 - (f2 3 - c3)) = v 2) (bk2_2 : f2 2 - c3 = f2 1) (bk1_2 : f1 2 - (f2 2 - c3) = f1 1) (bk0_2 : v 2 - (f1 2 - (f2 2 - c3)) = v 1) (bk2_1 : f2 1 - c3 = f2 0) (bk1_1 : f1 1 - (f2 1 - c3) = f1 0) (bk0_1 : v 1 - (f1 1 - (f2 1 - c3)) = v 0) (bk2_0 : f2 0 - c3 = f2 (-1)) (bk1_0 : f1 0 - (f2 0 - c3) = f1 (-1)) (bk0_0 : v 0 - (f1 0 - (f2 0 - c3)) = v (-1)) (bk2_m1 : f2 (-1) - c3 = f2 (-2)) (bk1_m1 : f1 (-1) - (f2 (-1) - c3) = f1 (-2)) (bk0_m1 : v (-1) - (f1 (-1) - (f2 (-1) - c3)) = v (-2)) (di1 : (v 1 - v 0) = f1 0) (di2 : ((v 2 - v 1) - (v 1 - v 0)) = f2 0) (di3 : (((v 3 - v 2) - (v 2 - v 1)) - ((v 2 - v 1) - (v 1 - v 0))) = c3) (di4 : ((((v 4 - v 3) - (v 3 - v 2)) - ((v 3 - v 2) - (v 2 - v 1))) - (((v 3 - v 2) - (v 2 - v 1)) - ((v 2 - v 1) - (v 1 - v 0)))) = 0) (di5 : (((((v 5 - v 4) - (v 4 - v 3)) - ((v 4 - v 3) - (v 3 - v 2))) - (((v 4 - v 3) - (v 3 - v 2)) - ((v 3 - v 2) - (v 2 - v 1)))) - ((((v 4 - v 3) - (v 3 - v 2)) - ((v 3 - v 2) - (v 2 - v 1))) - (((v 3 - v 2) - (v 2 - v 1)) - ((v 2 - v 1) - (v 1 - v 0))))) = 0) (to0 : 0 + f1 0 = d 1) (to1 : d 1 + f1 1 = d 2) (to2 : d 2 + f1 2 = d 3) (to3 : d 3 + f1 3 = d 4) (to4 : d 4 + f1 4 = d 5) (tv1 : v 0 + d 1 = v 1) (tv2 : v 0 + d 2 = v 2) (tv3 : v 0 + d 3 = v 3) (tv4 : v 0 + d 4 = v 4) (tv5 : v 0 + d 5 = v 5) (nw1 : 0 + v 0 * 1 + f1 0 * 1 + f2 0 * 0 + c3 * 0 = v 1) (nw2 : 0 + v 0 * 1 + f1 0 * 2 + f2 0 * 1 + c3 * 0 = v 2) (nw3 : 0 + v 0 * 1 + f1 0 * 3 + f2 0 * 3 + c3 * 1 = v 3) (nw4 : 0 + v 0 * 1 + f1 0 * 4 + f2 0 * 6 + c3 * 4 = v 4) (nw5 : 0 + v 0 * 1 + f1 0 * 5 + f2 0 * 10 + c3 * 10 = v 5) (bv0 : (v (-2)).natAbs < 4000000) (bv1 : (v (-1)).natAbs < 4000000) (bv2 : (v 0).natAbs < 4000000) (bv3 : (v 1).natAbs < 4000000) (bv4 : (v 2).natAbs < 4000000) (bv5 : (v 3).natAbs < 4000000) (bv6 : (v 4).natAbs < 4000000) (bv7 : (v 5).natAbs < 4000000) (b10 : (f1 (-2)).natAbs < 8000000) (b20 : (f2 (-2)).natAbs < 16000000) (b11 : (f1 (-1)).natAbs < 8000000) (b21 : (f2 (-1)).natAbs < 16000000) (b12 : (f1 0).natAbs < 8000000) (b22 : (f2 0).natAbs < 16000000) (b13 : (f1 1).natAbs < 8000000) (b23 : (f2 1).natAbs < 16000000) (b14 : (f1 2).natAbs < 8000000) (b24 : (f2 2).natAbs < 16000000) (b15 : (f1 3).natAbs < 8000000) (b25 : (f2 3).natAbs < 16000000) (b16 : (f1 4).natAbs < 8000000) (b26 : (f2 4).natAbs < 16000000) (b17 : (f1 5).natAbs < 8000000) (b27 : (f2 5).natAbs < 16000000) (b3 : c3.natAbs < 7000) (bd1 : (d 1).natAbs < 8000000) (bd2 : (d 2).natAbs < 8000000) (bd3 : (d 3).natAbs < 8000000) (bd4 : (d 4).natAbs < 8000000) (bd5 : (d 5).natAbs < 8000000) (du0 : ∀ X : Int, X = b + (-2) * s → 1000 * a0 + 100 * a1 * X + 10 * a2 * X * X + a3 * X * X * X = v (-2)) (du1 : ∀ X : Int, X = b + (-1) * s → 1000 * a0 + 100 * a1 * X + 10 * a2 * X * X + a3 * X * X * X = v (-1)) (du2 : ∀ X : Int, X = b + 0 * s → 1000 * a0 + 100 * a1 * X + 10 * a2 * X * X + a3 * X * X * X = v 0) (du3 : ∀ X : Int, X = b + 1 * s → 1000 * a0 + 100 * a1 * X + 10 * a2 * X * X + a3 * X * X * X = v 1) (du4 : ∀ X : Int, X = b + 2 * s → 1000 * a0 + 100 * a1 * X + 10 * a2 * X * X + a3 * X * X * X = v 2) (du5 : ∀ X : Int, X = b + 3 * s → 1000 * a0 + 100 * a1 * X + 10 * a2 * X * X + a3 * X * X * X = v 3) (du6 : ∀ X : Int, X = b + 4 * s → 1000 * a0 + 100 * a1 * X + 10 * a2 * X * X + a3 * X * X * X = v 4) (du7 : ∀ X : Int, X = b + 5 * s → 1000 * a0 + 100 * a1 * X + 10 * a2 * X * X + a3 * X * X * X = v 5) (S0 : 1 ≤ s) (S1 : s ≤ 5) (hb : b.natAbs ≤ 9) (ra0 : a0.natAbs ≤ 1000) (ra1 : a1.natAbs ≤ 1000) (ra2 : a2.natAbs ≤ 1000) (ra3 : a3.natAbs ≤ 1000)
    (hQ : ∀ (h : Heap) (tk : Nat) (m9 : Str → Option Value), Fr h₀ L h m9 → Q .next { st with heap := h, toks := tk }) (mm : Str → Option Value) :
    RangeRest prog w (ktrTop dp un gd qual scope L fa cdv (cellsFrom (L + 1) scope.names []) outer) E h₀ (envOfC qual scope L fa cdv) (Str.ofString "turn") body Q st I 0 7 7 0 (fun y => if y = Str.ofString "engine" then some (.ref G) else if y = Str.ofString "rates" then some (.ref R) else if y = Str.ofString "begin" then some (.int b tb) else if y = Str.ofString "stride" then some (.int s ts) else mm y) ([(G, W.listOf #[.ref e0, .ref e1, .ref e2, .ref e3] kG'), (e0, tupO (nf (-4) (v 5)).1 (nf (-4) (v 5)).2 t0 u0 k0), (e1, tupO (nf (-4) (f1 5)).1 (nf (-4) (f1 5)).2 t1 u1 k1), (e2, tupO (nf (-4) (f2 5)).1 (nf (-4) (f2 5)).2 t2 u2 k2), (e3, tupO (nf (-4) c3).1 (nf (-4) c3).2 t3 u3 k3), (R, LCg.lst [.int a0 ta0, .int a1 ta1, .int a2 ta2, .int a3 ta3])] : List (Addr × Obj)) := by
  refine step3 tn (v 5) (f1 5) (f2 5) (c3) (v 4) (f1 4) (f2 4) (a0) (a1) (a2) (a3) (b) (s) (0) 7 _ tb ts ta0 ta1 ta2 ta3 I e3 R _ _ _ _ _ _ _ _ _ _ _ _ dp un gd fa outer A₀ base h₀ L st Q E ⟨bk0_5⟩ ⟨bk1_5⟩ ⟨bk2_5⟩ ⟨Nat.lt_trans bv7 (by decide)⟩ ⟨Nat.lt_trans b17 (by decide)⟩ ⟨Nat.lt_trans b27 (by decide)⟩ ⟨Nat.lt_trans b3 (by decide)⟩ ⟨Nat.lt_trans bv6 (by decide)⟩ ⟨ra0⟩ ⟨ra1⟩ ⟨ra2⟩ ⟨ra3⟩ ⟨xbd hb S0 S1 (by decide) (by decide)⟩ ⟨du6 _ rfl⟩ (by decide) (by decide) S0 S1 B X T' hd hu hE (fun G0 ea0 eb0 ec0 tt0 uu0 tt1 uu1 tt2 uu2 kk0 kk1 kk2 kG0 m0 => ?_) _ _ _ _ _ _
  refine step3 tn (v 4) (f1 4) (f2 4) (c3) (v 3) (f1 3) (f2 3) (a0) (a1) (a2) (a3) (b) (s) (0 + 1) 7 _ tb ts ta0 ta1 ta2 ta3 I e3 R _ _ _ _ _ _ _ _ _ _ _ _ dp un gd fa outer A₀ base h₀ L st Q E ⟨bk0_4⟩ ⟨bk1_4⟩ ⟨bk2_4⟩ ⟨Nat.lt_trans bv6 (by decide)⟩ ⟨Nat.lt_trans b16 (by decide)⟩ ⟨Nat.lt_trans b26 (by decide)⟩ ⟨Nat.lt_trans b3 (by decide)⟩ ⟨Nat.lt_trans bv5 (by decide)⟩ ⟨ra0⟩ ⟨ra1⟩ ⟨ra2⟩ ⟨ra3⟩ ⟨xbd hb S0 S1 (by decide) (by decide)⟩ ⟨du5 _ rfl⟩ (by decide) (by decide) S0 S1 B X T' hd hu hE (fun G1 ea1 eb1 ec1 tt0 uu0 tt1 uu1 tt2 uu2 kk0 kk1 kk2 kG1 m1 => ?_) _ _ _ _ _ _
  refine step3 tn (v 3) (f1 3) (f2 3) (c3) (v 2) (f1 2) (f2 2) (a0) (a1) (a2) (a3) (b) (s) (0 + 1 + 1) 7 _ tb ts ta0 ta1 ta2 ta3 I e3 R _ _ _ _ _ _ _ _ _ _ _ _ dp un gd fa outer A₀ base h₀ L st Q E ⟨bk0_3⟩ ⟨bk1_3⟩ ⟨bk2_3⟩ ⟨Nat.lt_trans bv5 (by decide)⟩ ⟨Nat.lt_trans b15 (by decide)⟩ ⟨Nat.lt_trans b25 (by decide)⟩ ⟨Nat.lt_trans b3 (by decide)⟩ ⟨Nat.lt_trans bv4 (by decide)⟩ ⟨ra0⟩ ⟨ra1⟩ ⟨ra2⟩ ⟨ra3⟩ ⟨xbd hb S0 S1 (by decide) (by decide)⟩ ⟨du4 _ rfl⟩ (by decide) (by decide) S0 S1 B X T' hd hu hE (fun G2 ea2 eb2 ec2 tt0 uu0 tt1 uu1 tt2 uu2 kk0 kk1 kk2 kG2 m2 => ?_) _ _ _ _ _ _
  refine step3 tn (v 2) (f1 2) (f2 2) (c3) (v 1) (f1 1) (f2 1) (a0) (a1) (a2) (a3) (b) (s) (0 + 1 + 1 + 1) 7 _ tb ts ta0 ta1 ta2 ta3 I e3 R _ _ _ _ _ _ _ _ _ _ _ _ dp un gd fa outer A₀ base h₀ L st Q E ⟨bk0_2⟩ ⟨bk1_2⟩ ⟨bk2_2⟩ ⟨Nat.lt_trans bv4 (by decide)⟩ ⟨Nat.lt_trans b14 (by decide)⟩ ⟨Nat.lt_trans b24 (by decide)⟩ ⟨Nat.lt_trans b3 (by decide)⟩ ⟨Nat.lt_trans bv3 (by decide)⟩ ⟨ra0⟩ ⟨ra1⟩ ⟨ra2⟩ ⟨ra3⟩ ⟨xbd hb S0 S1 (by decide) (by decide)⟩ ⟨du3 _ rfl⟩ (by decide) (by decide) S0 S1 B X T' hd hu hE (fun G3 ea3 eb3 ec3 tt0 uu0 tt1 uu1 tt2 uu2 kk0 kk1 kk2 kG3 m3 => ?_) _ _ _ _ _ _
  refine step3 tn (v 1) (f1 1) (f2 1) (c3) (v 0) (f1 0) (f2 0) (a0) (a1) (a2) (a3) (b) (s) (0 + 1 + 1 + 1 + 1) 7 _ tb ts ta0 ta1 ta2 ta3 I e3 R _ _ _ _ _ _ _ _ _ _ _ _ dp un gd fa outer A₀ base h₀ L st Q E ⟨bk0_1⟩ ⟨bk1_1⟩ ⟨bk2_1⟩ ⟨Nat.lt_trans bv3 (by decide)⟩ ⟨Nat.lt_trans b13 (by decide)⟩ ⟨Nat.lt_trans b23 (by decide)⟩ ⟨Nat.lt_trans b3 (by decide)⟩ ⟨Nat.lt_trans bv2 (by decide)⟩ ⟨ra0⟩ ⟨ra1⟩ ⟨ra2⟩ ⟨ra3⟩ ⟨xbd hb S0 S1 (by decide) (by decide)⟩ ⟨du2 _ rfl⟩ (by decide) (by decide) S0 S1 B X T' hd hu hE (fun G4 ea4 eb4 ec4 tt0 uu0 tt1 uu1 tt2 uu2 kk0 kk1 kk2 kG4 m4 => ?_) _ _ _ _ _ _
  refine step3 tn (v 0) (f1 0) (f2 0) (c3) (v (-1)) (f1 (-1)) (f2 (-1)) (a0) (a1) (a2) (a3) (b) (s) (0 + 1 + 1 + 1 + 1 + 1) 7 _ tb ts ta0 ta1 ta2 ta3 I e3 R _ _ _ _ _ _ _ _ _ _ _ _ dp un gd fa outer A₀ base h₀ L st Q E ⟨bk0_0⟩ ⟨bk1_0⟩ ⟨bk2_0⟩ ⟨Nat.lt_trans bv2 (by decide)⟩ ⟨Nat.lt_trans b12 (by decide)⟩ ⟨Nat.lt_trans b22 (by decide)⟩ ⟨Nat.lt_trans b3 (by decide)⟩ ⟨Nat.lt_trans bv1 (by decide)⟩ ⟨ra0⟩ ⟨ra1⟩ ⟨ra2⟩ ⟨ra3⟩ ⟨xbd hb S0 S1 (by decide) (by decide)⟩ ⟨du1 _ rfl⟩ (by decide) (by decide) S0 S1 B X T' hd hu hE (fun G5 ea5 eb5 ec5 tt0 uu0 tt1 uu1 tt2 uu2 kk0 kk1 kk2 kG5 m5 => ?_) _ _ _ _ _ _
  refine step3 tn (v (-1)) (f1 (-1)) (f2 (-1)) (c3) (v (-2)) (f1 (-2)) (f2 (-2)) (a0) (a1) (a2) (a3) (b) (s) (0 + 1 + 1 + 1 + 1 + 1 + 1) 7 _ tb ts ta0 ta1 ta2 ta3 I e3 R _ _ _ _ _ _ _ _ _ _ _ _ dp un gd fa outer A₀ base h₀ L st Q E ⟨bk0_m1⟩ ⟨bk1_m1⟩ ⟨bk2_m1⟩ ⟨Nat.lt_trans bv1 (by decide)⟩ ⟨Nat.lt_trans b11 (by decide)⟩ ⟨Nat.lt_trans b21 (by decide)⟩ ⟨Nat.lt_trans b3 (by decide)⟩ ⟨Nat.lt_trans bv0 (by decide)⟩ ⟨ra0⟩ ⟨ra1⟩ ⟨ra2⟩ ⟨ra3⟩ ⟨xbd hb S0 S1 (by decide) (by decide)⟩ ⟨du0 _ rfl⟩ (by decide) (by decide) S0 S1 B X T' hd hu hE (fun G6 ea6 eb6 ec6 tt0 uu0 tt1 uu1 tt2 uu2 kk0 kk1 kk2 kG6 m6 => ?_) _ _ _ _ _ _
  exact RangeRest.zero fun h tk F N => hQ h tk _ F
end
end Mine
end
section
-- part LB
open PySem PySem.W PySem.Calls PyProof.Rows
namespace Mine
noncomputable section


theorem lines_LB_1 : True := by
  k_with_none
  (k_with "subscriptTail Name Constant ref int" => ((k_here; k_dflt (refine' item_tupleT ?tlb1 ?alb1 ?blb1 ?clb1 ?dlb1 ?_; (case tlb1 => exact News.isTup (by k_asm) (by k_extra "mine mem")); (case alb1 => decide); (case blb1 => decide); (case clb1 => rfl); (case dlb1 => rfl); k_whole))))
  (k_with "mine item" => ((k_here; k_dflt (refine' lst_item ?tlb2 ?alb2 ?blb2 ?clb2 ?dlb2 ?_; (case tlb2 => k_asm); (case alb2 => k_extra "mine mem"); (case blb2 => first | decide | omega); (case clb2 => first | decide | omega); (case dlb2 => rfl); k_whole))))
  (k_with "subscriptTail Name Constant ref int" => (k_extra "mine item"))
  (k_with "subscriptTail Name Name ref int" => (k_extra "mine item"))
  (k_with "subscriptTail Name BinOp ref int" => (k_extra "mine item"))
  (k_with "mine gotb" => ((intro zzh9 zztk9 zzF9 zzN9; (try dsimp only); (try k_fold); (try k_sweep))))
  (k_with "mine mem" => (first | exact List.Mem.head _ | (refine' List.mem_cons_of_mem _ ?mmlb7; (case mmlb7 => k_extra "mine mem"))))
  (k_with "mine need" => (first | exact List.forall_mem_nil _ | (refine' List.forall_mem_cons.mpr (And.intro ?nalb8 ?nblb8); (case nalb8 => k_mem); (case nblb8 => k_extra "mine need"))))
  (k_with "mine gs" => ((refine' Gd.mk ?k1lb9 ?k2lb9 ?k3lb9 ?k4lb9 ?k5lb9 ?kKlb9 ?kdlb9 ?kulb9; (case k1lb9 => k_asm); (case k2lb9 => k_asm); (case k3lb9 => k_asm); (case k4lb9 => k_asm); (case k5lb9 => k_asm); (case kKlb9 => first | exact rfl | assumption); (case kdlb9 => ktr_room); (case kulb9 => ktr_units))))
  (k_with "mine got" => ((intro zzD9 zzt9 zzu9 zzc9 zzh9 zztk9 zzF9 zzN9 zzl9; (try dsimp only); (try k_fold); (try k_sweep))))
  (k_with "mine lt" => (first | assumption | (refine' lt_drop ?ltalb11 ?ltblb11; (case ltalb11 => assumption); (case ltblb11 => kcj_all))))
  (k_with "mine rt" => ((refine' rt_end ?_ ?_ ?fFlb12 ?fNlb12 ?fmlb12 ?fslb12 ?fllb12; (case fFlb12 => k_asm); (case fNlb12 => assumption); (case fmlb12 => k_mem); (case fslb12 => kcj_all); (case fllb12 => k_extra "mine lt"))))
  (k_with "mine ne" => (first | (refine' ne_of_lts ?ltalb13 ?ltblb13; (case ltalb13 => assumption); (case ltblb13 => kcj_all)) | (refine' ne_of_nes ?ltalb13 ?ltblb13; (case ltalb13 => assumption); (case ltblb13 => kcj_all))))
  (k_with "mine rn" => ((refine' rn_end ?n0lb14 ?n1lb14 ?_ ?_ ?n2lb14 ?n3lb14 ?n4lb14 ?n5lb14 ?n6lb14 ?n7lb14 ?n8lb14 ?n9lb14; (case n0lb14 => assumption); (case n1lb14 => assumption); (case n2lb14 => assumption); (case n3lb14 => assumption); (case n4lb14 => assumption); (case n5lb14 => k_asm); (case n6lb14 => assumption); (case n7lb14 => k_mem); (case n8lb14 => kcj_all); (case n9lb14 => k_extra "mine ne"))))
  trivial
def LawRest (n : Nat) (G : List Stmt → Str → Scope → Value → Prop) : Option Obj → Prop
  | some ⟨_, _, .func fd, _⟩ => (match fd.body with | .stmts body => ∀ cdv, G (body.drop n) fd.qualname fd.scope cdv | _ => False)
  | _ => False
theorem law_rest_of {n : Nat} {G : List Stmt → Str → Scope → Value → Prop} {K : Frag} {f : Addr} {o : Obj} (e : K.lookup f = some o) (h : LawRest n G (some o)) : LawRest n G (K.lookup f) := by rw [e]; exact h
theorem law_b_of {n : Nat} {G G2 G3 : List Stmt → Str → Scope → Value → Prop} {K : Frag} {f : Addr} {o : Obj} (t2 : LawTurn 8 G2 (K.lookup f)) (t3 : LawTurn 9 G3 (K.lookup f)) (e : K.lookup f = some o) (h : LawTurn 8 G2 (some o) → LawTurn 9 G3 (some o) → LawRest n G (some o)) : LawRest n G (K.lookup f) := by
  rw [e] at t2 t3 ⊢; exact h t2 t3
theorem put7 {m : Str → Option Value} {x0 x1 x2 x3 x4 x5 x6 : Str} {v0 v1 v2 v3 v4 v5 v6 : Option Value} (e0 : m x0 = v0) (e1 : m x1 = v1) (e2 : m x2 = v2) (e3 : m x3 = v3) (e4 : m x4 = v4) (e5 : m x5 = v5) (e6 : m x6 = v6) : (fun y => if y = x0 then v0 else if y = x1 then v1 else if y = x2 then v2 else if y = x3 then v3 else if y = x4 then v4 else if y = x5 then v5 else if y = x6 then v6 else m y) = m := funext fun y => by
  by_cases q0 : y = x0
  · simp only [if_pos q0]; rw [q0, e0]
  by_cases q1 : y = x1
  · simp only [if_neg q0, if_pos q1]; rw [q1, e1]
  by_cases q2 : y = x2
  · simp only [if_neg q0, if_neg q1, if_pos q2]; rw [q2, e2]
  by_cases q3 : y = x3
  · simp only [if_neg q0, if_neg q1, if_neg q2, if_pos q3]; rw [q3, e3]
  by_cases q4 : y = x4
  · simp only [if_neg q0, if_neg q1, if_neg q2, if_neg q3, if_pos q4]; rw [q4, e4]
  by_cases q5 : y = x5
  · simp only [if_neg q0, if_neg q1, if_neg q2, if_neg q3, if_neg q4, if_pos q5]; rw [q5, e5]
  by_cases q6 : y = x6
  · simp only [if_neg q0, if_neg q1, if_neg q2, if_neg q3, if_neg q4, if_neg q5, if_pos q6]; rw [q6, e6]
  simp only [if_neg q0, if_neg q1, if_neg q2, if_neg q3, if_neg q4, if_neg q5, if_neg q6]

theorem iter2 {prog : Program} {w : World} {mean : ExcName → Option Value} {mg mb : Str → Option Value} {body : List Stmt} {qual : Str} {scope : Scope} {cdv : Value} (tn : Turn2 prog w mean mg mb body qual scope cdv) (v f1 f2 d : Int → Int) (c3 a0 a1 a2 a3 b s : Int) (HL : Letters a0 a1 a2 a3 b s v f1 f2 d c3) {tb ts tr ur vr : Tok} {G e0 e1 e2 e3 Z VL w0 w1 w2 w3 w4 w5 R r : Addr} {t0 u0 t1 u1 t2 u2 t3 u3 t8 u8 tw0 uw0 tw1 uw1 tw2 uw2 tw3 uw3 tw4 uw4 tw5 uw5 : Tok} {k0 k1 k2 k3 k8 kG kV kw0 kw1 kw2 kw3 kw4 kw5 : Nat} {oR : Obj} {led : List (Addr × Obj)} {m : Str → Option Value} {dp un : Nat} {gd : Option (List Code)} {fa : Addr} {outer : List Env} {A₀ : Around} {base h₀ : Heap} {L : Addr} {st : Shared} {Q : Flow → Shared → Prop} {E : Value → Shared → Prop} (B : Below A₀ base outer h₀) (X : Frag.In (Mine.hd.heap_39 w.params) h₀) (T' : Top Mine.hd.view_39 (looseW Mine.hd.view_39 [Str.ofString "BasicError"]) mean mg mb h₀) (hd : dp + 20 < recursionLimit) (hu : un + 200 < cLine) (hE : PassesOwn (model prog w) (ktrTop dp un gd qual scope L fa cdv (cellsFrom (L + 1) scope.names []) outer) (envOfC qual scope L fa cdv) E)
    (FF : Fr h₀ L st.heap m) (NN : News h₀ L st.heap led) (g0 : m (Str.ofString "engine") = some (.ref G)) (g1 : m (Str.ofString "total") = some (.ref Z)) (g2 : m (Str.ofString "start") = some (.ref G)) (g3 : m (Str.ofString "values") = some (.ref VL)) (g4 : m (Str.ofString "rates") = some (.ref R)) (g5 : m (Str.ofString "begin") = some (.int b tb)) (g6 : m (Str.ofString "stride") = some (.int s ts)) (sub : SubL [(G, W.listOf #[.ref e0, .ref e1, .ref e2, .ref e3] kG), (e0, tupO (nf (-4) (v 0)).1 (nf (-4) (v 0)).2 t0 u0 k0), (e1, tupO (nf (-4) (f1 0)).1 (nf (-4) (f1 0)).2 t1 u1 k1), (e2, tupO (nf (-4) (f2 0)).1 (nf (-4) (f2 0)).2 t2 u2 k2), (e3, tupO (nf (-4) c3).1 (nf (-4) c3).2 t3 u3 k3), (G, W.listOf #[.ref e0, .ref e1, .ref e2, .ref e3] kG), (e0, tupO (nf (-4) (v 0)).1 (nf (-4) (v 0)).2 t0 u0 k0), (e1, tupO (nf (-4) (f1 0)).1 (nf (-4) (f1 0)).2 t1 u1 k1), (e2, tupO (nf (-4) (f2 0)).1 (nf (-4) (f2 0)).2 t2 u2 k2), (e3, tupO (nf (-4) c3).1 (nf (-4) c3).2 t3 u3 k3), (Z, tupO 0 0 t8 u8 k8), (VL, W.listOf #[.ref w0, .ref w1, .ref w2, .ref w3, .ref w4, .ref w5] kV), (w0, tupO (nf (-4) (v 0)).1 (nf (-4) (v 0)).2 tw0 uw0 kw0), (w1, tupO (nf (-4) (v 1)).1 (nf (-4) (v 1)).2 tw1 uw1 kw1), (w2, tupO (nf (-4) (v 2)).1 (nf (-4) (v 2)).2 tw2 uw2 kw2), (w3, tupO (nf (-4) (v 3)).1 (nf (-4) (v 3)).2 tw3 uw3 kw3), (w4, tupO (nf (-4) (v 4)).1 (nf (-4) (v 4)).2 tw4 uw4 kw4), (w5, tupO (nf (-4) (v 5)).1 (nf (-4) (v 5)).2 tw5 uw5 kw5), (R, oR)] led) (hcR : oR.cls = .type "list") (RR : IsRange st.heap r 0 5 1 tr ur vr)
    (hQ : ∀ (G' e0' e1' e2' : Addr) (tt0 uu0 tt1 uu1 tt2 uu2 : Tok) (kk0 kk1 kk2 kG' : Nat) (mm : Str → Option Value) (h : Heap) (tk : Nat), Fr h₀ L h (fun y => if y = Str.ofString "engine" then some (.ref G') else if y = Str.ofString "rates" then some (.ref R) else if y = Str.ofString "begin" then some (.int b tb) else if y = Str.ofString "stride" then some (.int s ts) else mm y) → News h₀ L h [(G', W.listOf #[.ref e0', .ref e1', .ref e2', .ref e3] kG'), (e0', tupO (nf (-4) (v 5)).1 (nf (-4) (v 5)).2 tt0 uu0 kk0), (e1', tupO (nf (-4) (f1 5)).1 (nf (-4) (f1 5)).2 tt1 uu1 kk1), (e2', tupO (nf (-4) (f2 5)).1 (nf (-4) (f2 5)).2 tt2 uu2 kk2), (e3, tupO (nf (-4) c3).1 (nf (-4) c3).2 t3 u3 k3), (R, oR)] → Q .next { st with heap := h, toks := tk }) :
    wpAny (model prog w) (ktrTop dp un gd qual scope L fa cdv (cellsFrom (L + 1) scope.names []) outer) (pyIter (.ref r)) (fun it s₂ => LoopAtV prog w (ktrTop dp un gd qual scope L fa cdv (cellsFrom (L + 1) scope.names []) outer) h₀ (envOfC qual scope L fa cdv) (Str.ofString "turn") body Q E it s₂) E st := by
  have hm : (fun y => if y = Str.ofString "engine" then some (.ref G) else if y = Str.ofString "total" then some (.ref Z) else if y = Str.ofString "start" then some (.ref G) else if y = Str.ofString "values" then some (.ref VL) else if y = Str.ofString "rates" then some (.ref R) else if y = Str.ofString "begin" then some (.int b tb) else if y = Str.ofString "stride" then some (.int s ts) else m y) = m := put7 g0 g1 g2 g3 g4 g5 g6
  have F2 : Fr h₀ L st.heap (fun y => if y = Str.ofString "engine" then some (.ref G) else if y = Str.ofString "total" then some (.ref Z) else if y = Str.ofString "start" then some (.ref G) else if y = Str.ofString "values" then some (.ref VL) else if y = Str.ofString "rates" then some (.ref R) else if y = Str.ofString "begin" then some (.int b tb) else if y = Str.ofString "stride" then some (.int s ts) else m y) := by rw [hm]; exact FF
  exact iter_rangeUnr (n := 5) rfl RR (by decide) (by decide) F2 (fun a ha => NN a (SubL.mem sub a ha)) (fun I _ => loop2 tn v f1 f2 d c3 b s tb ts I G e0 e1 e2 e3 Z VL w0 w1 w2 w3 w4 w5 R t0 u0 t1 u1 t2 u2 t3 u3 t8 u8 tw0 uw0 tw1 uw1 tw2 uw2 tw3 uw3 tw4 uw4 tw5 uw5 k0 k1 k2 k3 k8 kG kV kw0 kw1 kw2 kw3 kw4 kw5 oR hcR dp un gd fa outer A₀ base h₀ L st Q E B X T' hd hu hE HL.on0_0 HL.on1_0 HL.on2_0 HL.on0_1 HL.on1_1 HL.on2_1 HL.on0_2 HL.on1_2 HL.on2_2 HL.on0_3 HL.on1_3 HL.on2_3 HL.on0_4 HL.on1_4 HL.on2_4 HL.bk2_5 HL.bk1_5 HL.bk0_5 HL.bk2_4 HL.bk1_4 HL.bk0_4 HL.bk2_3 HL.bk1_3 HL.bk0_3 HL.bk2_2 HL.bk1_2 HL.bk0_2 HL.bk2_1 HL.bk1_1 HL.bk0_1 HL.bk2_0 HL.bk1_0 HL.bk0_0 HL.bk2_m1 HL.bk1_m1 HL.bk0_m1 HL.di1 HL.di2 HL.di3 HL.di4 HL.di5 HL.to0 HL.to1 HL.to2 HL.to3 HL.to4 HL.tv1 HL.tv2 HL.tv3 HL.tv4 HL.tv5 HL.nw1 HL.nw2 HL.nw3 HL.nw4 HL.nw5 HL.bv0 HL.bv1 HL.bv2 HL.bv3 HL.bv4 HL.bv5 HL.bv6 HL.bv7 HL.b10 HL.b20 HL.b11 HL.b21 HL.b12 HL.b22 HL.b13 HL.b23 HL.b14 HL.b24 HL.b15 HL.b25 HL.b16 HL.b26 HL.b17 HL.b27 HL.b3 HL.bd1 HL.bd2 HL.bd3 HL.bd4 HL.bd5 hQ m)
theorem iter3 {prog : Program} {w : World} {mean : ExcName → Option Value} {mg mb : Str → Option Value} {body : List Stmt} {qual : Str} {scope : Scope} {cdv : Value} (tn : Turn3 prog w mean mg mb body qual scope cdv) (v f1 f2 d : Int → Int) (c3 a0 a1 a2 a3 b s : Int) (HL : Letters a0 a1 a2 a3 b s v f1 f2 d c3) (S0 : 1 ≤ s) (S1 : s ≤ 5) (hb : b.natAbs ≤ 9) (ra0 : a0.natAbs ≤ 1000) (ra1 : a1.natAbs ≤ 1000) (ra2 : a2.natAbs ≤ 1000) (ra3 : a3.natAbs ≤ 1000) {tb ts tr ur vr ta0 ta1 ta2 ta3 : Tok} {G e0 e1 e2 e3 R r : Addr} {t0 u0 t1 u1 t2 u2 t3 u3 : Tok} {k0 k1 k2 k3 kG' : Nat} {m : Str → Option Value} {dp un : Nat} {gd : Option (List Code)} {fa : Addr} {outer : List Env} {A₀ : Around} {base h₀ : Heap} {L : Addr} {st : Shared} {Q : Flow → Shared → Prop} {E : Value → Shared → Prop} (B : Below A₀ base outer h₀) (X : Frag.In (Mine.hd.heap_39 w.params) h₀) (T' : Top Mine.hd.view_39 (looseW Mine.hd.view_39 [Str.ofString "BasicError"]) mean mg mb h₀) (hd : dp + 20 < recursionLimit) (hu : un + 200 < cLine) (hE : PassesOwn (model prog w) (ktrTop dp un gd qual scope L fa cdv (cellsFrom (L + 1) scope.names []) outer) (envOfC qual scope L fa cdv) E)
    (FF : Fr h₀ L st.heap (fun y => if y = Str.ofString "engine" then some (.ref G) else if y = Str.ofString "rates" then some (.ref R) else if y = Str.ofString "begin" then some (.int b tb) else if y = Str.ofString "stride" then some (.int s ts) else m y)) (NN : News h₀ L st.heap [(G, W.listOf #[.ref e0, .ref e1, .ref e2, .ref e3] kG'), (e0, tupO (nf (-4) (v 5)).1 (nf (-4) (v 5)).2 t0 u0 k0), (e1, tupO (nf (-4) (f1 5)).1 (nf (-4) (f1 5)).2 t1 u1 k1), (e2, tupO (nf (-4) (f2 5)).1 (nf (-4) (f2 5)).2 t2 u2 k2), (e3, tupO (nf (-4) c3).1 (nf (-4) c3).2 t3 u3 k3), (R, LCg.lst [.int a0 ta0, .int a1 ta1, .int a2 ta2, .int a3 ta3])]) (RR : IsRange st.heap r 0 7 1 tr ur vr)
    (hQ : ∀ (h : Heap) (tk : Nat) (m9 : Str → Option Value), Fr h₀ L h m9 → Q .next { st with heap := h, toks := tk }) :
    wpAny (model prog w) (ktrTop dp un gd qual scope L fa cdv (cellsFrom (L + 1) scope.names []) outer) (pyIter (.ref r)) (fun it s₂ => LoopAtV prog w (ktrTop dp un gd qual scope L fa cdv (cellsFrom (L + 1) scope.names []) outer) h₀ (envOfC qual scope L fa cdv) (Str.ofString "turn") body Q E it s₂) E st := by
  exact iter_rangeUnr (n := 7) rfl RR (by decide) (by decide) FF NN (fun I _ => loop3 tn v f1 f2 d c3 a0 a1 a2 a3 b s tb ts ta0 ta1 ta2 ta3 I G e0 e1 e2 e3 R t0 u0 t1 u1 t2 u2 t3 u3 k0 k1 k2 k3 kG' dp un gd fa outer A₀ base h₀ L st Q E B X T' hd hu hE HL.on0_0 HL.on1_0 HL.on2_0 HL.on0_1 HL.on1_1 HL.on2_1 HL.on0_2 HL.on1_2 HL.on2_2 HL.on0_3 HL.on1_3 HL.on2_3 HL.on0_4 HL.on1_4 HL.on2_4 HL.bk2_5 HL.bk1_5 HL.bk0_5 HL.bk2_4 HL.bk1_4 HL.bk0_4 HL.bk2_3 HL.bk1_3 HL.bk0_3 HL.bk2_2 HL.bk1_2 HL.bk0_2 HL.bk2_1 HL.bk1_1 HL.bk0_1 HL.bk2_0 HL.bk1_0 HL.bk0_0 HL.bk2_m1 HL.bk1_m1 HL.bk0_m1 HL.di1 HL.di2 HL.di3 HL.di4 HL.di5 HL.to0 HL.to1 HL.to2 HL.to3 HL.to4 HL.tv1 HL.tv2 HL.tv3 HL.tv4 HL.tv5 HL.nw1 HL.nw2 HL.nw3 HL.nw4 HL.nw5 HL.bv0 HL.bv1 HL.bv2 HL.bv3 HL.bv4 HL.bv5 HL.bv6 HL.bv7 HL.b10 HL.b20 HL.b11 HL.b21 HL.b12 HL.b22 HL.b13 HL.b23 HL.b14 HL.b24 HL.b15 HL.b25 HL.b16 HL.b26 HL.b17 HL.b27 HL.b3 HL.bd1 HL.bd2 HL.bd3 HL.bd4 HL.bd5 HL.du0 HL.du1 HL.du2 HL.du3 HL.du4 HL.du5 HL.du6 HL.du7 S0 S1 hb ra0 ra1 ra2 ra3 hQ m)

theorem nf0a : (nf (-4) 0).1 = 0 := by rw [nf_zero]
theorem nf0b : (nf (-4) 0).2 = 0 := by rw [nf_zero]
theorem eqv_l2 : PyData.eqv (.list [.tuple [.int 0, .int 0], .tuple [.int 0, .int 0]]) (.list [.tuple [.int 0, .int 0], .tuple [.int 0, .int 0]]) = true := by simp [PyData.eqv, PyData.eqvAll]
theorem nel2 {prog : Program} {w : World} {A : Around} {E : Value → Shared → Prop} {s : Shared} {h₀ : Heap} {L D D' pa8 qa8 pa9 qa9 : Addr} {news : List (Addr × Obj)} {x y z o : Int} {t1 t2 t3 t4 u1 u2 u3 u4 : Tok} {c c' c1 c2 c3 c4 : Nat} {Q : Value → Shared → Prop}
    (N : News h₀ L s.heap news) (ha : (D, W.listOf #[.ref pa8, .ref qa8] c) ∈ news) (hb : (D', W.listOf #[.ref pa9, .ref qa9] c') ∈ news) (h1 : (pa8, tupO x y t1 t2 c1) ∈ news) (h2 : (qa8, tupO z o t3 t4 c2) ∈ news) (h3 : (pa9, tupO 0 0 u1 u2 c3) ∈ news) (h4 : (qa9, tupO 0 0 u3 u4 c4) ∈ news)
    (e1 : x = 0) (e2 : y = 0) (e3 : z = 0) (e4 : o = 0) (hu : A.units + 64 < cLine) (h : Q (.bool false) s) : wpAny (model prog w) A (compareOp .NotEq (.ref D) (.ref D')) Q E s := by
  subst e1; subst e2; subst e3; subst e4
  exact ne_dataH (reads_list_at (N _ ha).1 rfl rfl (ReadsAll.cons (reads_tt (N _ h1).1) (ReadsAll.cons (reads_tt (N _ h2).1) ReadsAll.nil))) (reads_list_at (N _ hb).1 rfl rfl (ReadsAll.cons (reads_tt (N _ h3).1) (ReadsAll.cons (reads_tt (N _ h4).1) ReadsAll.nil))) rfl rfl hu (by rw [eqv_l2]; exact h)





theorem lines_LB_2 : True := by
  (k_with "compareOp NotEq ref ref" => ((k_here; k_dflt (refine' nel2 ?calb15 ?cblb15 ?cclb15 ?cdlb15 ?celb15 ?cflb15 ?cglb15 ?chlb15 ?cilb15 ?cjlb15 ?cklb15 ?culb15 ?_; (case calb15 => k_asm); (case cblb15 => k_mem); (case cclb15 => k_mem); (case cdlb15 => k_mem); (case celb15 => k_mem); (case cflb15 => k_mem); (case cglb15 => k_mem); (case chlb15 => first | exact nf0a | exact nf0b | exact rfl); (case cilb15 => first | exact nf0a | exact nf0b | exact rfl); (case cjlb15 => first | exact nf0a | exact nf0b | exact rfl); (case cklb15 => first | exact nf0a | exact nf0b | exact rfl); (case culb15 => ktr_units)))))
  (k_with "mine got4" => ((intro zzv9 zzh9 zztk9 zzR9; obtain ⟨zzD9, zzg1, zzg2, zzg3, zzt1, zzu1, zzt2, zzu2, zzt3, zzu3, zzc1, zzc2, zzc3, zzc9, zze9, zzF9, zzN9⟩ := zzR9; subst zze9; (try dsimp only); (try k_fold); (try k_sweep))))
  (k_with "mine got6" => ((intro zzv9 zzh9 zztk9 zzR9; obtain ⟨zzD9, zzg1, zzg2, zzg3, zzg4, zzg5, zzt1, zzu1, zzt2, zzu2, zzt3, zzu3, zzt4, zzu4, zzt5, zzu5, zzc1, zzc2, zzc3, zzc4, zzc5, zzc9, zze9, zzF9, zzN9⟩ := zzR9; subst zze9; (try dsimp only); (try k_fold); (try k_sweep))))
  (k_with "mine got" => ((intro zzD9 zzt9 zzu9 zzc9 zzh9 zztk9 zzF9 zzN9 zzl9; (try dsimp only); (try k_fold); (try k_sweep))))
  (k_with "exec Assign cons ListComp" => ((k_here; k_dflt (refine LCg.Assign_ListComp_U (F₀ := by k_asm) (by rfl) (by with_unfolding_all rfl) (by with_unfolding_all rfl) (by decide) (by rfl) (by decide) (by rfl) (by rfl) (by rfl) ?_))))
  (k_with "eval ListComp" => ((k_here; k_dflt (refine LCg.ListComp_U (F₀ := by k_asm) (by with_unfolding_all rfl) (by decide) (by rfl) (by decide) (by rfl) ?_))))
  (k_with "CompSrc" => ((k_here; k_dflt (first | (refine LCg.CompSrc.range (by rfl) (by k_asm) (by k_asm) (by assumption) (by first | decide | rfl) (by first | rfl | decide) (by first | size_fits | exact Nat.le_of_ble_eq_true rfl) ?_; intro zzg'; lcg_lit) | (refine LCg.CompSrc.ledger (by rfl) (by k_asm) (by k_asm) (by k_mem) (by first | size_fits | exact Nat.le_of_ble_eq_true rfl) ?_; intro zzg'; lcg_lit)))))
  (k_with "CompRest" => ((with_unfolding_all first | (refine LCg.CompRest.succ ?_; intro zzv' zzI' zzoI' zzC' zzoC' zzD' zzm' zzh' zztk' zzE' zzhv' zzhC' zzhx' zzF' zzN' zzoff' zzne'; clear zzne'; (first | lcg_open zzhv' | (obtain ⟨zzt9', zzhv9'⟩ := zzhv'; subst zzhv9'))) | refine LCg.CompRest.zero ?_)))
  (k_with "CompEnd" => ((refine' comp_end1 ?ce1lb23 ?ce2lb23 ?ce3lb23 ?ce4lb23 ?ce5lb23 ?_; (case ce1lb23 => assumption); (case ce2lb23 => assumption); (case ce3lb23 => assumption); (case ce4lb23 => assumption); (case ce5lb23 => lcg_src))))
  (k_with "FinE" => (((unfold LCg.FinE); intro zzD' zzh' zztk' zzF' zzN' zzo1'; (try simp only [List.nil_append, List.cons_append] at zzN'); (try dsimp only))))
  (k_with "FinA" => (((unfold LCg.FinA); intro zzD' zzh' zztk' zzF' zzN' zzo1'; (try simp only [List.nil_append, List.cons_append] at zzN'); (try dsimp only))))
  (k_with "mine ne2" => (first | (with_reducible assumption) | (refine' Nat.ne_of_lt (lt_mem ?hlb26 ?mlb26); (case hlb26 => (with_reducible assumption)); (case mlb26 => k_extra "mine mem")) | (refine' ne_cell ?hlb26 ?mlb26; (case hlb26 => (with_reducible assumption)); (case mlb26 => k_extra "mine mem")) | (refine' ne_mem ?hlb26 ?mlb26; (case hlb26 => (with_reducible assumption)); (case mlb26 => k_extra "mine mem")) | (refine' ne_mem1 ?hlb26 ?mlb26; (case hlb26 => (with_reducible assumption)); (case mlb26 => k_extra "mine mem")) | (refine' (ne_mem3 ?hlb26 ?mlb26).1; (case hlb26 => (with_reducible assumption)); (case mlb26 => k_extra "mine mem")) | (refine' (ne_mem3 ?hlb26 ?mlb26).2.1; (case hlb26 => (with_reducible assumption)); (case mlb26 => k_extra "mine mem")) | (refine' (ne_mem3 ?hlb26 ?mlb26).2.2; (case hlb26 => (with_reducible assumption)); (case mlb26 => k_extra "mine mem"))))
  (k_with "mine kall" => (first | (refine' all_off ?hlb27 ?elb27; (case hlb27 => (with_reducible assumption)); (case elb27 => rfl)) | (refine' all_cell ?hlb27 ?elb27; (case hlb27 => (with_reducible assumption)); (case elb27 => rfl))))
  (k_with "newList" => ((k_here; k_dflt (refine' newList_K ?k1lb28 ?k2lb28 ?_; (case k1lb28 => k_asm); (case k2lb28 => k_asm); k_whole); intro zzl' zzh' zzF' zzN' zzl1; (try k_sweep))))
  (k_with "mine kne" => (((refine neN ?_); (try dsimp only); first | (refine' Nat.ne_of_gt (lt_mem ?hlb29 ?mlb29); (case hlb29 => (with_reducible assumption)); (case mlb29 => k_extra "mine mem")) | k_extra "mine ne2" | (refine' Ne.symm ?xlb29; (case xlb29 => k_extra "mine ne2")) | fail "mine ne")))
  (k_with "mine same" => (exact rfl))
  (k_with "mine vb" => (first | (refine' Hid.out ?hidlb31; (case hidlb31 => with_reducible assumption)) | decide))
  (k_with "mine hw" => ((refine' Hid.out ?hidlb32; (case hidlb32 => with_reducible assumption))))
  (k_with "mine is" => (first | (with_reducible refine' is_nf ?ialb33 ?iblb33 ?iclb33; (case ialb33 => decide); (case iblb33 => decide); (case iclb33 => k_extra "mine vb")) | (refine' Hid.out ?hidlb33; (case hidlb33 => with_reducible assumption)) | (with_reducible refine' is_zero ?ialb33 ?iblb33; (case ialb33 => decide); (case iblb33 => decide))))
  (k_with "mine nfa" => (first | (refine' Hid.out ?hidlb34; (case hidlb34 => with_reducible assumption)) | (refine' nf_abs ?ialb34 ?iblb34 ?iclb34; (case ialb34 => decide); (case iblb34 => decide); (case iclb34 => k_extra "mine vb")) | decide))
  (k_with "mine item" => ((k_here; k_dflt (refine' lst_item ?tlb35 ?alb35 ?blb35 ?clb35 ?dlb35 ?_; (case tlb35 => k_asm); (case alb35 => k_extra "mine mem"); (case blb35 => k_extra "mine vb"); (case clb35 => k_extra "mine vb"); (case dlb35 => first | (refine' Hid.out ?hidlb35; (case hidlb35 => with_reducible assumption)) | rfl); k_whole))))
  (k_with "call ref" => ((k_here; (with_reducible show wpAny _ _ (call (Value.ref 239) _) _ _ _); k_dflt (refine' sp_use (diff62_spec _ _ _ _ _ _ _ _ _ _ _ _ _ _ _ _ _ _ _ _ _ _ _ _ _ _ _ _ _ _ _ _ _ _ _ _ _ ?w1lb36 ?w2lb36 ?w3lb36 ?w4lb36 ?w5lb36 ?b0lb36 ?b1lb36 ?b2lb36 ?b3lb36 ?b4lb36 ?b5lb36) ?kglb36 ?knlb36 ?_; (case kglb36 => k_extra "mine gs"); (case knlb36 => k_extra "mine need"); (case w1lb36 => (refine' Hid.out ?hidlb36; (case hidlb36 => with_reducible assumption))); (case w2lb36 => (refine' Hid.out ?hidlb36; (case hidlb36 => with_reducible assumption))); (case w3lb36 => (refine' Hid.out ?hidlb36; (case hidlb36 => with_reducible assumption))); (case w4lb36 => (refine' Hid.out ?hidlb36; (case hidlb36 => with_reducible assumption))); (case w5lb36 => (refine' Hid.out ?hidlb36; (case hidlb36 => with_reducible assumption))); (case b0lb36 => (refine' Hid.out ?hidlb36; (case hidlb36 => with_reducible assumption))); (case b1lb36 => (refine' Hid.out ?hidlb36; (case hidlb36 => with_reducible assumption))); (case b2lb36 => (refine' Hid.out ?hidlb36; (case hidlb36 => with_reducible assumption))); (case b3lb36 => (refine' Hid.out ?hidlb36; (case hidlb36 => with_reducible assumption))); (case b4lb36 => (refine' Hid.out ?hidlb36; (case hidlb36 => with_reducible assumption))); (case b5lb36 => (refine' Hid.out ?hidlb36; (case hidlb36 => with_reducible assumption))); k_extra "mine got6"))))
  (k_with "call ref" => ((k_here; (with_reducible show wpAny _ _ (call (Value.ref 239) _) _ _ _); k_dflt (refine' sp_use (diff42_spec _ _ _ _ _ _ _ _ _ _ _ _ _ _ _ _ _ _ _ _ _ _ _ _ _ ?w1lb37 ?w2lb37 ?w3lb37 ?b0lb37 ?b1lb37 ?b2lb37 ?b3lb37) ?kglb37 ?knlb37 ?_; (case kglb37 => k_extra "mine gs"); (case knlb37 => k_extra "mine need"); (case w1lb37 => (refine' Hid.out ?hidlb37; (case hidlb37 => with_reducible assumption))); (case w2lb37 => (refine' Hid.out ?hidlb37; (case hidlb37 => with_reducible assumption))); (case w3lb37 => (refine' Hid.out ?hidlb37; (case hidlb37 => with_reducible assumption))); (case b0lb37 => (refine' Hid.out ?hidlb37; (case hidlb37 => with_reducible assumption))); (case b1lb37 => (refine' Hid.out ?hidlb37; (case hidlb37 => with_reducible assumption))); (case b2lb37 => (refine' Hid.out ?hidlb37; (case hidlb37 => with_reducible assumption))); (case b3lb37 => (refine' Hid.out ?hidlb37; (case hidlb37 => with_reducible assumption))); k_extra "mine got4"))))
  (k_with "call ref" => ((k_here; (with_reducible show wpAny _ _ (call (Value.ref 234) _) _ _ _); k_dflt (refine' sp_rb (is_spec _ _ _ _ _ _ _ _ _ _ _ _ _ _ _ _ _ ?h0lb38 ?h1lb38 ?h2lb38 ?h3lb38 ?hblb38 ?hVlb38 ?duelb38) ?kglb38 ?knlb38 ?_; (case kglb38 => k_extra "mine gs"); (case knlb38 => k_extra "mine need"); (case h0lb38 => k_extra "mine vb"); (case h1lb38 => k_extra "mine vb"); (case h2lb38 => k_extra "mine vb"); (case h3lb38 => k_extra "mine vb"); (case duelb38 => (refine' Hid.out ?hidlb38; (case hidlb38 => with_reducible assumption))); (case hblb38 => k_extra "mine vb"); (case hVlb38 => k_extra "mine vb"); k_extra "mine gotb"))))
  (k_with "subscriptTail Name Slice ref ref" => ((k_here; (with_reducible show wpAny _ _ (subscriptTail _ (PySem.Expr.Slice _ _ none _) (Value.ref _) (Value.ref _)) _ _ _); k_dflt (refine' kms_slice_lit (s := { heap := _, gens := _, drawn := _, toks := _, os := _ }) ?Flb39 ?Nlb39 ?llb39 ?plb39 ?qlb39 ?elb39 ?_ ?slb39 ?tlb39 ?zlb39; (case Flb39 => k_asm); (case Nlb39 => k_asm); (case llb39 => kmk_list); (case plb39 => kmk_part); (case qlb39 => kmk_part); (case elb39 => kl_lit); (case slb39 => with_unfolding_all rfl); (case tlb39 => kmk_pure); (case zlb39 => kmk_size)); intro zzD' zzh' zzF' zzN' zzl1; (try k_sweep))))
  (k_with "pyIter ref" => (((with_reducible show wpAny _ _ (pyIter (Value.ref _)) (fun it s₂ => LoopAtV _ _ _ _ _ _ _ _ _ it s₂) _ _); refine Hid.out ?_)))
  (k_with "exec For Name Call cons nil" => ((k_here; (rename Fr _ _ _ _ => zzlF'); k_dflt (refine' For_invVF zzlF' ?k1lb41 ?k2lb41 ?_ ?k3lb41 ?k4lb41; (case k1lb41 => exact rfl); (case k2lb41 => exact rfl); (case k3lb41 => (intro _; with_unfolding_all rfl)); (case k4lb41 => first | assumption | passes_own | with_unfolding_all passes_own); k_whole))))
  trivial
theorem law_b {prog : Program} {w : World} {mean : ExcName → Option Value} {mg mb : Str → Option Value} : LawRest 5 (fun rest qual scope cdv =>
    ∀ (a0 a1 a2 a3 b s : Int) (v f1 f2 d : Int → Int) (c3 : Int) (tb ts ta0 ta1 ta2 ta3 : Tok) (VL w0 w1 w2 w3 w4 w5 R : Addr) (tw0 uw0 tw1 uw1 tw2 uw2 tw3 uw3 tw4 uw4 tw5 uw5 : Tok) (kw0 kw1 kw2 kw3 kw4 kw5 kV : Nat) (dp un : Nat) (gd : Option (List Code)) (fa : Addr) (outer : List Env) (A₀ : Around) (base h₀ : Heap) (L : Addr) (m : Str → Option Value) (st : Shared) (Q : Flow → Shared → Prop) (E : Value → Shared → Prop),
      a0.natAbs ≤ 9 → a1.natAbs ≤ 9 → a2.natAbs ≤ 9 → a3.natAbs ≤ 9 → b.natAbs ≤ 9 → 1 ≤ s → s ≤ 5 → Letters a0 a1 a2 a3 b s v f1 f2 d c3 →
      Below A₀ base outer h₀ → Frag.In (Mine.hd.heap_39 w.params) h₀ → Top Mine.hd.view_39 (looseW Mine.hd.view_39 [Str.ofString "BasicError"]) mean mg mb h₀ → Fr h₀ L st.heap (fun y => if y = Str.ofString "values" then some (.ref VL) else if y = Str.ofString "rates" then some (.ref R) else if y = Str.ofString "begin" then some (.int b tb) else if y = Str.ofString "stride" then some (.int s ts) else m y) →
      News h₀ L st.heap [(VL, W.listOf #[.ref w0, .ref w1, .ref w2, .ref w3, .ref w4, .ref w5] kV), (w0, tupO (nf (-4) (v 0)).1 (nf (-4) (v 0)).2 tw0 uw0 kw0), (w1, tupO (nf (-4) (v 1)).1 (nf (-4) (v 1)).2 tw1 uw1 kw1), (w2, tupO (nf (-4) (v 2)).1 (nf (-4) (v 2)).2 tw2 uw2 kw2), (w3, tupO (nf (-4) (v 3)).1 (nf (-4) (v 3)).2 tw3 uw3 kw3), (w4, tupO (nf (-4) (v 4)).1 (nf (-4) (v 4)).2 tw4 uw4 kw4), (w5, tupO (nf (-4) (v 5)).1 (nf (-4) (v 5)).2 tw5 uw5 kw5), (R, LCg.lst [.int a0 ta0, .int a1 ta1, .int a2 ta2, .int a3 ta3])] → dp + 20 < recursionLimit → un + 200 < cLine → PassesOwn (model prog w) (ktrTop dp un gd qual scope L fa cdv (cellsFrom (L + 1) scope.names []) outer) (envOfC qual scope L fa cdv) E →
      (∀ h' tk' m9, Fr h₀ L h' m9 → Q (.ret (.bool true)) { st with heap := h', toks := tk' }) →
      wpAny (model prog w) (ktrTop dp un gd qual scope L fa cdv (cellsFrom (L + 1) scope.names []) outer) (execs rest (envOfC qual scope L fa cdv)) Q E st) ((Mine.hd.heap_39 w.params).lookup 256) := by
  (have dummy : (PySem.Challenge.rw_tk0005_01.Holds → Frag.In (Mine.hd.heap_39 w.params) default → True) := by (k_fill; intros; trivial))
  clear dummy
  refine' law_b_of (t2_spec (prog := prog) (w := w) (mean := mean) (mg := mg) (mb := mb)) (t3_spec (prog := prog) (w := w) (mean := mean) (mg := mg) (mb := mb)) ?e ?h
  (case e => k_dflt k_is)
  intro tn2 tn3
  unfold LawTurn at tn2 tn3
  unfold LawRest
  intro cdv
  replace tn2 := tn2 cdv
  replace tn3 := tn3 cdv
  dsimp only [List.drop] at tn2 tn3
  intro a0 a1 a2 a3 b s v f1 f2 d c3 tb ts ta0 ta1 ta2 ta3 VL w0 w1 w2 w3 w4 w5 R tw0 uw0 tw1 uw1 tw2 uw2 tw3 uw3 tw4 uw4 tw5 uw5 kw0 kw1 kw2 kw3 kw4 kw5 kV dp un gd fa outer A₀ base h₀ L m st Q E h0 h1 h2 h3 hb hs0 hs1 HL B X T F N hd hu hE hret
  dsimp only [List.drop]
  have di1 : Hid ((v 1 - v 0) = f1 0) := ⟨HL.di1⟩
  have di2 : Hid (((v 2 - v 1) - (v 1 - v 0)) = f2 0) := ⟨HL.di2⟩
  have di3 : Hid ((((v 3 - v 2) - (v 2 - v 1)) - ((v 2 - v 1) - (v 1 - v 0))) = c3) := ⟨HL.di3⟩
  have di4 : Hid (((((v 4 - v 3) - (v 3 - v 2)) - ((v 3 - v 2) - (v 2 - v 1))) - (((v 3 - v 2) - (v 2 - v 1)) - ((v 2 - v 1) - (v 1 - v 0)))) = 0) := ⟨HL.di4⟩
  have di5 : Hid ((((((v 5 - v 4) - (v 4 - v 3)) - ((v 4 - v 3) - (v 3 - v 2))) - (((v 4 - v 3) - (v 3 - v 2)) - ((v 3 - v 2) - (v 2 - v 1)))) - ((((v 4 - v 3) - (v 3 - v 2)) - ((v 3 - v 2) - (v 2 - v 1))) - (((v 3 - v 2) - (v 2 - v 1)) - ((v 2 - v 1) - (v 1 - v 0))))) = 0) := ⟨HL.di5⟩
  have bv2 : Hid ((v 0).natAbs < 4000000) := ⟨HL.bv2⟩
  have bv3 : Hid ((v 1).natAbs < 4000000) := ⟨HL.bv3⟩
  have bv4 : Hid ((v 2).natAbs < 4000000) := ⟨HL.bv4⟩
  have bv5 : Hid ((v 3).natAbs < 4000000) := ⟨HL.bv5⟩
  have bv6 : Hid ((v 4).natAbs < 4000000) := ⟨HL.bv6⟩
  have bv7 : Hid ((v 5).natAbs < 4000000) := ⟨HL.bv7⟩
  have c9 : Hid (c3.natAbs < 1000000000) := ⟨Nat.lt_trans HL.b3 (by decide)⟩
  have du3c : Hid (1000 * 0 + 100 * 0 * s + 10 * 0 * s * s + 6 * a3 * s * s * s = c3) := ⟨HL.du3c⟩
  have qa : Hid ((6 * a3).natAbs ≤ 1000) := ⟨by omega⟩
  have qs : Hid (s.natAbs ≤ 1000) := ⟨by omega⟩
  obtain ⟨H0, H1, H2, H3, H4⟩ : Hid (a0.natAbs ≤ 9) ∧ Hid (a1.natAbs ≤ 9) ∧ Hid (a2.natAbs ≤ 9) ∧ Hid (a3.natAbs ≤ 9) ∧ Hid (b.natAbs ≤ 9) := ⟨⟨h0⟩, ⟨h1⟩, ⟨h2⟩, ⟨h3⟩, ⟨hb⟩⟩
  clear h0 h1 h2 h3 hb
  show wpAny _ _ _ _ _ _
  w_top off
  k_steps
  rename Fr _ _ _ _ => FF
  rename News _ _ _ _ => NN
  rename IsRange _ _ _ _ _ _ _ _ => RR
  refine Hid.mk ?_
  refine' iter2 tn2 v f1 f2 d c3 a0 a1 a2 a3 b s HL B X T hd hu hE FF NN ?yg0 ?yg1 ?yg2 ?yg3 ?yg4 ?yg5 ?yg6 ?ysub ?yhcR RR ?yhQ
  case yg0 => exact rfl
  case yg1 => exact rfl
  case yg2 => exact rfl
  case yg3 => exact rfl
  case yg4 => exact rfl
  case yg5 => exact rfl
  case yg6 => exact rfl
  case ysub => k_subL
  case yhcR => exact rfl
  clear FF NN RR
  intro G' e0' e1' e2' tt0 uu0 tt1 uu1 tt2 uu2 kk0 kk1 kk2 kG' mm h tk F9 N9
  w_top off
  k_steps
  rename Fr _ _ _ _ => FF
  rename News _ _ _ _ => NN
  rename IsRange _ _ _ _ _ _ _ _ => RR
  refine Hid.mk ?_
  refine' iter3 tn3 v f1 f2 d c3 a0 a1 a2 a3 b s HL hs0 hs1 H4.out (Nat.le_trans H0.out (by decide)) (Nat.le_trans H1.out (by decide)) (Nat.le_trans H2.out (by decide)) (Nat.le_trans H3.out (by decide)) B X T hd hu hE FF NN RR ?yhR
  clear FF NN RR
  intro h tk m9 F9
  w_top off
  k_steps
  all_goals exact hret _ _ m9 F9
end
end Mine
end
section
-- part LA
open PySem PySem.W PySem.Calls PyProof.Rows
namespace Mine
noncomputable section


theorem lines_LA_1 : True := by
  k_with_none
  (k_with "subscriptTail Name Constant ref int" => ((k_here; k_dflt (refine' item_tupleT ?tla1 ?ala1 ?bla1 ?cla1 ?dla1 ?_; (case tla1 => exact News.isTup (by k_asm) (by k_extra "mine mem")); (case ala1 => decide); (case bla1 => decide); (case cla1 => rfl); (case dla1 => rfl); k_whole))))
  (k_with "mine item" => ((k_here; k_dflt (refine' lst_item ?tla2 ?ala2 ?bla2 ?cla2 ?dla2 ?_; (case tla2 => k_asm); (case ala2 => k_extra "mine mem"); (case bla2 => first | decide | omega); (case cla2 => first | decide | omega); (case dla2 => rfl); k_whole))))
  (k_with "subscriptTail Name Constant ref int" => (k_extra "mine item"))
  (k_with "subscriptTail Name Name ref int" => (k_extra "mine item"))
  (k_with "subscriptTail Name BinOp ref int" => (k_extra "mine item"))
  (k_with "mine gotb" => ((intro zzh9 zztk9 zzF9 zzN9; (try dsimp only); (try k_fold); (try k_sweep))))
  (k_with "mine mem" => (first | exact List.Mem.head _ | (refine' List.mem_cons_of_mem _ ?mmla7; (case mmla7 => k_extra "mine mem"))))
  (k_with "mine need" => (first | exact List.forall_mem_nil _ | (refine' List.forall_mem_cons.mpr (And.intro ?nala8 ?nbla8); (case nala8 => k_mem); (case nbla8 => k_extra "mine need"))))
  (k_with "mine gs" => ((refine' Gd.mk ?k1la9 ?k2la9 ?k3la9 ?k4la9 ?k5la9 ?kKla9 ?kdla9 ?kula9; (case k1la9 => k_asm); (case k2la9 => k_asm); (case k3la9 => k_asm); (case k4la9 => k_asm); (case k5la9 => k_asm); (case kKla9 => first | exact rfl | assumption); (case kdla9 => ktr_room); (case kula9 => ktr_units))))
  (k_with "mine got" => ((intro zzD9 zzt9 zzu9 zzc9 zzh9 zztk9 zzF9 zzN9 zzl9; (try dsimp only); (try k_fold); (try k_sweep))))
  (k_with "mine lt" => (first | assumption | (refine' lt_drop ?ltala11 ?ltbla11; (case ltala11 => assumption); (case ltbla11 => kcj_all))))
  (k_with "mine rt" => ((refine' rt_end ?_ ?_ ?fFla12 ?fNla12 ?fmla12 ?fsla12 ?flla12; (case fFla12 => k_asm); (case fNla12 => assumption); (case fmla12 => k_mem); (case fsla12 => kcj_all); (case flla12 => k_extra "mine lt"))))
  (k_with "mine ne" => (first | (refine' ne_of_lts ?ltala13 ?ltbla13; (case ltala13 => assumption); (case ltbla13 => kcj_all)) | (refine' ne_of_nes ?ltala13 ?ltbla13; (case ltala13 => assumption); (case ltbla13 => kcj_all))))
  (k_with "mine rn" => ((refine' rn_end ?n0la14 ?n1la14 ?_ ?_ ?n2la14 ?n3la14 ?n4la14 ?n5la14 ?n6la14 ?n7la14 ?n8la14 ?n9la14; (case n0la14 => assumption); (case n1la14 => assumption); (case n2la14 => assumption); (case n3la14 => assumption); (case n4la14 => assumption); (case n5la14 => k_asm); (case n6la14 => assumption); (case n7la14 => k_mem); (case n8la14 => kcj_all); (case n9la14 => k_extra "mine ne"))))
  trivial
theorem ne_cls {h₀ h : Heap} {L a b : Addr} {o o' : Obj} {news : List (Addr × Obj)} (N : News h₀ L h news) (ha : (a, o) ∈ news) (hb : (b, o') ∈ news) (hc : o.cls ≠ o'.cls) : a ≠ b := fun e => by
  subst e
  have h1 := (N _ ha).1
  rw [(N _ hb).1] at h1
  exact hc (congrArg Obj.cls (Option.some.inj h1)).symm
theorem fr_cut {h₀ h : Heap} {L : Addr} {va vb vc vd : Option Value} {m0 : Str → Option Value} (F : Fr h₀ L h (fun y => if y = Str.ofString "x" then va else if y = Str.ofString "turn" then vb else if y = Str.ofString "x" then vc else if y = Str.ofString "turn" then vd else m0 y)) : Fr h₀ L h (fun y => if y = Str.ofString "x" then va else if y = Str.ofString "turn" then vb else m0 y) := by
  have e : (fun y => if y = Str.ofString "x" then va else if y = Str.ofString "turn" then vb else if y = Str.ofString "x" then vc else if y = Str.ofString "turn" then vd else m0 y) = (fun y => if y = Str.ofString "x" then va else if y = Str.ofString "turn" then vb else m0 y) := funext fun y => by
    by_cases q1 : y = Str.ofString "x"
    · simp only [if_pos q1]
    by_cases q2 : y = Str.ofString "turn"
    · simp only [if_neg q1, if_pos q2]
    simp only [if_neg q1, if_neg q2]
  rw [← e]; exact F
theorem fr4 {h₀ h : Heap} {L : Addr} {m : Str → Option Value} {x0 x1 x2 x3 : Str} {v0 v1 v2 v3 : Option Value} (F : Fr h₀ L h m) (e0 : m x0 = v0) (e1 : m x1 = v1) (e2 : m x2 = v2) (e3 : m x3 = v3) : Fr h₀ L h (fun y => if y = x0 then v0 else if y = x1 then v1 else if y = x2 then v2 else if y = x3 then v3 else m y) := by
  rw [put4 e0 e1 e2 e3]; exact F
theorem law_a_of {n n' : Nat} {G G2 : List Stmt → Str → Scope → Value → Prop} {K : Frag} {f : Addr} {o : Obj} (t2 : LawRest n' G2 (K.lookup f)) (e : K.lookup f = some o) (h : LawRest n' G2 (some o) → LawRest n G (some o)) : LawRest n G (K.lookup f) := by
  rw [e] at t2 ⊢; exact h t2
theorem upd_0 {h₀ h : Heap} {L A0 I D l : Addr} {ix iy x0 y0 : Int} {t0 u0 : Tok} {k0 n n' : Nat} {dT : Data} {vs vs' : Array Value} {rest : List (Addr × Obj)} (N : News h₀ L h ((A0, tupO x0 y0 t0 u0 k0) :: (I, itR ix iy) :: (D, { cls := Value.type "tuple", data := dT }) :: (l, W.listOf vs n) :: rest)) (off : ∀ p ∈ rest, p.1 ≠ l) :
    Upd l (W.listOf vs n) (W.listOf vs' n') ((A0, tupO x0 y0 t0 u0 k0) :: (I, itR ix iy) :: (D, { cls := Value.type "tuple", data := dT }) :: (l, W.listOf vs n) :: rest) ((A0, tupO x0 y0 t0 u0 k0) :: (I, itR ix iy) :: (D, { cls := Value.type "tuple", data := dT }) :: (l, W.listOf vs' n') :: rest) :=
  .tail (ne_cls N (.head _) (.tail _ (.tail _ (.tail _ (.head _)))) (by intro e; exact absurd (Value.type.inj e) (by decide))) (.tail (ne_cls N (.tail _ (.head _)) (.tail _ (.tail _ (.tail _ (.head _)))) (by intro e; exact absurd (Value.type.inj e) (by decide))) (.tail (ne_cls N (.tail _ (.tail _ (.head _))) (.tail _ (.tail _ (.tail _ (.head _)))) (by intro e; exact absurd (Value.type.inj e) (by decide))) (.head off)))
theorem end_0 {h₀ h' : Heap} {L XN MD WK I D l B0 TD P3 P2 P1 P0 R  : Addr} {ix iy x0 y0 x1 y1 x2 y2 x4 y4 x5 y5 x6 y6 x7 y7 x8 y8 : Int} {t0 u0 t1 u1 t2 u2 t4 u4 t5 u5 t6 u6 t7 u7 t8 u8 : Tok} {k0 k1 k2 k4 k5 k6 k7 k8 n : Nat} {dT : Data} {vs : Array Value} {vt vr : List Value} {rest : (Str → Option Value) → List (Addr × Obj) → Prop} {s₁ : Shared} {tk : Nat} {va vb  : Option Value} {m0 : Str → Option Value}
    (F : Fr h₀ L h' (fun y => if y = Str.ofString "x" then va else if y = Str.ofString "turn" then vb else m0 y)) (N : News h₀ L h' [(XN, tupO x0 y0 t0 u0 k0), (MD, tupO x1 y1 t1 u1 k1), (WK, tupO x2 y2 t2 u2 k2), (I, itR ix iy), (D, { cls := Value.type "tuple", data := dT }), (l, W.listOf vs n), (B0, tupO x4 y4 t4 u4 k4), (TD, LCg.lst vt), (P3, tupO x5 y5 t5 u5 k5), (P2, tupO x6 y6 t6 u6 k6), (P1, tupO x7 y7 t7 u7 k7), (P0, tupO x8 y8 t8 u8 k8), (R, LCg.lst vr)]) (r : rest (fun y => if y = Str.ofString "x" then va else if y = Str.ofString "turn" then vb else m0 y) [(XN, tupO x0 y0 t0 u0 k0), (WK, tupO x2 y2 t2 u2 k2), (l, W.listOf vs n), (B0, tupO x4 y4 t4 u4 k4), (TD, LCg.lst vt), (P3, tupO x5 y5 t5 u5 k5), (P2, tupO x6 y6 t6 u6 k6), (P1, tupO x7 y7 t7 u7 k7), (P0, tupO x8 y8 t8 u8 k8), (R, LCg.lst vr)]) : UnrEnd h₀ L s₁ I (itR ix iy) rest { s₁ with heap := h', toks := tk } :=
  UnrEnd.intro2 F N _ (by k_mem) (by k_subL) (by k_clsL) r
theorem upd_1 {h₀ h : Heap} {L A0 I l A1 W0 : Addr} {ix iy x0 y0 x1 y1 x2 y2 : Int} {t0 u0 t1 u1 t2 u2 : Tok} {k0 k1 k2 n n' : Nat}  {vs vs' : Array Value} {rest : List (Addr × Obj)} (N : News h₀ L h ((A0, tupO x0 y0 t0 u0 k0) :: (I, itR ix iy) :: (A1, tupO x1 y1 t1 u1 k1) :: (W0, tupO x2 y2 t2 u2 k2) :: (l, W.listOf vs n) :: rest)) (off : ∀ p ∈ rest, p.1 ≠ l) :
    Upd l (W.listOf vs n) (W.listOf vs' n') ((A0, tupO x0 y0 t0 u0 k0) :: (I, itR ix iy) :: (A1, tupO x1 y1 t1 u1 k1) :: (W0, tupO x2 y2 t2 u2 k2) :: (l, W.listOf vs n) :: rest) ((A0, tupO x0 y0 t0 u0 k0) :: (I, itR ix iy) :: (A1, tupO x1 y1 t1 u1 k1) :: (W0, tupO x2 y2 t2 u2 k2) :: (l, W.listOf vs' n') :: rest) :=
  .tail (ne_cls N (.head _) (.tail _ (.tail _ (.tail _ (.tail _ (.head _))))) (by intro e; exact absurd (Value.type.inj e) (by decide))) (.tail (ne_cls N (.tail _ (.head _)) (.tail _ (.tail _ (.tail _ (.tail _ (.head _))))) (by intro e; exact absurd (Value.type.inj e) (by decide))) (.tail (ne_cls N (.tail _ (.tail _ (.head _))) (.tail _ (.tail _ (.tail _ (.tail _ (.head _))))) (by intro e; exact absurd (Value.type.inj e) (by decide))) (.tail (ne_cls N (.tail _ (.tail _ (.tail _ (.head _)))) (.tail _ (.tail _ (.tail _ (.tail _ (.head _))))) (by intro e; exact absurd (Value.type.inj e) (by decide))) (.head off))))
theorem end_1 {h₀ h' : Heap} {L XN MD WK I XO l B0 TD P3 P2 P1 P0 R W0 : Addr} {ix iy x0 y0 x1 y1 x2 y2 x3 y3 x4 y4 x5 y5 x6 y6 x7 y7 x8 y8 x9 y9 : Int} {t0 u0 t1 u1 t2 u2 t3 u3 t4 u4 t5 u5 t6 u6 t7 u7 t8 u8 t9 u9 : Tok} {k0 k1 k2 k3 k4 k5 k6 k7 k8 k9 n : Nat}  {vs : Array Value} {vt vr : List Value} {rest : (Str → Option Value) → List (Addr × Obj) → Prop} {s₁ : Shared} {tk : Nat} {va vb vc vd : Option Value} {m0 : Str → Option Value}
    (F : Fr h₀ L h' (fun y => if y = Str.ofString "x" then va else if y = Str.ofString "turn" then vb else if y = Str.ofString "x" then vc else if y = Str.ofString "turn" then vd else m0 y)) (N : News h₀ L h' [(XN, tupO x0 y0 t0 u0 k0), (MD, tupO x1 y1 t1 u1 k1), (WK, tupO x2 y2 t2 u2 k2), (I, itR ix iy), (XO, tupO x3 y3 t3 u3 k3), (W0, tupO x4 y4 t4 u4 k4), (l, W.listOf vs n), (B0, tupO x5 y5 t5 u5 k5), (TD, LCg.lst vt), (P3, tupO x6 y6 t6 u6 k6), (P2, tupO x7 y7 t7 u7 k7), (P1, tupO x8 y8 t8 u8 k8), (P0, tupO x9 y9 t9 u9 k9), (R, LCg.lst vr)]) (r : rest (fun y => if y = Str.ofString "x" then va else if y = Str.ofString "turn" then vb else m0 y) [(XN, tupO x0 y0 t0 u0 k0), (WK, tupO x2 y2 t2 u2 k2), (W0, tupO x4 y4 t4 u4 k4), (l, W.listOf vs n), (B0, tupO x5 y5 t5 u5 k5), (TD, LCg.lst vt), (P3, tupO x6 y6 t6 u6 k6), (P2, tupO x7 y7 t7 u7 k7), (P1, tupO x8 y8 t8 u8 k8), (P0, tupO x9 y9 t9 u9 k9), (R, LCg.lst vr)]) : UnrEnd h₀ L s₁ I (itR ix iy) rest { s₁ with heap := h', toks := tk } :=
  UnrEnd.intro2 (fr_cut F) N _ (by k_mem) (by k_subL) (by k_clsL) r
theorem upd_2 {h₀ h : Heap} {L A0 I l A1 W0 W1 : Addr} {ix iy x0 y0 x1 y1 x2 y2 x3 y3 : Int} {t0 u0 t1 u1 t2 u2 t3 u3 : Tok} {k0 k1 k2 k3 n n' : Nat}  {vs vs' : Array Value} {rest : List (Addr × Obj)} (N : News h₀ L h ((A0, tupO x0 y0 t0 u0 k0) :: (I, itR ix iy) :: (A1, tupO x1 y1 t1 u1 k1) :: (W0, tupO x2 y2 t2 u2 k2) :: (W1, tupO x3 y3 t3 u3 k3) :: (l, W.listOf vs n) :: rest)) (off : ∀ p ∈ rest, p.1 ≠ l) :
    Upd l (W.listOf vs n) (W.listOf vs' n') ((A0, tupO x0 y0 t0 u0 k0) :: (I, itR ix iy) :: (A1, tupO x1 y1 t1 u1 k1) :: (W0, tupO x2 y2 t2 u2 k2) :: (W1, tupO x3 y3 t3 u3 k3) :: (l, W.listOf vs n) :: rest) ((A0, tupO x0 y0 t0 u0 k0) :: (I, itR ix iy) :: (A1, tupO x1 y1 t1 u1 k1) :: (W0, tupO x2 y2 t2 u2 k2) :: (W1, tupO x3 y3 t3 u3 k3) :: (l, W.listOf vs' n') :: rest) :=
  .tail (ne_cls N (.head _) (.tail _ (.tail _ (.tail _ (.tail _ (.tail _ (.head _)))))) (by intro e; exact absurd (Value.type.inj e) (by decide))) (.tail (ne_cls N (.tail _ (.head _)) (.tail _ (.tail _ (.tail _ (.tail _ (.tail _ (.head _)))))) (by intro e; exact absurd (Value.type.inj e) (by decide))) (.tail (ne_cls N (.tail _ (.tail _ (.head _))) (.tail _ (.tail _ (.tail _ (.tail _ (.tail _ (.head _)))))) (by intro e; exact absurd (Value.type.inj e) (by decide))) (.tail (ne_cls N (.tail _ (.tail _ (.tail _ (.head _)))) (.tail _ (.tail _ (.tail _ (.tail _ (.tail _ (.head _)))))) (by intro e; exact absurd (Value.type.inj e) (by decide))) (.tail (ne_cls N (.tail _ (.tail _ (.tail _ (.tail _ (.head _))))) (.tail _ (.tail _ (.tail _ (.tail _ (.tail _ (.head _)))))) (by intro e; exact absurd (Value.type.inj e) (by decide))) (.head off)))))
theorem end_2 {h₀ h' : Heap} {L XN MD WK I XO l B0 TD P3 P2 P1 P0 R W0 W1 : Addr} {ix iy x0 y0 x1 y1 x2 y2 x3 y3 x4 y4 x5 y5 x6 y6 x7 y7 x8 y8 x9 y9 x10 y10 : Int} {t0 u0 t1 u1 t2 u2 t3 u3 t4 u4 t5 u5 t6 u6 t7 u7 t8 u8 t9 u9 t10 u10 : Tok} {k0 k1 k2 k3 k4 k5 k6 k7 k8 k9 k10 n : Nat}  {vs : Array Value} {vt vr : List Value} {rest : (Str → Option Value) → List (Addr × Obj) → Prop} {s₁ : Shared} {tk : Nat} {va vb vc vd : Option Value} {m0 : Str → Option Value}
    (F : Fr h₀ L h' (fun y => if y = Str.ofString "x" then va else if y = Str.ofString "turn" then vb else if y = Str.ofString "x" then vc else if y = Str.ofString "turn" then vd else m0 y)) (N : News h₀ L h' [(XN, tupO x0 y0 t0 u0 k0), (MD, tupO x1 y1 t1 u1 k1), (WK, tupO x2 y2 t2 u2 k2), (I, itR ix iy), (XO, tupO x3 y3 t3 u3 k3), (W1, tupO x5 y5 t5 u5 k5), (W0, tupO x4 y4 t4 u4 k4), (l, W.listOf vs n), (B0, tupO x6 y6 t6 u6 k6), (TD, LCg.lst vt), (P3, tupO x7 y7 t7 u7 k7), (P2, tupO x8 y8 t8 u8 k8), (P1, tupO x9 y9 t9 u9 k9), (P0, tupO x10 y10 t10 u10 k10), (R, LCg.lst vr)]) (r : rest (fun y => if y = Str.ofString "x" then va else if y = Str.ofString "turn" then vb else m0 y) [(XN, tupO x0 y0 t0 u0 k0), (WK, tupO x2 y2 t2 u2 k2), (W1, tupO x5 y5 t5 u5 k5), (W0, tupO x4 y4 t4 u4 k4), (l, W.listOf vs n), (B0, tupO x6 y6 t6 u6 k6), (TD, LCg.lst vt), (P3, tupO x7 y7 t7 u7 k7), (P2, tupO x8 y8 t8 u8 k8), (P1, tupO x9 y9 t9 u9 k9), (P0, tupO x10 y10 t10 u10 k10), (R, LCg.lst vr)]) : UnrEnd h₀ L s₁ I (itR ix iy) rest { s₁ with heap := h', toks := tk } :=
  UnrEnd.intro2 (fr_cut F) N _ (by k_mem) (by k_subL) (by k_clsL) r
theorem upd_3 {h₀ h : Heap} {L A0 I l A1 W0 W1 W2 : Addr} {ix iy x0 y0 x1 y1 x2 y2 x3 y3 x4 y4 : Int} {t0 u0 t1 u1 t2 u2 t3 u3 t4 u4 : Tok} {k0 k1 k2 k3 k4 n n' : Nat}  {vs vs' : Array Value} {rest : List (Addr × Obj)} (N : News h₀ L h ((A0, tupO x0 y0 t0 u0 k0) :: (I, itR ix iy) :: (A1, tupO x1 y1 t1 u1 k1) :: (W0, tupO x2 y2 t2 u2 k2) :: (W1, tupO x3 y3 t3 u3 k3) :: (W2, tupO x4 y4 t4 u4 k4) :: (l, W.listOf vs n) :: rest)) (off : ∀ p ∈ rest, p.1 ≠ l) :
    Upd l (W.listOf vs n) (W.listOf vs' n') ((A0, tupO x0 y0 t0 u0 k0) :: (I, itR ix iy) :: (A1, tupO x1 y1 t1 u1 k1) :: (W0, tupO x2 y2 t2 u2 k2) :: (W1, tupO x3 y3 t3 u3 k3) :: (W2, tupO x4 y4 t4 u4 k4) :: (l, W.listOf vs n) :: rest) ((A0, tupO x0 y0 t0 u0 k0) :: (I, itR ix iy) :: (A1, tupO x1 y1 t1 u1 k1) :: (W0, tupO x2 y2 t2 u2 k2) :: (W1, tupO x3 y3 t3 u3 k3) :: (W2, tupO x4 y4 t4 u4 k4) :: (l, W.listOf vs' n') :: rest) :=
  .tail (ne_cls N (.head _) (.tail _ (.tail _ (.tail _ (.tail _ (.tail _ (.tail _ (.head _))))))) (by intro e; exact absurd (Value.type.inj e) (by decide))) (.tail (ne_cls N (.tail _ (.head _)) (.tail _ (.tail _ (.tail _ (.tail _ (.tail _ (.tail _ (.head _))))))) (by intro e; exact absurd (Value.type.inj e) (by decide))) (.tail (ne_cls N (.tail _ (.tail _ (.head _))) (.tail _ (.tail _ (.tail _ (.tail _ (.tail _ (.tail _ (.head _))))))) (by intro e; exact absurd (Value.type.inj e) (by decide))) (.tail (ne_cls N (.tail _ (.tail _ (.tail _ (.head _)))) (.tail _ (.tail _ (.tail _ (.tail _ (.tail _ (.tail _ (.head _))))))) (by intro e; exact absurd (Value.type.inj e) (by decide))) (.tail (ne_cls N (.tail _ (.tail _ (.tail _ (.tail _ (.head _))))) (.tail _ (.tail _ (.tail _ (.tail _ (.tail _ (.tail _ (.head _))))))) (by intro e; exact absurd (Value.type.inj e) (by decide))) (.tail (ne_cls N (.tail _ (.tail _ (.tail _ (.tail _ (.tail _ (.head _)))))) (.tail _ (.tail _ (.tail _ (.tail _ (.tail _ (.tail _ (.head _))))))) (by intro e; exact absurd (Value.type.inj e) (by decide))) (.head off))))))
theorem end_3 {h₀ h' : Heap} {L XN MD WK I XO l B0 TD P3 P2 P1 P0 R W0 W1 W2 : Addr} {ix iy x0 y0 x1 y1 x2 y2 x3 y3 x4 y4 x5 y5 x6 y6 x7 y7 x8 y8 x9 y9 x10 y10 x11 y11 : Int} {t0 u0 t1 u1 t2 u2 t3 u3 t4 u4 t5 u5 t6 u6 t7 u7 t8 u8 t9 u9 t10 u10 t11 u11 : Tok} {k0 k1 k2 k3 k4 k5 k6 k7 k8 k9 k10 k11 n : Nat}  {vs : Array Value} {vt vr : List Value} {rest : (Str → Option Value) → List (Addr × Obj) → Prop} {s₁ : Shared} {tk : Nat} {va vb vc vd : Option Value} {m0 : Str → Option Value}
    (F : Fr h₀ L h' (fun y => if y = Str.ofString "x" then va else if y = Str.ofString "turn" then vb else if y = Str.ofString "x" then vc else if y = Str.ofString "turn" then vd else m0 y)) (N : News h₀ L h' [(XN, tupO x0 y0 t0 u0 k0), (MD, tupO x1 y1 t1 u1 k1), (WK, tupO x2 y2 t2 u2 k2), (I, itR ix iy), (XO, tupO x3 y3 t3 u3 k3), (W2, tupO x6 y6 t6 u6 k6), (W1, tupO x5 y5 t5 u5 k5), (W0, tupO x4 y4 t4 u4 k4), (l, W.listOf vs n), (B0, tupO x7 y7 t7 u7 k7), (TD, LCg.lst vt), (P3, tupO x8 y8 t8 u8 k8), (P2, tupO x9 y9 t9 u9 k9), (P1, tupO x10 y10 t10 u10 k10), (P0, tupO x11 y11 t11 u11 k11), (R, LCg.lst vr)]) (r : rest (fun y => if y = Str.ofString "x" then va else if y = Str.ofString "turn" then vb else m0 y) [(XN, tupO x0 y0 t0 u0 k0), (WK, tupO x2 y2 t2 u2 k2), (W2, tupO x6 y6 t6 u6 k6), (W1, tupO x5 y5 t5 u5 k5), (W0, tupO x4 y4 t4 u4 k4), (l, W.listOf vs n), (B0, tupO x7 y7 t7 u7 k7), (TD, LCg.lst vt), (P3, tupO x8 y8 t8 u8 k8), (P2, tupO x9 y9 t9 u9 k9), (P1, tupO x10 y10 t10 u10 k10), (P0, tupO x11 y11 t11 u11 k11), (R, LCg.lst vr)]) : UnrEnd h₀ L s₁ I (itR ix iy) rest { s₁ with heap := h', toks := tk } :=
  UnrEnd.intro2 (fr_cut F) N _ (by k_mem) (by k_subL) (by k_clsL) r
theorem upd_4 {h₀ h : Heap} {L A0 I l A1 W0 W1 W2 W3 : Addr} {ix iy x0 y0 x1 y1 x2 y2 x3 y3 x4 y4 x5 y5 : Int} {t0 u0 t1 u1 t2 u2 t3 u3 t4 u4 t5 u5 : Tok} {k0 k1 k2 k3 k4 k5 n n' : Nat}  {vs vs' : Array Value} {rest : List (Addr × Obj)} (N : News h₀ L h ((A0, tupO x0 y0 t0 u0 k0) :: (I, itR ix iy) :: (A1, tupO x1 y1 t1 u1 k1) :: (W0, tupO x2 y2 t2 u2 k2) :: (W1, tupO x3 y3 t3 u3 k3) :: (W2, tupO x4 y4 t4 u4 k4) :: (W3, tupO x5 y5 t5 u5 k5) :: (l, W.listOf vs n) :: rest)) (off : ∀ p ∈ rest, p.1 ≠ l) :
    Upd l (W.listOf vs n) (W.listOf vs' n') ((A0, tupO x0 y0 t0 u0 k0) :: (I, itR ix iy) :: (A1, tupO x1 y1 t1 u1 k1) :: (W0, tupO x2 y2 t2 u2 k2) :: (W1, tupO x3 y3 t3 u3 k3) :: (W2, tupO x4 y4 t4 u4 k4) :: (W3, tupO x5 y5 t5 u5 k5) :: (l, W.listOf vs n) :: rest) ((A0, tupO x0 y0 t0 u0 k0) :: (I, itR ix iy) :: (A1, tupO x1 y1 t1 u1 k1) :: (W0, tupO x2 y2 t2 u2 k2) :: (W1, tupO x3 y3 t3 u3 k3) :: (W2, tupO x4 y4 t4 u4 k4) :: (W3, tupO x5 y5 t5 u5 k5) :: (l, W.listOf vs' n') :: rest) :=
  .tail (ne_cls N (.head _) (.tail _ (.tail _ (.tail _ (.tail _ (.tail _ (.tail _ (.tail _ (.head _)))))))) (by intro e; exact absurd (Value.type.inj e) (by decide))) (.tail (ne_cls N (.tail _ (.head _)) (.tail _ (.tail _ (.tail _ (.tail _ (.tail _ (.tail _ (.tail _ (.head _)))))))) (by intro e; exact absurd (Value.type.inj e) (by decide))) (.tail (ne_cls N (.tail _ (.tail _ (.head _))) (.tail _ (.tail _ (.tail _ (.tail _ (.tail _ (.tail _ (.tail _ (.head _)))))))) (by intro e; exact absurd (Value.type.inj e) (by decide))) (.tail (ne_cls N (.tail _ (.tail _ (.tail _ (.head _)))) (.tail _ (.tail _ (.tail _ (.tail _ (.tail _ (.tail _ (.tail _ (.head _)))))))) (by intro e; exact absurd (Value.type.inj e) (by decide))) (.tail (ne_cls N (.tail _ (.tail _ (.tail _ (.tail _ (.head _))))) (.tail _ (.tail _ (.tail _ (.tail _ (.tail _ (.tail _ (.tail _ (.head _)))))))) (by intro e; exact absurd (Value.type.inj e) (by decide))) (.tail (ne_cls N (.tail _ (.tail _ (.tail _ (.tail _ (.tail _ (.head _)))))) (.tail _ (.tail _ (.tail _ (.tail _ (.tail _ (.tail _ (.tail _ (.head _)))))))) (by intro e; exact absurd (Value.type.inj e) (by decide))) (.tail (ne_cls N (.tail _ (.tail _ (.tail _ (.tail _ (.tail _ (.tail _ (.head _))))))) (.tail _ (.tail _ (.tail _ (.tail _ (.tail _ (.tail _ (.tail _ (.head _)))))))) (by intro e; exact absurd (Value.type.inj e) (by decide))) (.head off)))))))
theorem end_4 {h₀ h' : Heap} {L XN MD WK I XO l B0 TD P3 P2 P1 P0 R W0 W1 W2 W3 : Addr} {ix iy x0 y0 x1 y1 x2 y2 x3 y3 x4 y4 x5 y5 x6 y6 x7 y7 x8 y8 x9 y9 x10 y10 x11 y11 x12 y12 : Int} {t0 u0 t1 u1 t2 u2 t3 u3 t4 u4 t5 u5 t6 u6 t7 u7 t8 u8 t9 u9 t10 u10 t11 u11 t12 u12 : Tok} {k0 k1 k2 k3 k4 k5 k6 k7 k8 k9 k10 k11 k12 n : Nat}  {vs : Array Value} {vt vr : List Value} {rest : (Str → Option Value) → List (Addr × Obj) → Prop} {s₁ : Shared} {tk : Nat} {va vb vc vd : Option Value} {m0 : Str → Option Value}
    (F : Fr h₀ L h' (fun y => if y = Str.ofString "x" then va else if y = Str.ofString "turn" then vb else if y = Str.ofString "x" then vc else if y = Str.ofString "turn" then vd else m0 y)) (N : News h₀ L h' [(XN, tupO x0 y0 t0 u0 k0), (MD, tupO x1 y1 t1 u1 k1), (WK, tupO x2 y2 t2 u2 k2), (I, itR ix iy), (XO, tupO x3 y3 t3 u3 k3), (W3, tupO x7 y7 t7 u7 k7), (W2, tupO x6 y6 t6 u6 k6), (W1, tupO x5 y5 t5 u5 k5), (W0, tupO x4 y4 t4 u4 k4), (l, W.listOf vs n), (B0, tupO x8 y8 t8 u8 k8), (TD, LCg.lst vt), (P3, tupO x9 y9 t9 u9 k9), (P2, tupO x10 y10 t10 u10 k10), (P1, tupO x11 y11 t11 u11 k11), (P0, tupO x12 y12 t12 u12 k12), (R, LCg.lst vr)]) (r : rest (fun y => if y = Str.ofString "x" then va else if y = Str.ofString "turn" then vb else m0 y) [(XN, tupO x0 y0 t0 u0 k0), (WK, tupO x2 y2 t2 u2 k2), (W3, tupO x7 y7 t7 u7 k7), (W2, tupO x6 y6 t6 u6 k6), (W1, tupO x5 y5 t5 u5 k5), (W0, tupO x4 y4 t4 u4 k4), (l, W.listOf vs n), (B0, tupO x8 y8 t8 u8 k8), (TD, LCg.lst vt), (P3, tupO x9 y9 t9 u9 k9), (P2, tupO x10 y10 t10 u10 k10), (P1, tupO x11 y11 t11 u11 k11), (P0, tupO x12 y12 t12 u12 k12), (R, LCg.lst vr)]) : UnrEnd h₀ L s₁ I (itR ix iy) rest { s₁ with heap := h', toks := tk } :=
  UnrEnd.intro2 (fr_cut F) N _ (by k_mem) (by k_subL) (by k_clsL) r
theorem upd_5 {h₀ h : Heap} {L A0 I l A1 W0 W1 W2 W3 W4 : Addr} {ix iy x0 y0 x1 y1 x2 y2 x3 y3 x4 y4 x5 y5 x6 y6 : Int} {t0 u0 t1 u1 t2 u2 t3 u3 t4 u4 t5 u5 t6 u6 : Tok} {k0 k1 k2 k3 k4 k5 k6 n n' : Nat}  {vs vs' : Array Value} {rest : List (Addr × Obj)} (N : News h₀ L h ((A0, tupO x0 y0 t0 u0 k0) :: (I, itR ix iy) :: (A1, tupO x1 y1 t1 u1 k1) :: (W0, tupO x2 y2 t2 u2 k2) :: (W1, tupO x3 y3 t3 u3 k3) :: (W2, tupO x4 y4 t4 u4 k4) :: (W3, tupO x5 y5 t5 u5 k5) :: (W4, tupO x6 y6 t6 u6 k6) :: (l, W.listOf vs n) :: rest)) (off : ∀ p ∈ rest, p.1 ≠ l) :
    Upd l (W.listOf vs n) (W.listOf vs' n') ((A0, tupO x0 y0 t0 u0 k0) :: (I, itR ix iy) :: (A1, tupO x1 y1 t1 u1 k1) :: (W0, tupO x2 y2 t2 u2 k2) :: (W1, tupO x3 y3 t3 u3 k3) :: (W2, tupO x4 y4 t4 u4 k4) :: (W3, tupO x5 y5 t5 u5 k5) :: (W4, tupO x6 y6 t6 u6 k6) :: (l, W.listOf vs n) :: rest) ((A0, tupO x0 y0 t0 u0 k0) :: (I, itR ix iy) :: (A1, tupO x1 y1 t1 u1 k1) :: (W0, tupO x2 y2 t2 u2 k2) :: (W1, tupO x3 y3 t3 u3 k3) :: (W2, tupO x4 y4 t4 u4 k4) :: (W3, tupO x5 y5 t5 u5 k5) :: (W4, tupO x6 y6 t6 u6 k6) :: (l, W.listOf vs' n') :: rest) :=
  .tail (ne_cls N (.head _) (.tail _ (.tail _ (.tail _ (.tail _ (.tail _ (.tail _ (.tail _ (.tail _ (.head _))))))))) (by intro e; exact absurd (Value.type.inj e) (by decide))) (.tail (ne_cls N (.tail _ (.head _)) (.tail _ (.tail _ (.tail _ (.tail _ (.tail _ (.tail _ (.tail _ (.tail _ (.head _))))))))) (by intro e; exact absurd (Value.type.inj e) (by decide))) (.tail (ne_cls N (.tail _ (.tail _ (.head _))) (.tail _ (.tail _ (.tail _ (.tail _ (.tail _ (.tail _ (.tail _ (.tail _ (.head _))))))))) (by intro e; exact absurd (Value.type.inj e) (by decide))) (.tail (ne_cls N (.tail _ (.tail _ (.tail _ (.head _)))) (.tail _ (.tail _ (.tail _ (.tail _ (.tail _ (.tail _ (.tail _ (.tail _ (.head _))))))))) (by intro e; exact absurd (Value.type.inj e) (by decide))) (.tail (ne_cls N (.tail _ (.tail _ (.tail _ (.tail _ (.head _))))) (.tail _ (.tail _ (.tail _ (.tail _ (.tail _ (.tail _ (.tail _ (.tail _ (.head _))))))))) (by intro e; exact absurd (Value.type.inj e) (by decide))) (.tail (ne_cls N (.tail _ (.tail _ (.tail _ (.tail _ (.tail _ (.head _)))))) (.tail _ (.tail _ (.tail _ (.tail _ (.tail _ (.tail _ (.tail _ (.tail _ (.head _))))))))) (by intro e; exact absurd (Value.type.inj e) (by decide))) (.tail (ne_cls N (.tail _ (.tail _ (.tail _ (.tail _ (.tail _ (.tail _ (.head _))))))) (.tail _ (.tail _ (.tail _ (.tail _ (.tail _ (.tail _ (.tail _ (.tail _ (.head _))))))))) (by intro e; exact absurd (Value.type.inj e) (by decide))) (.tail (ne_cls N (.tail _ (.tail _ (.tail _ (.tail _ (.tail _ (.tail _ (.tail _ (.head _)))))))) (.tail _ (.tail _ (.tail _ (.tail _ (.tail _ (.tail _ (.tail _ (.tail _ (.head _))))))))) (by intro e; exact absurd (Value.type.inj e) (by decide))) (.head off))))))))
theorem end_5 {h₀ h' : Heap} {L XN MD WK I XO l B0 TD P3 P2 P1 P0 R W0 W1 W2 W3 W4 : Addr} {ix iy x0 y0 x1 y1 x2 y2 x3 y3 x4 y4 x5 y5 x6 y6 x7 y7 x8 y8 x9 y9 x10 y10 x11 y11 x12 y12 x13 y13 : Int} {t0 u0 t1 u1 t2 u2 t3 u3 t4 u4 t5 u5 t6 u6 t7 u7 t8 u8 t9 u9 t10 u10 t11 u11 t12 u12 t13 u13 : Tok} {k0 k1 k2 k3 k4 k5 k6 k7 k8 k9 k10 k11 k12 k13 n : Nat}  {vs : Array Value} {vt vr : List Value} {rest : (Str → Option Value) → List (Addr × Obj) → Prop} {s₁ : Shared} {tk : Nat} {va vb vc vd : Option Value} {m0 : Str → Option Value}
    (F : Fr h₀ L h' (fun y => if y = Str.ofString "x" then va else if y = Str.ofString "turn" then vb else if y = Str.ofString "x" then vc else if y = Str.ofString "turn" then vd else m0 y)) (N : News h₀ L h' [(XN, tupO x0 y0 t0 u0 k0), (MD, tupO x1 y1 t1 u1 k1), (WK, tupO x2 y2 t2 u2 k2), (I, itR ix iy), (XO, tupO x3 y3 t3 u3 k3), (W4, tupO x8 y8 t8 u8 k8), (W3, tupO x7 y7 t7 u7 k7), (W2, tupO x6 y6 t6 u6 k6), (W1, tupO x5 y5 t5 u5 k5), (W0, tupO x4 y4 t4 u4 k4), (l, W.listOf vs n), (B0, tupO x9 y9 t9 u9 k9), (TD, LCg.lst vt), (P3, tupO x10 y10 t10 u10 k10), (P2, tupO x11 y11 t11 u11 k11), (P1, tupO x12 y12 t12 u12 k12), (P0, tupO x13 y13 t13 u13 k13), (R, LCg.lst vr)]) (r : rest (fun y => if y = Str.ofString "x" then va else if y = Str.ofString "turn" then vb else m0 y) [(XN, tupO x0 y0 t0 u0 k0), (WK, tupO x2 y2 t2 u2 k2), (W4, tupO x8 y8 t8 u8 k8), (W3, tupO x7 y7 t7 u7 k7), (W2, tupO x6 y6 t6 u6 k6), (W1, tupO x5 y5 t5 u5 k5), (W0, tupO x4 y4 t4 u4 k4), (l, W.listOf vs n), (B0, tupO x9 y9 t9 u9 k9), (TD, LCg.lst vt), (P3, tupO x10 y10 t10 u10 k10), (P2, tupO x11 y11 t11 u11 k11), (P1, tupO x12 y12 t12 u12 k12), (P0, tupO x13 y13 t13 u13 k13), (R, LCg.lst vr)]) : UnrEnd h₀ L s₁ I (itR ix iy) rest { s₁ with heap := h', toks := tk } :=
  UnrEnd.intro2 (fr_cut F) N _ (by k_mem) (by k_subL) (by k_clsL) r









theorem lines_LA_2 : True := by
  (k_with "mine got" => ((intro zzD9 zzt9 zzu9 zzc9 zzh9 zztk9 zzF9 zzN9 zzl9; (try dsimp only); (try k_fold); (try k_sweep))))
  (k_with "exec Assign cons ListComp" => ((k_here; k_dflt (refine LCg.Assign_ListComp_U (F₀ := by k_asm) (by rfl) (by with_unfolding_all rfl) (by with_unfolding_all rfl) (by decide) (by rfl) (by decide) (by rfl) (by rfl) (by rfl) ?_))))
  (k_with "eval ListComp" => ((k_here; k_dflt (refine LCg.ListComp_U (F₀ := by k_asm) (by with_unfolding_all rfl) (by decide) (by rfl) (by decide) (by rfl) ?_))))
  (k_with "CompSrc" => ((k_here; k_dflt (first | (refine LCg.CompSrc.range (by rfl) (by k_asm) (by k_asm) (by assumption) (by first | decide | rfl) (by first | rfl | decide) (by first | size_fits | exact Nat.le_of_ble_eq_true rfl) ?_; intro zzg'; lcg_lit) | (refine LCg.CompSrc.ledger (by rfl) (by k_asm) (by k_asm) (by k_mem) (by first | size_fits | exact Nat.le_of_ble_eq_true rfl) ?_; intro zzg'; lcg_lit)))))
  (k_with "CompRest" => ((with_unfolding_all first | (refine LCg.CompRest.succ ?_; intro zzv' zzI' zzoI' zzC' zzoC' zzD' zzm' zzh' zztk' zzE' zzhv' zzhC' zzhx' zzF' zzN' zzoff' zzne'; clear zzne'; (first | lcg_open zzhv' | (obtain ⟨zzt9', zzhv9'⟩ := zzhv'; subst zzhv9'))) | refine LCg.CompRest.zero ?_)))
  (k_with "CompEnd" => ((refine' comp_end1 ?ce1la20 ?ce2la20 ?ce3la20 ?ce4la20 ?ce5la20 ?_; (case ce1la20 => assumption); (case ce2la20 => assumption); (case ce3la20 => assumption); (case ce4la20 => assumption); (case ce5la20 => lcg_src))))
  (k_with "FinE" => (((unfold LCg.FinE); intro zzD' zzh' zztk' zzF' zzN' zzo1'; (try simp only [List.nil_append, List.cons_append] at zzN'); (try dsimp only))))
  (k_with "FinA" => (((unfold LCg.FinA); intro zzD' zzh' zztk' zzF' zzN' zzo1'; (try simp only [List.nil_append, List.cons_append] at zzN'); (try dsimp only))))
  (k_with "mine ne2" => (first | (with_reducible assumption) | (refine' Nat.ne_of_lt (lt_mem ?hla23 ?mla23); (case hla23 => (with_reducible assumption)); (case mla23 => k_extra "mine mem")) | (refine' ne_cell ?hla23 ?mla23; (case hla23 => (with_reducible assumption)); (case mla23 => k_extra "mine mem")) | (refine' ne_mem ?hla23 ?mla23; (case hla23 => (with_reducible assumption)); (case mla23 => k_extra "mine mem")) | (refine' ne_mem1 ?hla23 ?mla23; (case hla23 => (with_reducible assumption)); (case mla23 => k_extra "mine mem")) | (refine' (ne_mem3 ?hla23 ?mla23).1; (case hla23 => (with_reducible assumption)); (case mla23 => k_extra "mine mem")) | (refine' (ne_mem3 ?hla23 ?mla23).2.1; (case hla23 => (with_reducible assumption)); (case mla23 => k_extra "mine mem")) | (refine' (ne_mem3 ?hla23 ?mla23).2.2; (case hla23 => (with_reducible assumption)); (case mla23 => k_extra "mine mem"))))
  (k_with "mine kall" => (first | (refine' all_off ?hla24 ?ela24; (case hla24 => (with_reducible assumption)); (case ela24 => rfl)) | (refine' all_cell ?hla24 ?ela24; (case hla24 => (with_reducible assumption)); (case ela24 => rfl))))
  (k_with "newList" => ((k_here; k_dflt (refine' newList_K ?k1la25 ?k2la25 ?_; (case k1la25 => k_asm); (case k2la25 => k_asm); k_whole); intro zzl' zzh' zzF' zzN' zzl1; (try k_sweep))))
  (k_with "mine kne" => (((refine neN ?_); (try dsimp only); first | (refine' Nat.ne_of_gt (lt_mem ?hla26 ?mla26); (case hla26 => (with_reducible assumption)); (case mla26 => k_extra "mine mem")) | k_extra "mine ne2" | (refine' Ne.symm ?xla26; (case xla26 => k_extra "mine ne2")) | fail "mine ne")))
  (k_with "mine same" => (exact rfl))
  (k_with "mine vb" => (first | (refine' Hid.out ?hidla28; (case hidla28 => with_reducible assumption)) | decide))
  (k_with "mine hw" => ((refine' Hid.out ?hidla29; (case hidla29 => with_reducible assumption))))
  (k_with "mine is" => (first | (with_reducible refine' is_nf ?iala30 ?ibla30 ?icla30; (case iala30 => decide); (case ibla30 => decide); (case icla30 => k_extra "mine vb")) | (refine' Hid.out ?hidla30; (case hidla30 => with_reducible assumption)) | (with_reducible refine' is_zero ?iala30 ?ibla30; (case iala30 => decide); (case ibla30 => decide))))
  (k_with "mine nfa" => (first | (refine' Hid.out ?hidla31; (case hidla31 => with_reducible assumption)) | (refine' nf_abs ?iala31 ?ibla31 ?icla31; (case iala31 => decide); (case ibla31 => decide); (case icla31 => k_extra "mine vb")) | decide))
  (k_with "mine hw" => (first | (refine' Hid.out ?hidla32; (case hidla32 => with_reducible assumption)) | exact rfl))
  (k_with "getMethod ref" => ((k_here; (with_reducible show wpAny _ _ (getMethod (Value.ref _) (Str.ofString "append") _) _ _ _); k_dflt (refine' getMethod_append_N ?Nla33 ?mla33 ?_ ?hcla33 ?hdla33; (case Nla33 => k_asm); (case mla33 => k_mem); (case hcla33 => rfl); (case hdla33 => rfl)))))
  (k_with "call builtin:list.append" => ((k_here; (with_reducible show wpAny _ _ (call (Value.builtin _) [Value.ref _, _]) _ _ _); k_dflt (refine' append_K ?k1la34 ?k2la34 ?k3la34 ?_ ?zla34; (case k1la34 => k_asm); (case k2la34 => k_asm); (case k3la34 => first | (refine' upd_0 ?unla34 ?uola34; (case unla34 => assumption); (case uola34 => k_all)) | (refine' upd_1 ?unla34 ?uola34; (case unla34 => assumption); (case uola34 => k_all)) | (refine' upd_2 ?unla34 ?uola34; (case unla34 => assumption); (case uola34 => k_all)) | (refine' upd_3 ?unla34 ?uola34; (case unla34 => assumption); (case uola34 => k_all)) | (refine' upd_4 ?unla34 ?uola34; (case unla34 => assumption); (case uola34 => k_all)) | (refine' upd_5 ?unla34 ?uola34; (case unla34 => assumption); (case uola34 => k_all))); (case zla34 => first | exact Nat.le_of_ble_eq_true rfl | size_fits); k_whole); intro zzh' zzF' zzN'; (try k_sweep))))
  (k_with "call builtin:len" => ((k_here; (with_reducible show wpAny _ _ (call (Value.builtin "len") [Value.ref _]) _ _ _); k_dflt (refine' kun_lenL ?k1la35 ?k2la35 ?k3la35 ?_; (case k1la35 => exact News.isList (by k_asm) (by k_mem)); (case k2la35 => kun_count); (case k3la35 => decide); k_whole))))
  (k_with "exec For Name Call cons nil" => ((k_here; (rename Fr _ _ _ _ => zzlF'); k_dflt (refine' For_invVF zzlF' ?k1la36 ?k2la36 ?_ ?k3la36 ?k4la36; (case k1la36 => exact rfl); (case k2la36 => exact rfl); (case k3la36 => (intro _; with_unfolding_all rfl)); (case k4la36 => first | assumption | passes_own | with_unfolding_all passes_own); k_whole))))
  (k_with "pyIter ref" => (((with_reducible show wpAny _ _ (pyIter (Value.ref _)) (fun it s₂ => LoopAtV _ _ _ _ _ _ _ _ _ it s₂) _ _); k_rangeUnr)))
  (k_with "UnrEnd" => (first | (refine' end_0 ?uFla38 ?uNla38 ?_; (case uNla38 => k_asm); (case uFla38 => k_asm)) | (refine' end_1 ?uFla38 ?uNla38 ?_; (case uNla38 => k_asm); (case uFla38 => k_asm)) | (refine' end_2 ?uFla38 ?uNla38 ?_; (case uNla38 => k_asm); (case uFla38 => k_asm)) | (refine' end_3 ?uFla38 ?uNla38 ?_; (case uNla38 => k_asm); (case uFla38 => k_asm)) | (refine' end_4 ?uFla38 ?uNla38 ?_; (case uNla38 => k_asm); (case uFla38 => k_asm)) | (refine' end_5 ?uFla38 ?uNla38 ?_; (case uNla38 => k_asm); (case uFla38 => k_asm))))
  (k_with "call ref" => ((k_here; (with_reducible show wpAny _ _ (call (Value.ref 58) _) _ _ _); k_dflt (refine' sp_rt (made_spec _ _ _ _ _ _ _ ?hIla39 ?hnla39 ?h0la39 ?h1la39) ?kgla39 ?knla39 ?_; (case hIla39 => exact Is.self _ _); (case hnla39 => k_extra "mine vb"); (case h0la39 => decide); (case h1la39 => decide); (case kgla39 => k_extra "mine gs"); (case knla39 => k_extra "mine need"); k_extra "mine got"))))
  (k_with "call ref" => ((k_here; (with_reducible show wpAny _ _ (call (Value.ref 108) _) _ _ _); k_dflt (refine' sp_rt (add2_spec _ _ _ _ _ _ _ _ _ _ _ _ _ _ _ _ _ ?hwla40 ?hAla40 ?hBla40 ?hnla40 ?hxla40 ?hxpla40 ?h0la40 ?h1la40) ?kgla40 ?knla40 ?_; (case kgla40 => k_extra "mine gs"); (case knla40 => k_extra "mine need"); (case hBla40 => k_extra "mine is"); (case hAla40 => k_extra "mine is"); (case hwla40 => k_extra "mine hw"); (case hnla40 => k_extra "mine vb"); (case hxla40 => k_extra "mine nfa"); (case hxpla40 => k_extra "mine nfa"); (case h0la40 => decide); (case h1la40 => decide); k_extra "mine got"))))
  (k_with "call ref" => ((k_here; (with_reducible show wpAny _ _ (call (Value.ref 227) _) _ _ _); k_dflt (refine' sp_rn (worth2_spec _ _ _ _ _ _ _ _ _ _ _ _ _ _ _ _ _ _ _ _ _ _ _ _ _ _ _ _ ?hwla41 ?h0la41 ?h1la41 ?h2la41 ?h3la41 ?hbla41) ?kgla41 ?knla41 ?_; (case kgla41 => k_extra "mine gs"); (case knla41 => k_extra "mine need"); (case hwla41 => (refine' Hid.out ?hidla41; (case hidla41 => with_reducible assumption))); (case h0la41 => (refine' Hid.out ?hidla41; (case hidla41 => with_reducible assumption))); (case h1la41 => (refine' Hid.out ?hidla41; (case hidla41 => with_reducible assumption))); (case h2la41 => (refine' Hid.out ?hidla41; (case hidla41 => with_reducible assumption))); (case h3la41 => (refine' Hid.out ?hidla41; (case hidla41 => with_reducible assumption))); (case hbla41 => (refine' Hid.out ?hidla41; (case hidla41 => with_reducible assumption))); k_extra "mine got"))))
  (k_with "call ref" => ((k_here; (with_reducible show wpAny _ _ (call (Value.ref 234) _) _ _ _); k_dflt (refine' sp_rb (is_spec _ _ _ _ _ _ _ _ _ _ _ _ _ _ _ _ _ ?h0la42 ?h1la42 ?h2la42 ?h3la42 ?hbla42 ?hVla42 ?duela42) ?kgla42 ?knla42 ?_; (case kgla42 => k_extra "mine gs"); (case knla42 => k_extra "mine need"); (case h0la42 => k_extra "mine vb"); (case h1la42 => k_extra "mine vb"); (case h2la42 => k_extra "mine vb"); (case h3la42 => k_extra "mine vb"); (case duela42 => (refine' Hid.out ?hidla42; (case hidla42 => with_reducible assumption))); (case hbla42 => k_extra "mine vb"); (case hVla42 => k_extra "mine vb"); k_extra "mine gotb"))))
  (k_with "execs cons" => (((with_reducible show wpAny _ _ (execs (Stmt.Assign [Expr.Name (Str.ofString "engine") _] _ _ :: _) _) _ _ _); refine Hid.out ?_)))
  trivial
def LawA (prog : Program) (w : World) (mean : ExcName → Option Value) (mg mb : Str → Option Value) (rest : List Stmt) (qual : Str) (scope : Scope) (cdv : Value) : Prop :=
    ∀ (a0 a1 a2 a3 b s : Int) (t0 t1 t2 t3 tb ts : Tok) (R : Addr) (dp un : Nat) (gd : Option (List Code)) (fa : Addr) (outer : List Env) (A₀ : Around) (base h₀ : Heap) (L : Addr) (m : Str → Option Value) (st : Shared) (Q : Flow → Shared → Prop) (E : Value → Shared → Prop),
      a0.natAbs ≤ 9 → a1.natAbs ≤ 9 → a2.natAbs ≤ 9 → a3.natAbs ≤ 9 → b.natAbs ≤ 9 → 1 ≤ s → s ≤ 5 →
      Below A₀ base outer h₀ → Frag.In (Mine.hd.heap_39 w.params) h₀ → Top Mine.hd.view_39 (looseW Mine.hd.view_39 [Str.ofString "BasicError"]) mean mg mb h₀ → Fr h₀ L st.heap (fun y => if y = Str.ofString "begin" then some (.int b tb) else if y = Str.ofString "stride" then some (.int s ts) else if y = Str.ofString "rates" then some (.ref R) else m y) →
      News h₀ L st.heap [(R, LCg.lst [.int a0 t0, .int a1 t1, .int a2 t2, .int a3 t3])] → dp + 20 < recursionLimit → un + 200 < cLine → PassesOwn (model prog w) (ktrTop dp un gd qual scope L fa cdv (cellsFrom (L + 1) scope.names []) outer) (envOfC qual scope L fa cdv) E →
      (∀ h' tk' m9, Fr h₀ L h' m9 → Q (.ret (.bool true)) { st with heap := h', toks := tk' }) →
      wpAny (model prog w) (ktrTop dp un gd qual scope L fa cdv (cellsFrom (L + 1) scope.names []) outer) (execs rest (envOfC qual scope L fa cdv)) Q E st
theorem law_a {prog : Program} {w : World} {mean : ExcName → Option Value} {mg mb : Str → Option Value} : LawRest 3 (LawA prog w mean mg mb) ((Mine.hd.heap_39 w.params).lookup 256) := by
  (have dummy : (PySem.Challenge.rw_tk0005_01.Holds → Frag.In (Mine.hd.heap_39 w.params) default → True) := by (k_fill; intros; trivial))
  clear dummy
  refine' law_a_of (law_b (prog := prog) (w := w) (mean := mean) (mg := mg) (mb := mb)) ?e ?h
  (case e => k_dflt k_is)
  intro lb
  unfold LawRest at lb ⊢
  intro cdv
  replace lb := lb cdv
  dsimp only [List.drop] at lb
  unfold LawA
  intro a0 a1 a2 a3 b s t0 t1 t2 t3 tb ts R dp un gd fa outer A₀ base h₀ L m st Q E h0 h1 h2 h3 hb hs0 hs1 B X T F N hd hu hE hret
  dsimp only [List.drop]
  obtain ⟨v, f1, f2, d, c3, HL⟩ := law_letters h0 h1 h2 h3 hb hs0 hs1
  have xa0 : Hid ((b).natAbs ≤ 60) := ⟨by omega⟩
  have xb0 : Hid ((b).natAbs < 1000000000) := ⟨by omega⟩
  have bm0 : Hid ((b + (0 + ((0 : Nat) : Int)) * s).natAbs ≤ 1000) := ⟨by omega⟩
  have xa1 : Hid ((b + s).natAbs ≤ 60) := ⟨by omega⟩
  have xb1 : Hid ((b + s).natAbs < 1000000000) := ⟨by omega⟩
  have bm1 : Hid ((b + (0 + ((1 : Nat) : Int)) * s).natAbs ≤ 1000) := ⟨by omega⟩
  have xa2 : Hid ((b + s + s).natAbs ≤ 60) := ⟨by omega⟩
  have xb2 : Hid ((b + s + s).natAbs < 1000000000) := ⟨by omega⟩
  have bm2 : Hid ((b + (0 + ((2 : Nat) : Int)) * s).natAbs ≤ 1000) := ⟨by omega⟩
  have xa3 : Hid ((b + s + s + s).natAbs ≤ 60) := ⟨by omega⟩
  have xb3 : Hid ((b + s + s + s).natAbs < 1000000000) := ⟨by omega⟩
  have bm3 : Hid ((b + (0 + ((3 : Nat) : Int)) * s).natAbs ≤ 1000) := ⟨by omega⟩
  have xa4 : Hid ((b + s + s + s + s).natAbs ≤ 60) := ⟨by omega⟩
  have xb4 : Hid ((b + s + s + s + s).natAbs < 1000000000) := ⟨by omega⟩
  have bm4 : Hid ((b + (0 + ((4 : Nat) : Int)) * s).natAbs ≤ 1000) := ⟨by omega⟩
  have xa5 : Hid ((b + s + s + s + s + s).natAbs ≤ 60) := ⟨by omega⟩
  have xb5 : Hid ((b + s + s + s + s + s).natAbs < 1000000000) := ⟨by omega⟩
  have bm5 : Hid ((b + (0 + ((5 : Nat) : Int)) * s).natAbs ≤ 1000) := ⟨by omega⟩
  have xb6 : Hid ((b + s + s + s + s + s + s).natAbs < 1000000000) := ⟨by omega⟩
  have qa0 : Hid (a0.natAbs < 1000000000) := ⟨by omega⟩
  have ra0 : Hid (a0.natAbs ≤ 1000) := ⟨by omega⟩
  have qa1 : Hid (a1.natAbs < 1000000000) := ⟨by omega⟩
  have ra1 : Hid (a1.natAbs ≤ 1000) := ⟨by omega⟩
  have qa2 : Hid (a2.natAbs < 1000000000) := ⟨by omega⟩
  have ra2 : Hid (a2.natAbs ≤ 1000) := ⟨by omega⟩
  have qa3 : Hid (a3.natAbs < 1000000000) := ⟨by omega⟩
  have ra3 : Hid (a3.natAbs ≤ 1000) := ⟨by omega⟩
  have qs : Hid (s.natAbs < 1000000000) := ⟨by omega⟩
  have dt0 : Hid (1000 * a0 + 100 * a1 * (b + (0 + ((0 : Nat) : Int)) * s) + 10 * a2 * (b + (0 + ((0 : Nat) : Int)) * s) * (b + (0 + ((0 : Nat) : Int)) * s) + a3 * (b + (0 + ((0 : Nat) : Int)) * s) * (b + (0 + ((0 : Nat) : Int)) * s) * (b + (0 + ((0 : Nat) : Int)) * s) = v 0) := ⟨HL.du2 _ rfl⟩
  have wb0 : Hid ((v 0).natAbs < 1000000000) := ⟨Nat.lt_trans HL.bv2 (by decide)⟩
  have ww0 : Hid (wv a0 a1 a2 a3 (b) = v 0) := ⟨HL.wv0⟩
  have dt1 : Hid (1000 * a0 + 100 * a1 * (b + (0 + ((1 : Nat) : Int)) * s) + 10 * a2 * (b + (0 + ((1 : Nat) : Int)) * s) * (b + (0 + ((1 : Nat) : Int)) * s) + a3 * (b + (0 + ((1 : Nat) : Int)) * s) * (b + (0 + ((1 : Nat) : Int)) * s) * (b + (0 + ((1 : Nat) : Int)) * s) = v 1) := ⟨HL.du3 _ rfl⟩
  have wb1 : Hid ((v 1).natAbs < 1000000000) := ⟨Nat.lt_trans HL.bv3 (by decide)⟩
  have ww1 : Hid (wv a0 a1 a2 a3 (b + s) = v 1) := ⟨HL.wv1⟩
  have dt2 : Hid (1000 * a0 + 100 * a1 * (b + (0 + ((2 : Nat) : Int)) * s) + 10 * a2 * (b + (0 + ((2 : Nat) : Int)) * s) * (b + (0 + ((2 : Nat) : Int)) * s) + a3 * (b + (0 + ((2 : Nat) : Int)) * s) * (b + (0 + ((2 : Nat) : Int)) * s) * (b + (0 + ((2 : Nat) : Int)) * s) = v 2) := ⟨HL.du4 _ rfl⟩
  have wb2 : Hid ((v 2).natAbs < 1000000000) := ⟨Nat.lt_trans HL.bv4 (by decide)⟩
  have ww2 : Hid (wv a0 a1 a2 a3 (b + s + s) = v 2) := ⟨HL.wv2⟩
  have dt3 : Hid (1000 * a0 + 100 * a1 * (b + (0 + ((3 : Nat) : Int)) * s) + 10 * a2 * (b + (0 + ((3 : Nat) : Int)) * s) * (b + (0 + ((3 : Nat) : Int)) * s) + a3 * (b + (0 + ((3 : Nat) : Int)) * s) * (b + (0 + ((3 : Nat) : Int)) * s) * (b + (0 + ((3 : Nat) : Int)) * s) = v 3) := ⟨HL.du5 _ rfl⟩
  have wb3 : Hid ((v 3).natAbs < 1000000000) := ⟨Nat.lt_trans HL.bv5 (by decide)⟩
  have ww3 : Hid (wv a0 a1 a2 a3 (b + s + s + s) = v 3) := ⟨HL.wv3⟩
  have dt4 : Hid (1000 * a0 + 100 * a1 * (b + (0 + ((4 : Nat) : Int)) * s) + 10 * a2 * (b + (0 + ((4 : Nat) : Int)) * s) * (b + (0 + ((4 : Nat) : Int)) * s) + a3 * (b + (0 + ((4 : Nat) : Int)) * s) * (b + (0 + ((4 : Nat) : Int)) * s) * (b + (0 + ((4 : Nat) : Int)) * s) = v 4) := ⟨HL.du6 _ rfl⟩
  have wb4 : Hid ((v 4).natAbs < 1000000000) := ⟨Nat.lt_trans HL.bv6 (by decide)⟩
  have ww4 : Hid (wv a0 a1 a2 a3 (b + s + s + s + s) = v 4) := ⟨HL.wv4⟩
  have dt5 : Hid (1000 * a0 + 100 * a1 * (b + (0 + ((5 : Nat) : Int)) * s) + 10 * a2 * (b + (0 + ((5 : Nat) : Int)) * s) * (b + (0 + ((5 : Nat) : Int)) * s) + a3 * (b + (0 + ((5 : Nat) : Int)) * s) * (b + (0 + ((5 : Nat) : Int)) * s) * (b + (0 + ((5 : Nat) : Int)) * s) = v 5) := ⟨HL.du7 _ rfl⟩
  have wb5 : Hid ((v 5).natAbs < 1000000000) := ⟨Nat.lt_trans HL.bv7 (by decide)⟩
  have ww5 : Hid (wv a0 a1 a2 a3 (b + s + s + s + s + s) = v 5) := ⟨HL.wv5⟩
  have pa0 : Hid (a0.natAbs ≤ 9) := ⟨h0⟩
  have pa1 : Hid (a1.natAbs ≤ 9) := ⟨h1⟩
  have pa2 : Hid (a2.natAbs ≤ 9) := ⟨h2⟩
  have pa3 : Hid (a3.natAbs ≤ 9) := ⟨h3⟩
  have hbs : Hid (b.natAbs ≤ 9) ∧ Hid (1 ≤ s) ∧ Hid (s ≤ 5) := ⟨⟨hb⟩, ⟨hs0⟩, ⟨hs1⟩⟩
  clear h0 h1 h2 h3 hb hs0 hs1
  show wpAny _ _ _ _ _ _
  w_top off
  k_steps
  rename Fr _ _ _ _ => FF
  rename News _ _ _ _ => NN
  refine Hid.mk ?_
  refine' lb a0 a1 a2 a3 b s v f1 f2 d c3 tb ts t0 t1 t2 t3 _ _ _ _ _ _ _ R _ _ _ _ _ _ _ _ _ _ _ _ _ _ _ _ _ _ _ dp un gd fa outer A₀ base h₀ L _ _ _ _ pa0.out pa1.out pa2.out pa3.out hbs.1.out hbs.2.1.out hbs.2.2.out HL B X T (fr4 FF rfl rfl rfl rfl) ?yN hd hu hE ?yret
  case yN => refine' fun a ha => NN a (SubL.mem ?ysub a ha); (case ysub => k_subL)
  case yret => exact fun h tk m9 F9 => hret h tk m9 F9
end
end Mine
end
section
-- part L
open PySem PySem.W PySem.Calls PyProof.Rows
namespace Mine
noncomputable section







theorem lines_L_1 : True := by
  k_with_none
  (k_with "subscriptTail Name Constant ref int" => ((k_here; k_dflt (refine' item_tupleT ?tl1 ?al1 ?bl1 ?cl1 ?dl1 ?_; (case tl1 => exact News.isTup (by k_asm) (by k_extra "mine mem")); (case al1 => decide); (case bl1 => decide); (case cl1 => rfl); (case dl1 => rfl); k_whole))))
  (k_with "mine item" => ((k_here; k_dflt (refine' lst_item ?tl2 ?al2 ?bl2 ?cl2 ?dl2 ?_; (case tl2 => k_asm); (case al2 => k_extra "mine mem"); (case bl2 => first | decide | omega); (case cl2 => first | decide | omega); (case dl2 => rfl); k_whole))))
  (k_with "subscriptTail Name Constant ref int" => (k_extra "mine item"))
  (k_with "subscriptTail Name Name ref int" => (k_extra "mine item"))
  (k_with "subscriptTail Name BinOp ref int" => (k_extra "mine item"))
  (k_with "mine gotb" => ((intro zzh9 zztk9 zzF9 zzN9; (try dsimp only); (try k_fold); (try k_sweep))))
  (k_with "mine mem" => (first | exact List.Mem.head _ | (refine' List.mem_cons_of_mem _ ?mml7; (case mml7 => k_extra "mine mem"))))
  (k_with "mine need" => (first | exact List.forall_mem_nil _ | (refine' List.forall_mem_cons.mpr (And.intro ?nal8 ?nbl8); (case nal8 => k_mem); (case nbl8 => k_extra "mine need"))))
  (k_with "mine gs" => ((refine' Gd.mk ?k1l9 ?k2l9 ?k3l9 ?k4l9 ?k5l9 ?kKl9 ?kdl9 ?kul9; (case k1l9 => k_asm); (case k2l9 => k_asm); (case k3l9 => k_asm); (case k4l9 => k_asm); (case k5l9 => k_asm); (case kKl9 => first | exact rfl | assumption); (case kdl9 => ktr_room); (case kul9 => ktr_units))))
  (k_with "mine got" => ((intro zzD9 zzt9 zzu9 zzc9 zzh9 zztk9 zzF9 zzN9 zzl9; (try dsimp only); (try k_fold); (try k_sweep))))
  (k_with "mine lt" => (first | assumption | (refine' lt_drop ?ltal11 ?ltbl11; (case ltal11 => assumption); (case ltbl11 => kcj_all))))
  (k_with "mine rt" => ((refine' rt_end ?_ ?_ ?fFl12 ?fNl12 ?fml12 ?fsl12 ?fll12; (case fFl12 => k_asm); (case fNl12 => assumption); (case fml12 => k_mem); (case fsl12 => kcj_all); (case fll12 => k_extra "mine lt"))))
  (k_with "mine ne" => (first | (refine' ne_of_lts ?ltal13 ?ltbl13; (case ltal13 => assumption); (case ltbl13 => kcj_all)) | (refine' ne_of_nes ?ltal13 ?ltbl13; (case ltal13 => assumption); (case ltbl13 => kcj_all))))
  (k_with "mine rn" => ((refine' rn_end ?n0l14 ?n1l14 ?_ ?_ ?n2l14 ?n3l14 ?n4l14 ?n5l14 ?n6l14 ?n7l14 ?n8l14 ?n9l14; (case n0l14 => assumption); (case n1l14 => assumption); (case n2l14 => assumption); (case n3l14 => assumption); (case n4l14 => assumption); (case n5l14 => k_asm); (case n6l14 => assumption); (case n7l14 => k_mem); (case n8l14 => kcj_all); (case n9l14 => k_extra "mine ne"))))
  (k_with "mine got" => ((intro zzD9 zzt9 zzu9 zzc9 zzh9 zztk9 zzF9 zzN9 zzl9; (try dsimp only); (try k_fold); (try k_sweep))))
  (k_with "exec Assign cons ListComp" => ((k_here; k_dflt (refine LCg.Assign_ListComp_U (F₀ := by k_asm) (by rfl) (by with_unfolding_all rfl) (by with_unfolding_all rfl) (by decide) (by rfl) (by decide) (by rfl) (by rfl) (by rfl) ?_))))
  (k_with "eval ListComp" => ((k_here; k_dflt (refine LCg.ListComp_U (F₀ := by k_asm) (by with_unfolding_all rfl) (by decide) (by rfl) (by decide) (by rfl) ?_))))
  (k_with "CompSrc" => ((k_here; k_dflt (first | (refine LCg.CompSrc.range (by rfl) (by k_asm) (by k_asm) (by assumption) (by first | decide | rfl) (by first | rfl | decide) (by first | size_fits | exact Nat.le_of_ble_eq_true rfl) ?_; intro zzg'; lcg_lit) | (refine LCg.CompSrc.ledger (by rfl) (by k_asm) (by k_asm) (by k_mem) (by first | size_fits | exact Nat.le_of_ble_eq_true rfl) ?_; intro zzg'; lcg_lit)))))
  (k_with "CompRest" => ((with_unfolding_all first | (refine LCg.CompRest.succ ?_; intro zzv' zzI' zzoI' zzC' zzoC' zzD' zzm' zzh' zztk' zzE' zzhv' zzhC' zzhx' zzF' zzN' zzoff' zzne'; clear zzne'; (first | lcg_open zzhv' | (obtain ⟨zzt9', zzhv9'⟩ := zzhv'; subst zzhv9'))) | refine LCg.CompRest.zero ?_)))
  (k_with "CompEnd" => ((refine' comp_end1 ?ce1l20 ?ce2l20 ?ce3l20 ?ce4l20 ?ce5l20 ?_; (case ce1l20 => assumption); (case ce2l20 => assumption); (case ce3l20 => assumption); (case ce4l20 => assumption); (case ce5l20 => lcg_src))))
  (k_with "FinE" => (((unfold LCg.FinE); intro zzD' zzh' zztk' zzF' zzN' zzo1'; (try simp only [List.nil_append, List.cons_append] at zzN'); (try dsimp only))))
  (k_with "FinA" => (((unfold LCg.FinA); intro zzD' zzh' zztk' zzF' zzN' zzo1'; (try simp only [List.nil_append, List.cons_append] at zzN'); (try dsimp only))))
  (k_with "mine ne2" => (first | (with_reducible assumption) | (refine' Nat.ne_of_lt (lt_mem ?hl23 ?ml23); (case hl23 => (with_reducible assumption)); (case ml23 => k_extra "mine mem")) | (refine' ne_cell ?hl23 ?ml23; (case hl23 => (with_reducible assumption)); (case ml23 => k_extra "mine mem")) | (refine' ne_mem ?hl23 ?ml23; (case hl23 => (with_reducible assumption)); (case ml23 => k_extra "mine mem")) | (refine' ne_mem1 ?hl23 ?ml23; (case hl23 => (with_reducible assumption)); (case ml23 => k_extra "mine mem")) | (refine' (ne_mem3 ?hl23 ?ml23).1; (case hl23 => (with_reducible assumption)); (case ml23 => k_extra "mine mem")) | (refine' (ne_mem3 ?hl23 ?ml23).2.1; (case hl23 => (with_reducible assumption)); (case ml23 => k_extra "mine mem")) | (refine' (ne_mem3 ?hl23 ?ml23).2.2; (case hl23 => (with_reducible assumption)); (case ml23 => k_extra "mine mem"))))
  (k_with "mine kall" => (first | (refine' all_off ?hl24 ?el24; (case hl24 => (with_reducible assumption)); (case el24 => rfl)) | (refine' all_cell ?hl24 ?el24; (case hl24 => (with_reducible assumption)); (case el24 => rfl))))
  (k_with "newList" => ((k_here; k_dflt (refine' newList_K ?k1l25 ?k2l25 ?_; (case k1l25 => k_asm); (case k2l25 => k_asm); k_whole); intro zzl' zzh' zzF' zzN' zzl1; (try k_sweep))))
  (k_with "mine kne" => (((refine neN ?_); (try dsimp only); first | (refine' Nat.ne_of_gt (lt_mem ?hl26 ?ml26); (case hl26 => (with_reducible assumption)); (case ml26 => k_extra "mine mem")) | k_extra "mine ne2" | (refine' Ne.symm ?xl26; (case xl26 => k_extra "mine ne2")) | fail "mine ne")))
  (k_with "mine same" => (exact rfl))
  (k_with "mine vb" => (first | (refine' Hid.out ?hidl28; (case hidl28 => with_reducible assumption)) | decide))
  (k_with "mine hw" => ((refine' Hid.out ?hidl29; (case hidl29 => with_reducible assumption))))
  (k_with "mine is" => (first | (with_reducible refine' is_nf ?ial30 ?ibl30 ?icl30; (case ial30 => decide); (case ibl30 => decide); (case icl30 => k_extra "mine vb")) | (refine' Hid.out ?hidl30; (case hidl30 => with_reducible assumption)) | (with_reducible refine' is_zero ?ial30 ?ibl30; (case ial30 => decide); (case ibl30 => decide))))
  (k_with "mine nfa" => (first | (refine' Hid.out ?hidl31; (case hidl31 => with_reducible assumption)) | (refine' nf_abs ?ial31 ?ibl31 ?icl31; (case ial31 => decide); (case ibl31 => decide); (case icl31 => k_extra "mine vb")) | decide))
  (k_with "execs cons" => (((with_reducible show wpAny _ _ (execs (Stmt.Assign [Expr.Tuple (Expr.Name (Str.ofString "told") _ :: _) _ _] _ _ :: _) _) _ _ _); refine Hid.out ?_)))
  (k_with "call ref" => ((k_here; (with_reducible show wpAny _ _ (call (Value.ref 220) _) _ _ _); k_dflt (refine' spool_spec _ _ _ _ _ _ _ _ _ _ ?hil33 ?hlenl33 ?s0l33 ?s1l33 ?b0l33 ?b1l33 ?Bl33 ?Fl33 ?Xl33 ?Nl33 ?Tl33 ?kKl33 ?Ul33 ?Sl33 ?nel33 ?dl33 ?ul33 ?_; (case Bl33 => k_asm); (case Fl33 => k_asm); (case Xl33 => k_asm); (case Nl33 => k_asm); (case Tl33 => k_asm); (case kKl33 => first | exact rfl | assumption); (case Ul33 => k_updF); (case Sl33 => k_mem); (case hil33 => assumption); (case hlenl33 => k_extra "mine len"); (case s0l33 => decide); (case s1l33 => decide); (case b0l33 => decide); (case b1l33 => decide); (case nel33 => k_extra "mine sne"); (case dl33 => ktr_room); (case ul33 => ktr_units)); intro zzr9 zzt9 zzu9 zzh9 zztk9 zzr0 zzr1 zzF9 zzN9; (try dsimp only); (try k_fold); (try k_sweep))))
  (k_with "mine len" => ((have hq := ‹List.length _ = _›; omega)))
  (k_with "mine sne" => (k_ne))
  trivial
theorem law_use {prog : Program} {w : World} {mean : ExcName → Option Value} {mg mb : Str → Option Value} {h₀ : Heap} {o : Obj} {A : Around} {α : Type} {t : Sem α} {Q : α → Shared → Prop} {E : Value → Shared → Prop} {s : Shared}
    (X : Frag.In (Mine.hd.heap_39 w.params) h₀) (T : Top Mine.hd.view_39 (looseW Mine.hd.view_39 [Str.ofString "BasicError"]) mean mg mb h₀) (e : (Mine.hd.heap_39 w.params).lookup 256 = some o)
    (h : LawRest 3 (LawA prog w mean mg mb) (some o) → wpAny (model prog w) A t Q E s) : wpAny (model prog w) A t Q E s := by
  have la := law_a (prog := prog) (w := w) (mean := mean) (mg := mg) (mb := mb)
  rw [e] at la; exact h la
theorem law_enter {prog : Program} {w : World} {mean : ExcName → Option Value} {mg mb : Str → Option Value} {rest : List Stmt} {qual : Str} {scope : Scope} {cdv : Value} (la : LawA prog w mean mg mb rest qual scope cdv)
    {a0 a1 a2 a3 b s : Int} {t0 t1 t2 t3 tb ts : Tok} {R : Addr} {dp un : Nat} {gd : Option (List Code)} {fa : Addr} {outer : List Env} {A₀ : Around} {base h₀ : Heap} {L : Addr} {m : Str → Option Value} {st : Shared} {Q : Flow → Shared → Prop} {E : Value → Shared → Prop} {led : List (Addr × Obj)}
    (B : Below A₀ base outer h₀) (X : Frag.In (Mine.hd.heap_39 w.params) h₀) (T : Top Mine.hd.view_39 (looseW Mine.hd.view_39 [Str.ofString "BasicError"]) mean mg mb h₀)
    (F : Fr h₀ L st.heap (fun y => if y = Str.ofString "begin" then some (.int b tb) else if y = Str.ofString "stride" then some (.int s ts) else if y = Str.ofString "rates" then some (.ref R) else m y)) (N : News h₀ L st.heap led) (sub : SubL [(R, LCg.lst [.int a0 t0, .int a1 t1, .int a2 t2, .int a3 t3])] led)
    (b0 : a0.natAbs ≤ 9) (b1 : a1.natAbs ≤ 9) (b2 : a2.natAbs ≤ 9) (b3 : a3.natAbs ≤ 9) (b4 : b.natAbs ≤ 9) (b5 : 1 ≤ s) (b6 : s ≤ 5) (hd : dp + 20 < recursionLimit) (hu : un + 200 < cLine) (hE : PassesOwn (model prog w) (ktrTop dp un gd qual scope L fa cdv (cellsFrom (L + 1) scope.names []) outer) (envOfC qual scope L fa cdv) E)
    (hret : ∀ h' tk' m9, Fr h₀ L h' m9 → Q (.ret (.bool true)) { st with heap := h', toks := tk' }) :
    wpAny (model prog w) (ktrTop dp un gd qual scope L fa cdv (cellsFrom (L + 1) scope.names []) outer) (execs rest (envOfC qual scope L fa cdv)) Q E st :=
  la a0 a1 a2 a3 b s t0 t1 t2 t3 tb ts R dp un gd fa outer A₀ base h₀ L m st Q E b0 b1 b2 b3 b4 b5 b6 B X T F (fun a ha => N a (SubL.mem sub a ha)) hd hu hE hret
theorem bnd9 {r : Int} (h0 : 0 ≤ r) (h1 : r < 19) : (r - 9).natAbs ≤ 9 := by omega
theorem bnd1 {r : Int} (h0 : 0 ≤ r) : 1 ≤ 1 + r := by omega
theorem bnd5 {r : Int} (h1 : r < 5) : 1 + r ≤ 5 := by omega
theorem news_sub {h₀ h : Heap} {L : Addr} {l led : List (Addr × Obj)} (N : News h₀ L h led) (s : SubL l led) : News h₀ L h l := fun a ha => N a (SubL.mem s a ha)
theorem whole : PySem.Challenge.rw_tk0005_01.Holds := and_split Mine.hd left (by
  w_on
  w_strict (
    k_go0
    all_goals try k_fold
    k_steps
    rename Fr _ _ _ _ => FF
    rename News _ _ _ _ => NN
    refine Hid.mk ?_
    refine' law_use ?zX ?zT ?ze ?zh
    case zX => k_asm
    case zT => k_asm
    case ze => k_dflt k_is
    case zh =>
      intro la
      unfold LawRest at la
      dsimp only [List.drop] at la
      refine' law_enter (la _) ?zB ?zX ?zT ?zF ?zN ?zS ?zb0 ?zb1 ?zb2 ?zb3 ?zb4 ?zb5 ?zb6 ?zd ?zu ?zE ?zR
      case zB => k_asm
      case zX => k_asm
      case zT => k_asm
      case zF => exact FF
      case zN => exact NN
      case zS => k_subL
      case zd => ktr_room
      case zu => ktr_units
      case zE => first | passes_own | with_unfolding_all passes_own
      case zb0 => exact bnd9 (by with_reducible assumption) (by with_reducible assumption)
      case zb1 => exact bnd9 (by with_reducible assumption) (by with_reducible assumption)
      case zb2 => exact bnd9 (by with_reducible assumption) (by with_reducible assumption)
      case zb3 => exact bnd9 (by with_reducible assumption) (by with_reducible assumption)
      case zb4 => exact bnd9 (by with_reducible assumption) (by with_reducible assumption)
      case zb5 => exact bnd1 (by with_reducible assumption)
      case zb6 => exact bnd5 (by with_reducible assumption)
      case zR =>
        intro h tk m9 F9
        k_steps
        all_goals w_report))
end
end Mine
end
theorem PySem.Challenge.cw_tk0005_01_holds : PySem.Challenge.rw_tk0005_01.Holds :=
  Mine.whole
