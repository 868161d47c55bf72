import PyProof.Rows.All
import Wide.All
import OpenK.AllK
import Wide.FinOn
import Lean
import PySem.Challenge.RW_sa0092_01
set_option maxRecDepth 100000
set_option maxHeartbeats 8000000
set_option Elab.async false
set_option rowWalk.seconds 0
set_option linter.unusedVariables false
section
open PySem PySem.W PyProof.Rows
namespace Mine
theorem keepK {R S : Prop} (K : Params → Frag) (said : S) (hw : True) (call : K = K → S → R) : R := call rfl said
section
local macro_rules | `(tactic| o_head (kHook $K $_ $_)) => `(tactic| (apply keepK $K; focus assumption))
local macro_rules | `(tactic| w_witness2) => `(tactic| trivial)
open_top kk for PySem.Challenge.rw_sa0092_01
end
noncomputable section
abbrev pg : Program := PySem.Challenge.pw_sa0092_01
def ob (F : Frag) (a : Nat) : Obj := match F.lookup a with | some o => o | none => default
def tm (o : Obj) : Obj := match o.data with
  | .func f => ⟨.none, none, .func { f with globals := 0, pyModule := .none, code := .none }, #[]⟩
  | _ => o
def ms (m : Nat) (v : Value) (o : Obj) : Obj := match o.data with
  | .dict es _ => match es.toList with
    | e :: r => ⟨o.cls, none, .dict (Array.mk (⟨e.hash, e.key, v⟩ :: r.take (m - 1))) m, #[]⟩
    | [] => o
  | _ => o
def e0 : Obj := ⟨.none, none, .fields #[], #[]⟩
def t0 : Obj := ⟨.type "tuple", none, .seq #[] 0, #[]⟩
def fr (c l : Nat) (s : Str) (t : Nat) : Obj := ⟨.type "frame", none, .plain, #[some (.ref c), some (.ref 3), some (.ref l), none, some (.str s t), none, some (.ref 0)]⟩
def cdO (nm : Str) (t1 l1 t a u b : Nat) : Obj := ⟨.type "code", none, .fields #[.str nm t1, .str nm (t1 + 1), .str "/claim/cut.py" (t1 + 2), .int l1 0, .int 0 0, .int 0 0, .int 0 0, .int 0 0, .ref a, .bool false, .int t 0, .ref b, .none, .none, .none, .none, .int u 0, .int l1 0, .str "/claim/cut.py" (u + 1)], #[]⟩
def m0 : Obj := cdO "<module>" 182 1 181 11 185 12
def m1 : Obj := cdO "CasFail" 191 2 181 18 194 19
def cns (P : Params) (o : Obj) : Obj := match o.data with
  | .dict es _ => match es.toList with
    | a :: b :: c :: d :: _ => ⟨.type "dict", none, .dict (Array.mk [a, ⟨PyData.keyHash P "__qualname__", .str "__qualname__" 198, .str "CasFail" 197⟩, b, c, d]) 5, #[]⟩
    | _ => o
  | _ => o
def pcs : List (Nat × Nat) := [(2, 20), (9, 40), (14, 47), (21, 52), (35, 57), (37, 62), (45, 69), (53, 78), (58, 85), (60, 92), (62, 99), (64, 106), (67, 113), (69, 120), (72, 125), (74, 130), (76, 135), (78, 142), (83, 147), (86, 152), (88, 157), (92, 164), (99, 171), (111, 178), (116, 183), (121, 188), (123, 193), (125, 198)]
def pc (n : Nat) : Obj := ⟨.none, none, .fields (Array.mk ((pcs.take n).flatMap fun x => [.int x.1 0, .int 0 0, .ref x.2])), #[]⟩
def hA (P : Params) : Heap := Heap.mk (Array.mk [boot_o_0 P, boot_o_1 P, boot_o_2 P, boot_o_3 P, boot_o_4 P, boot_o_5 P, boot_o_6 P, boot_o_7 P, boot_o_8 P, boot_o_9 P, boot_o_10 P, t0, pc 0, m0, fr 13 3 "__main__" 164]) {}
def h0 (F : Frag) (P : Params) : Heap := Heap.mk (Array.mk [boot_o_0 P, boot_o_1 P, ob F 2, ms 10 (.str "cas.errors" 187) (ob F 3), boot_o_4 P, boot_o_5 P, boot_o_6 P, boot_o_7 P, boot_o_8 P, boot_o_9 P, boot_o_10 P, t0, pc 1, m0, fr 13 3 "__main__" 164, ob F 15, ⟨.type "builtin_function_or_method", none, .fields #[.builtin "type.__prepare__", .type "type"], #[]⟩, cns P (ob F 30), t0, ⟨.none, none, .fields #[.int 4 0, .int 4 0, .ref 27], #[]⟩, m1, fr 20 17 "cas.errors" 187, ob F 22, e0, ob F 24, ob F 25, tm (ob F 28), ob F 27, ob F 28, ob F 29, ob F 30, ob F 31, ob F 32, ⟨.type "super", none, .fields #[.ref 31, .ref 31, .ref 31], #[]⟩, ⟨.type "builtin_function_or_method", none, .fields #[.builtin "object.__init_subclass__", .ref 31], #[]⟩]) {}
def h1 (F : Frag) (P : Params) : Heap := Heap.mk (Array.mk [boot_o_0 P, boot_o_1 P, ob F 2, ms 14 (.str "cas.bareiss" 220) (ob F 3), boot_o_4 P, boot_o_5 P, boot_o_6 P, boot_o_7 P, boot_o_8 P, boot_o_9 P, boot_o_10 P, t0, pc 5, m0, fr 13 3 "__main__" 164, ob F 15, ⟨.type "builtin_function_or_method", none, .fields #[.builtin "type.__prepare__", .type "type"], #[]⟩, cns P (ob F 30), t0, ⟨.none, none, .fields #[.int 4 0, .int 4 0, .ref 27], #[]⟩, m1, fr 20 17 "cas.errors" 187, ob F 22, e0, ob F 24, ob F 25, tm (ob F 28), ob F 27, ob F 28, ob F 29, ob F 30, ob F 31, ob F 32, ⟨.type "super", none, .fields #[.ref 31, .ref 31, .ref 31], #[]⟩, ⟨.type "builtin_function_or_method", none, .fields #[.builtin "object.__init_subclass__", .ref 31], #[]⟩, ob F 35, e0, ob F 37, ob F 38, tm (ob F 41), ob F 40, ob F 41, ob F 42, e0, ob F 44, ob F 45, tm (ob F 48), ob F 47, ob F 48, ob F 49, e0, tm (ob F 53), ob F 52, ob F 53, ob F 54, e0, tm (ob F 58), ob F 57, ob F 58]) {}
def h2 (F : Frag) (P : Params) : Heap := Heap.mk (Array.mk [boot_o_0 P, boot_o_1 P, ob F 2, ms 18 (.str "cas.rats" 272) (ob F 3), boot_o_4 P, boot_o_5 P, boot_o_6 P, boot_o_7 P, boot_o_8 P, boot_o_9 P, boot_o_10 P, t0, pc 7, m0, fr 13 3 "__main__" 164, ob F 15, ⟨.type "builtin_function_or_method", none, .fields #[.builtin "type.__prepare__", .type "type"], #[]⟩, cns P (ob F 30), t0, ⟨.none, none, .fields #[.int 4 0, .int 4 0, .ref 27], #[]⟩, m1, fr 20 17 "cas.errors" 187, ob F 22, e0, ob F 24, ob F 25, tm (ob F 28), ob F 27, ob F 28, ob F 29, ob F 30, ob F 31, ob F 32, ⟨.type "super", none, .fields #[.ref 31, .ref 31, .ref 31], #[]⟩, ⟨.type "builtin_function_or_method", none, .fields #[.builtin "object.__init_subclass__", .ref 31], #[]⟩, ob F 35, e0, ob F 37, ob F 38, tm (ob F 41), ob F 40, ob F 41, ob F 42, e0, ob F 44, ob F 45, tm (ob F 48), ob F 47, ob F 48, ob F 49, e0, tm (ob F 53), ob F 52, ob F 53, ob F 54, e0, tm (ob F 58), ob F 57, ob F 58, ob F 59, e0, tm (ob F 63), ob F 62, ob F 63, ob F 64, e0, ob F 66, ob F 67, tm (ob F 70), ob F 69, ob F 70, ob F 71, ob F 72]) {}
def h3 (F : Frag) (P : Params) : Heap := Heap.mk (Array.mk [boot_o_0 P, boot_o_1 P, ob F 2, ms 22 (.str "cas.rats" 272) (ob F 3), boot_o_4 P, boot_o_5 P, boot_o_6 P, boot_o_7 P, boot_o_8 P, boot_o_9 P, boot_o_10 P, t0, pc 11, m0, fr 13 3 "__main__" 164, ob F 15, ⟨.type "builtin_function_or_method", none, .fields #[.builtin "type.__prepare__", .type "type"], #[]⟩, cns P (ob F 30), t0, ⟨.none, none, .fields #[.int 4 0, .int 4 0, .ref 27], #[]⟩, m1, fr 20 17 "cas.errors" 187, ob F 22, e0, ob F 24, ob F 25, tm (ob F 28), ob F 27, ob F 28, ob F 29, ob F 30, ob F 31, ob F 32, ⟨.type "super", none, .fields #[.ref 31, .ref 31, .ref 31], #[]⟩, ⟨.type "builtin_function_or_method", none, .fields #[.builtin "object.__init_subclass__", .ref 31], #[]⟩, ob F 35, e0, ob F 37, ob F 38, tm (ob F 41), ob F 40, ob F 41, ob F 42, e0, ob F 44, ob F 45, tm (ob F 48), ob F 47, ob F 48, ob F 49, e0, tm (ob F 53), ob F 52, ob F 53, ob F 54, e0, tm (ob F 58), ob F 57, ob F 58, ob F 59, e0, tm (ob F 63), ob F 62, ob F 63, ob F 64, e0, ob F 66, ob F 67, tm (ob F 70), ob F 69, ob F 70, ob F 71, ob F 72, ob F 73, e0, ob F 75, ob F 76, tm (ob F 79), ob F 78, ob F 79, ob F 80, e0, ob F 82, ob F 83, tm (ob F 86), ob F 85, ob F 86, ob F 87, e0, ob F 89, ob F 90, tm (ob F 93), ob F 92, ob F 93, ob F 94, e0, ob F 96, ob F 97, tm (ob F 100), ob F 99, ob F 100]) {}
def h4 (F : Frag) (P : Params) : Heap := Heap.mk (Array.mk [boot_o_0 P, boot_o_1 P, ob F 2, ms 26 (.str "cas.mat" 320) (ob F 3), boot_o_4 P, boot_o_5 P, boot_o_6 P, boot_o_7 P, boot_o_8 P, boot_o_9 P, boot_o_10 P, t0, pc 15, m0, fr 13 3 "__main__" 164, ob F 15, ⟨.type "builtin_function_or_method", none, .fields #[.builtin "type.__prepare__", .type "type"], #[]⟩, cns P (ob F 30), t0, ⟨.none, none, .fields #[.int 4 0, .int 4 0, .ref 27], #[]⟩, m1, fr 20 17 "cas.errors" 187, ob F 22, e0, ob F 24, ob F 25, tm (ob F 28), ob F 27, ob F 28, ob F 29, ob F 30, ob F 31, ob F 32, ⟨.type "super", none, .fields #[.ref 31, .ref 31, .ref 31], #[]⟩, ⟨.type "builtin_function_or_method", none, .fields #[.builtin "object.__init_subclass__", .ref 31], #[]⟩, ob F 35, e0, ob F 37, ob F 38, tm (ob F 41), ob F 40, ob F 41, ob F 42, e0, ob F 44, ob F 45, tm (ob F 48), ob F 47, ob F 48, ob F 49, e0, tm (ob F 53), ob F 52, ob F 53, ob F 54, e0, tm (ob F 58), ob F 57, ob F 58, ob F 59, e0, tm (ob F 63), ob F 62, ob F 63, ob F 64, e0, ob F 66, ob F 67, tm (ob F 70), ob F 69, ob F 70, ob F 71, ob F 72, ob F 73, e0, ob F 75, ob F 76, tm (ob F 79), ob F 78, ob F 79, ob F 80, e0, ob F 82, ob F 83, tm (ob F 86), ob F 85, ob F 86, ob F 87, e0, ob F 89, ob F 90, tm (ob F 93), ob F 92, ob F 93, ob F 94, e0, ob F 96, ob F 97, tm (ob F 100), ob F 99, ob F 100, ob F 101, e0, ob F 103, ob F 104, tm (ob F 107), ob F 106, ob F 107, ob F 108, e0, ob F 110, ob F 111, tm (ob F 114), ob F 113, ob F 114, ob F 115, e0, ob F 117, ob F 118, tm (ob F 121), ob F 120, ob F 121, ob F 122, e0, tm (ob F 126), ob F 125, ob F 126]) {}
def h5 (F : Frag) (P : Params) : Heap := Heap.mk (Array.mk [boot_o_0 P, boot_o_1 P, ob F 2, ms 31 (.str "cas.mat" 320) (ob F 3), boot_o_4 P, boot_o_5 P, boot_o_6 P, boot_o_7 P, boot_o_8 P, boot_o_9 P, boot_o_10 P, t0, pc 20, m0, fr 13 3 "__main__" 164, ob F 15, ⟨.type "builtin_function_or_method", none, .fields #[.builtin "type.__prepare__", .type "type"], #[]⟩, cns P (ob F 30), t0, ⟨.none, none, .fields #[.int 4 0, .int 4 0, .ref 27], #[]⟩, m1, fr 20 17 "cas.errors" 187, ob F 22, e0, ob F 24, ob F 25, tm (ob F 28), ob F 27, ob F 28, ob F 29, ob F 30, ob F 31, ob F 32, ⟨.type "super", none, .fields #[.ref 31, .ref 31, .ref 31], #[]⟩, ⟨.type "builtin_function_or_method", none, .fields #[.builtin "object.__init_subclass__", .ref 31], #[]⟩, ob F 35, e0, ob F 37, ob F 38, tm (ob F 41), ob F 40, ob F 41, ob F 42, e0, ob F 44, ob F 45, tm (ob F 48), ob F 47, ob F 48, ob F 49, e0, tm (ob F 53), ob F 52, ob F 53, ob F 54, e0, tm (ob F 58), ob F 57, ob F 58, ob F 59, e0, tm (ob F 63), ob F 62, ob F 63, ob F 64, e0, ob F 66, ob F 67, tm (ob F 70), ob F 69, ob F 70, ob F 71, ob F 72, ob F 73, e0, ob F 75, ob F 76, tm (ob F 79), ob F 78, ob F 79, ob F 80, e0, ob F 82, ob F 83, tm (ob F 86), ob F 85, ob F 86, ob F 87, e0, ob F 89, ob F 90, tm (ob F 93), ob F 92, ob F 93, ob F 94, e0, ob F 96, ob F 97, tm (ob F 100), ob F 99, ob F 100, ob F 101, e0, ob F 103, ob F 104, tm (ob F 107), ob F 106, ob F 107, ob F 108, e0, ob F 110, ob F 111, tm (ob F 114), ob F 113, ob F 114, ob F 115, e0, ob F 117, ob F 118, tm (ob F 121), ob F 120, ob F 121, ob F 122, e0, tm (ob F 126), ob F 125, ob F 126, ob F 127, e0, tm (ob F 131), ob F 130, ob F 131, ob F 132, e0, tm (ob F 136), ob F 135, ob F 136, ob F 137, e0, ob F 139, ob F 140, tm (ob F 143), ob F 142, ob F 143, ob F 144, e0, tm (ob F 148), ob F 147, ob F 148, ob F 149, e0, tm (ob F 153), ob F 152, ob F 153]) {}
def h6 (F : Frag) (P : Params) : Heap := Heap.mk (Array.mk [boot_o_0 P, boot_o_1 P, ob F 2, ms 34 (.str "cas.charpoly" 393) (ob F 3), boot_o_4 P, boot_o_5 P, boot_o_6 P, boot_o_7 P, boot_o_8 P, boot_o_9 P, boot_o_10 P, t0, pc 23, m0, fr 13 3 "__main__" 164, ob F 15, ⟨.type "builtin_function_or_method", none, .fields #[.builtin "type.__prepare__", .type "type"], #[]⟩, cns P (ob F 30), t0, ⟨.none, none, .fields #[.int 4 0, .int 4 0, .ref 27], #[]⟩, m1, fr 20 17 "cas.errors" 187, ob F 22, e0, ob F 24, ob F 25, tm (ob F 28), ob F 27, ob F 28, ob F 29, ob F 30, ob F 31, ob F 32, ⟨.type "super", none, .fields #[.ref 31, .ref 31, .ref 31], #[]⟩, ⟨.type "builtin_function_or_method", none, .fields #[.builtin "object.__init_subclass__", .ref 31], #[]⟩, ob F 35, e0, ob F 37, ob F 38, tm (ob F 41), ob F 40, ob F 41, ob F 42, e0, ob F 44, ob F 45, tm (ob F 48), ob F 47, ob F 48, ob F 49, e0, tm (ob F 53), ob F 52, ob F 53, ob F 54, e0, tm (ob F 58), ob F 57, ob F 58, ob F 59, e0, tm (ob F 63), ob F 62, ob F 63, ob F 64, e0, ob F 66, ob F 67, tm (ob F 70), ob F 69, ob F 70, ob F 71, ob F 72, ob F 73, e0, ob F 75, ob F 76, tm (ob F 79), ob F 78, ob F 79, ob F 80, e0, ob F 82, ob F 83, tm (ob F 86), ob F 85, ob F 86, ob F 87, e0, ob F 89, ob F 90, tm (ob F 93), ob F 92, ob F 93, ob F 94, e0, ob F 96, ob F 97, tm (ob F 100), ob F 99, ob F 100, ob F 101, e0, ob F 103, ob F 104, tm (ob F 107), ob F 106, ob F 107, ob F 108, e0, ob F 110, ob F 111, tm (ob F 114), ob F 113, ob F 114, ob F 115, e0, ob F 117, ob F 118, tm (ob F 121), ob F 120, ob F 121, ob F 122, e0, tm (ob F 126), ob F 125, ob F 126, ob F 127, e0, tm (ob F 131), ob F 130, ob F 131, ob F 132, e0, tm (ob F 136), ob F 135, ob F 136, ob F 137, e0, ob F 139, ob F 140, tm (ob F 143), ob F 142, ob F 143, ob F 144, e0, tm (ob F 148), ob F 147, ob F 148, ob F 149, e0, tm (ob F 153), ob F 152, ob F 153, ob F 154, e0, tm (ob F 158), ob F 157, ob F 158, ob F 159, e0, ob F 161, ob F 162, tm (ob F 165), ob F 164, ob F 165, ob F 166, e0, ob F 168, ob F 169, tm (ob F 172), ob F 171, ob F 172]) {}
def h7 (F : Frag) (P : Params) : Heap := Heap.mk (Array.mk [boot_o_0 P, boot_o_1 P, ob F 2, ms 39 (.str "law_sa0092_01" 407) (ob F 3), boot_o_4 P, boot_o_5 P, boot_o_6 P, boot_o_7 P, boot_o_8 P, boot_o_9 P, boot_o_10 P, t0, pc 28, m0, fr 13 3 "__main__" 164, ob F 15, ⟨.type "builtin_function_or_method", none, .fields #[.builtin "type.__prepare__", .type "type"], #[]⟩, cns P (ob F 30), t0, ⟨.none, none, .fields #[.int 4 0, .int 4 0, .ref 27], #[]⟩, m1, fr 20 17 "cas.errors" 187, ob F 22, e0, ob F 24, ob F 25, tm (ob F 28), ob F 27, ob F 28, ob F 29, ob F 30, ob F 31, ob F 32, ⟨.type "super", none, .fields #[.ref 31, .ref 31, .ref 31], #[]⟩, ⟨.type "builtin_function_or_method", none, .fields #[.builtin "object.__init_subclass__", .ref 31], #[]⟩, ob F 35, e0, ob F 37, ob F 38, tm (ob F 41), ob F 40, ob F 41, ob F 42, e0, ob F 44, ob F 45, tm (ob F 48), ob F 47, ob F 48, ob F 49, e0, tm (ob F 53), ob F 52, ob F 53, ob F 54, e0, tm (ob F 58), ob F 57, ob F 58, ob F 59, e0, tm (ob F 63), ob F 62, ob F 63, ob F 64, e0, ob F 66, ob F 67, tm (ob F 70), ob F 69, ob F 70, ob F 71, ob F 72, ob F 73, e0, ob F 75, ob F 76, tm (ob F 79), ob F 78, ob F 79, ob F 80, e0, ob F 82, ob F 83, tm (ob F 86), ob F 85, ob F 86, ob F 87, e0, ob F 89, ob F 90, tm (ob F 93), ob F 92, ob F 93, ob F 94, e0, ob F 96, ob F 97, tm (ob F 100), ob F 99, ob F 100, ob F 101, e0, ob F 103, ob F 104, tm (ob F 107), ob F 106, ob F 107, ob F 108, e0, ob F 110, ob F 111, tm (ob F 114), ob F 113, ob F 114, ob F 115, e0, ob F 117, ob F 118, tm (ob F 121), ob F 120, ob F 121, ob F 122, e0, tm (ob F 126), ob F 125, ob F 126, ob F 127, e0, tm (ob F 131), ob F 130, ob F 131, ob F 132, e0, tm (ob F 136), ob F 135, ob F 136, ob F 137, e0, ob F 139, ob F 140, tm (ob F 143), ob F 142, ob F 143, ob F 144, e0, tm (ob F 148), ob F 147, ob F 148, ob F 149, e0, tm (ob F 153), ob F 152, ob F 153, ob F 154, e0, tm (ob F 158), ob F 157, ob F 158, ob F 159, e0, ob F 161, ob F 162, tm (ob F 165), ob F 164, ob F 165, ob F 166, e0, ob F 168, ob F 169, tm (ob F 172), ob F 171, ob F 172, ob F 173, e0, ob F 175, ob F 176, tm (ob F 179), ob F 178, ob F 179, ob F 180, e0, tm (ob F 184), ob F 183, ob F 184, ob F 185, e0, tm (ob F 189), ob F 188, ob F 189, ob F 190, e0, tm (ob F 194), ob F 193, ob F 194, ob F 195, e0, tm (ob F 199), ob F 198, ob F 199]) {}
def ev : Env := { scope := pg.main.scope, locals := mainNs, globals := mainNs, cells := [], code := .ref 13, frame := some 14 }
def bd : List Stmt := behindTheImports pg
def cd : Code := .body bd ev
def ps0 : Pos := ⟨0, 0, 0, 0⟩
def an : Option Value := some (.ref 6)
def sh (h : Heap) (k : Nat) (os : OsState) : Shared := ⟨h, #[], {}, k, os⟩
theorem p_open : ∀ w : World, (fencedOpening treeTable pg w 2302).map (fun s => (s.heap, s.gens, s.drawn, s.toks)) = some (boot_heap w.params, Array.mk [], boot_drawn, boot_toks) := boot_open (by kernel_rfl) (by rfl) (fun _ => rfl)
theorem p_size : ∀ w : World, ((boot_heap w.params).isNs mainGlobals && (Array.mk [] : Array GenState).size == 0, (boot_heap w.params).objs.size, (boot_heap w.params).nsMap mainGlobals "__annotations__") = (true, 11, an) := fun w => by kernel_rfl
theorem p_pre : ∀ (w : World) (os : OsState), topGo treeTable pg w 11 an 12 (sh (boot_heap w.params) boot_toks os) (topStub pg) = some (sh (hA w.params) 187 os, ⟨denote treeTable cd, cd, ps0, [topFrame ps0]⟩) := fun w os => by kernel_rfl
theorem p_block : ∀ (w : World) (os : OsState), segRun treeTable pg w 11 an 1 1 (sh (hA w.params) 187 os) (blockOf bd ev cd ps0 [topFrame ps0]) = some (.next, sh (hA w.params) 187 os, cd, ps0) := fun w os => by kernel_rfl
def Pc (N : Nat) (l : List Stmt) (H H' : Frag → Params → Heap) (k k' : Nat) (p p' : Pos) (K : Params → Frag) : Prop := ∀ (w : World) (os : OsState),
  segRun treeTable pg w 11 an 1 N (sh (H (K w.params) w.params) k os) (piecesOf l ev cd p [topFrame ps0]) = some (.next, sh (H' (K w.params) w.params) k' os, cd, p')
def d0 : List Stmt := bd.drop 2
def G0 : (Params → Frag) → Prop := Pc 240 (bd.take 2) (fun _ => hA) h0 187 220 ps0 ⟨2, 0, 7, 24⟩
def d1 : List Stmt := d0.drop 5
def G1 : (Params → Frag) → Prop := Pc 128 (d0.take 5) h0 h1 220 256 ⟨2, 0, 7, 24⟩ ⟨35, 0, 36, 111⟩
def d2 : List Stmt := d1.drop 6
def G2 : (Params → Frag) → Prop := Pc 99 (d1.take 6) h1 h2 256 280 ⟨35, 0, 36, 111⟩ ⟨52, 0, 52, 2⟩
def d3 : List Stmt := d2.drop 4
def G3 : (Params → Frag) → Prop := Pc 122 (d2.take 4) h2 h3 280 313 ⟨52, 0, 52, 2⟩ ⟨62, 0, 63, 40⟩
def d4 : List Stmt := d3.drop 5
def G4 : (Params → Frag) → Prop := Pc 124 (d3.take 5) h3 h4 313 343 ⟨62, 0, 63, 40⟩ ⟨72, 0, 73, 51⟩
def d5 : List Stmt := d4.drop 5
def G5 : (Params → Frag) → Prop := Pc 138 (d4.take 5) h4 h5 343 378 ⟨72, 0, 73, 51⟩ ⟨86, 0, 87, 60⟩
def d6 : List Stmt := d5.drop 4
def G6 : (Params → Frag) → Prop := Pc 101 (d5.take 4) h5 h6 378 407 ⟨86, 0, 87, 60⟩ ⟨99, 0, 109, 16⟩
def G7 : (Params → Frag) → Prop := Pc 144 d6 h6 h7 407 441 ⟨99, 0, 109, 16⟩ ⟨125, 0, 142, 125⟩
theorem pc_of {N : Nat} {l : List Stmt} {H H' : Frag → Params → Heap} {k k' : Nat} {p p' : Pos} {K : Params → Frag} (h : ∀ (w : World) (os : OsState),
    Fast.tw14374325043358763698 Fast.tw14364793385576792824 pg w 11 an 1 N (sh (H (K w.params) w.params) k os) (piecesOf l ev cd p [topFrame ps0]) = some (.next, sh (H' (K w.params) w.params) k' os, cd, p')) : Pc N l H H' k k' p p' K := fun w os => by
  have e := h w os
  rw [← Fast.te14374325043358763698, ← Fast.te14364793385576792824] at e
  exact e
theorem piece_take {tb : String → Option Builtin} {p : Program} {w : World} {n₀ : Nat} {ann : Option Value} {env : Env} {q : Pos} {n N : Nat} {s s' r : Shared} {b : List Stmt} {c : Code} {pos p' : Pos} (k : Nat) (h : segRun tb p w n₀ ann 1 n s (piecesOf (b.take k) env c pos [topFrame q]) = some (.next, s', c, p'))
    (h' : topRun tb p w n₀ ann N s' (restOf (b.drop k) env c p' [topFrame q]) = some r) : topRun tb p w n₀ ann (n + N) s (restOf b env c pos [topFrame q]) = some r := by
  have := piece_app h h'
  rwa [List.take_append_drop] at this
theorem piece_all {tb : String → Option Builtin} {p : Program} {w : World} {n₀ : Nat} {ann : Option Value} {env : Env} {q : Pos} {n N : Nat} {s s' r : Shared} {b : List Stmt} {c : Code} {pos p' : Pos} (h : segRun tb p w n₀ ann 1 n s (piecesOf b env c pos [topFrame q]) = some (.next, s', c, p'))
    (h' : topRun tb p w n₀ ann N s' ⟨doneF .next, c, p', [topFrame q]⟩ = some r) : topRun tb p w n₀ ann (n + N) s (restOf b env c pos [topFrame q]) = some r := by
  have := piece_app (rest := []) h (piece_nil h')
  rwa [List.append_nil] at this
def Gf (K : Params → Frag) : Prop := ∀ (w : World) (os : OsState), topRun treeTable pg w 11 an 2 (sh (h7 (K w.params) w.params) 441 os) ⟨doneF .next, cd, ⟨125, 0, 142, 125⟩, [topFrame ps0]⟩ = some (sh (h7 (K w.params) w.params) 441 os)
theorem p_run {K : Params → Frag} (g0 : G0 K) (g1 : G1 K) (g2 : G2 K) (g3 : G3 K) (g4 : G4 K) (g5 : G5 K) (g6 : G6 K) (g7 : G7 K) (gf : Gf K) (w : World) (os : OsState) : topRun treeTable pg w 11 an (12 + (1 + (240 + (128 + (99 + (122 + (124 + (138 + (101 + (144 + 2)))))))))) (sh (boot_heap w.params) boot_toks os) (topStub pg) = some (sh (h7 (K w.params) w.params) 441 os) :=
  go_top (p_pre w os) (piece_block (p_block w os) (piece_take 2 (g0 w os) (piece_take 5 (g1 w os) (piece_take 6 (g2 w os) (piece_take 4 (g3 w os) (piece_take 5 (g4 w os) (piece_take 5 (g5 w os) (piece_take 4 (g6 w os) (piece_all (g7 w os) (gf w os))))))))))
def vw : Program := { pg with main := { pg.main with body := [31, 29, 18, 10, 8, 2, 0].foldl List.eraseIdx pg.main.body } }
def xt (s : Shared) : Bool := xlAt vw [] s && recOk (RowW.records (OpenRow.toRowW (OpenLaw.row PySem.Challenge.rw_sa0092_01))) s
def sF (K : Params → Frag) (w : World) (os : OsState) : Shared := sh (h7 (K w.params) w.params) 441 os
def L0 (K : Params → Frag) : Prop := ∀ (w : World) (os : OsState), (staticsOk (importedModules pg.main.body) (boot_heap w.params) (sF K w os).heap && namesBound pg (sF K w os).heap && gensDone (sF K w os) && laidKept (boot_heap w.params) (sF K w os).heap) = true
def L1 (K : Params → Frag) : Prop := ∀ (w : World) (os : OsState), openSeen vw [] (importedModules pg.main.body) xt true (sF K w os) = openGood vw []
theorem left_of {K : Params → Frag} {as : List Addr} {e : ∀ P, as = (K P).map (·.1)} (g0 : G0 K) (g1 : G1 K) (g2 : G2 K) (g3 : G3 K) (g4 : G4 K) (g5 : G5 K) (g6 : G6 K) (g7 : G7 K) (gf : Gf K) (l0 : L0 K) (l1 : L1 K) (y : ∀ (w : World) (os : OsState), as.map (sF K w os).heap.get? = (K w.params).map fun p => some p.2) :
    LeftO pg vw [] xt (kHook K as e).obs (kHook K as e).val 2302 :=
  LeftO.of_pieces (H₁ := fun P => h7 (K P) P) p_open p_size (p_run g0 g1 g2 g3 g4 g5 g6 g7 gf) (by decide) (fun w => funext fun os => Prod.ext (l0 w os) (Prod.ext (l1 w os) (y w os)))
end
def asK : List Addr := [2, 3, 15, 22, 24, 25, 27, 28, 29, 30, 31, 32, 35, 37, 38, 40, 41, 42, 44, 45, 47, 48, 49, 52, 53, 54, 57, 58, 59, 62, 63, 64, 66, 67, 69, 70, 71, 72, 73, 75, 76, 78, 79, 80, 82, 83, 85, 86, 87, 89, 90, 92, 93, 94, 96, 97, 99, 100, 101, 103, 104, 106, 107, 108, 110, 111, 113, 114, 115, 117, 118, 120, 121, 122, 125, 126, 127, 130, 131, 132, 135, 136, 137, 139, 140, 142, 143, 144, 147, 148, 149, 152, 153, 154, 157, 158, 159, 161, 162, 164, 165, 166, 168, 169, 171, 172, 173, 175, 176, 178, 179, 180, 183, 184, 185, 188, 189, 190, 193, 194, 195, 198, 199]
theorem eK : ∀ P, asK = (kk.heap_39 P).map (·.1) := fun P => by kernel_rfl
theorem yK : ∀ (w : World) (os : OsState), asK.map (sF kk.heap_39 w os).heap.get? = (kk.heap_39 w.params).map fun p => some p.2 := fun w os => by kernel_rfl
theorem q0 : G0 kk.heap_39 := pc_of fun w os => by kernel_rfl
theorem q1 : G1 kk.heap_39 := pc_of fun w os => by kernel_rfl
theorem q2 : G2 kk.heap_39 := pc_of fun w os => by kernel_rfl
theorem q3 : G3 kk.heap_39 := pc_of fun w os => by kernel_rfl
theorem q4 : G4 kk.heap_39 := pc_of fun w os => by kernel_rfl
theorem q5 : G5 kk.heap_39 := pc_of fun w os => by kernel_rfl
theorem q6 : G6 kk.heap_39 := pc_of fun w os => by kernel_rfl
theorem q7 : G7 kk.heap_39 := pc_of fun w os => by kernel_rfl
theorem qf : Gf kk.heap_39 := fun w os => by kernel_rfl
theorem w0 : L0 kk.heap_39 := fun w os => by kernel_rfl
theorem c0 (w : World) (os : OsState) : seen ((recsOf vw).map (·.name)) (ownsOf vw) [] { sF kk.heap_39 w os with gens := #[] } = expectedOf vw := by kernel_rfl
theorem c1 (w : World) (os : OsState) : (sF kk.heap_39 w os).heap.bltView = bltViewBooted := by kernel_rfl
theorem c2 (w : World) (os : OsState) : ((sF kk.heap_39 w os).heap.keysOk (looseW vw []) ((recsOf vw).map (·.name)) ((litsOf vw).map (·.1)) ((clssOf vw (looseW vw [])).map (·.name)) && (sF kk.heap_39 w os).heap.accountedOkI (importedModules pg.main.body) && (sF kk.heap_39 w os).heap.isNs mainGlobals && (sF kk.heap_39 w os).heap.isNs builtinsNs && tablesOk vw (sF kk.heap_39 w os).heap && xt (sF kk.heap_39 w os) && (sF kk.heap_39 w os).gens.size == 0) = true := by kernel_rfl
theorem c3 (w : World) (os : OsState) : tabsOk vw (sF kk.heap_39 w os) = true := by kernel_rfl
theorem c4 (w : World) (os : OsState) : pinSeenD vw (drecsOf vw) (sF kk.heap_39 w os) = pinGoodD (drecsOf vw) := by kernel_rfl
theorem c5 (w : World) (os : OsState) : plainSeenE vw (looseW vw []) (sF kk.heap_39 w os) = plainGoodE vw (looseW vw []) := by kernel_rfl
theorem c6 (w : World) (os : OsState) : plainSeenD vw [] (sF kk.heap_39 w os) = plainGoodD vw [] := by kernel_rfl
theorem c7 (w : World) (os : OsState) : wideSeen vw (sF kk.heap_39 w os) = wideGood vw := by kernel_rfl
theorem c8 (w : World) (os : OsState) : clsSeenW vw [] (sF kk.heap_39 w os) = clsGoodW vw [] := by kernel_rfl
theorem w1 : L1 kk.heap_39 := fun w os => (looks_pair (c0 w os) (looks_pair (c1 w os) (looks_pair (c2 w os) (looks_pair (c3 w os) (looks_pair (c4 w os) (looks_pair (c5 w os) (looks_pair (c6 w os) (looks_pair (c7 w os) (c8 w os)))))))))
theorem left : LeftO pg vw [] xt (kHook kk.heap_39 asK eK).obs (kHook kk.heap_39 asK eK).val 2302 := left_of q0 q1 q2 q3 q4 q5 q6 q7 qf w0 w1 yK
section
local macro_rules | `(tactic| o_law) => `(tactic| refine kk fun _ said => ?_)
local macro_rules | `(tactic| k_head) => `(tactic| (
  apply holds_open (q := vw) (loose := []) (Xt := xt) (XP := XL vw []) (Yf := Hook.obs (kHook kk.heap_39 asK eK)) (Ya := Hook.val (kHook kk.heap_39 asK eK)) (YP := Hook.says (kHook kk.heap_39 asK eK)) (N := 2302)
    (hY := Hook.of _) (hYk := Hook.keeps _) (hX := fun s e => xl_of s (Bool.and_eq_true_iff.mp e).1) (hXk := XL.keeps) (hdef := by rfl) (hp := by rfl) (hk := by rfl) (hRf := fun s e => recFacts_of (Bool.and_eq_true_iff.mp e).2) (hwr := by rfl)
    (k1 := by assumption) (ok := by decide +kernel) (hb := ⟨rfl, rfl, rfl, rfl, rfl, by decide +kernel⟩)
  focus exact left))
open_top hd for PySem.Challenge.rw_sa0092_01
end
end Mine
end
section
open PySem PySem.Spec PySem.Calls PySem.W PyProof.Rows
namespace Mine
abbrev Ledger := List (Addr × Obj)
structure KeepG (sub : Ledger) (h g : Heap) : Prop where
  all : ∀ b o, b ∉ sub.map (·.1) → h.get? b = some o → g.get? b = some o
structure Ends (sub : Ledger) (h h' : Heap) (new : Ledger) : Prop where
  keep : ∀ b o, b ∉ sub.map (·.1) → h.get? b = some o → h'.get? b = some o
  fresh : ∀ p ∈ new, h.get? p.1 = none
def Apart (new sub : Ledger) : Prop := ∀ p ∈ new, ∀ q ∈ sub, @Ne Nat p.1 q.1
theorem apart_nil {sub : Ledger} : Apart [] sub := fun _ hp => nomatch hp
theorem apart_cons {p : Addr × Obj} {new sub : Ledger} (h : ∀ q ∈ sub, @Ne Nat p.1 q.1) (k : Apart new sub) : Apart (p :: new) sub := fun x hx => by
  rcases List.mem_cons.mp hx with rfl | hx
  · exact h
  · exact k x hx

def Says (lv : Nat) (w : World) (mean : ExcName → Option Value) (mg mb : Str → Option Value) (f : Addr) (sub : Ledger) (vs : List Value) (post : Value → Ledger → Ledger → Prop) : Prop :=
  ∀ (dp un : Nat) (gd : Option (List Code)) (cn : Str) (cs : Scope) (a : Addr) (ccd : Value) (cl : List (Str × Addr)) (outer : List Env) (A₀ : Around) (base h₀ : Heap) (L : Addr) (m : Str → Option Value) (s : Shared)
    (Q E : Value → Shared → Prop),
    Below A₀ base outer h₀ → Fr h₀ L s.heap m → (kk.heap_39 w.params).In h₀ → News h₀ L s.heap sub → Top vw (looseW vw []) mean mg mb h₀ → cs.kind = .function → dp + 20 * (lv + 1) < 1000 → un + 200 * (lv + 1) < 9900 →
    (∀ r new sub' h' tk', post r new sub' → Fr h₀ L h' m → News h₀ L h' (new ++ sub') → Ends sub s.heap h' new → Q r { s with heap := h', toks := tk' }) →
    wpAny (model PySem.Challenge.rw_sa0092_01.row.prog w) (ktrTop dp un gd cn cs L a ccd cl outer) (call (.ref f) vs) Q E s

section
variable {prog : Program} {w : World} {A A₀ : Around} {E : Value → Shared → Prop} {s : Shared} {K : Frag} {C L : Addr} {h₀ base : Heap} {m mg mb : Str → Option Value} {news : Ledger} {p : Program} {loose : List Str} {mean : ExcName → Option Value} {Q : Value → Shared → Prop}

theorem keepG_hide {h : Heap} {sub : Ledger} : KeepG sub h (hideAll h (sub.map (·.1))) := ⟨fun _ _ hb e => hideAll_get _ e hb⟩

theorem enter_plain {env : Env} {outer : List Env} {R : Result → Shared → Prop} {name qual : Str} {params : Arguments} {body : List Stmt} {scope : Scope} {dV kV doc pm cdv ct oc : Value} {an od : Option Addr} {osl : Array (Option Value)} {f : Addr} {args : Args} {binds : List (Str × Value)}
    (B : Below A₀ base outer h₀) (F : Fr h₀ L s.heap m) (X₀ : K.In h₀) (N : News h₀ L s.heap news) (T : Top p loose mean mg mb h₀) (hA : A.frames = some (env :: outer)) (hf : env.frame = some L) (hke : env.scope.kind = .function)
    (ho : K.lookup f = some ⟨oc, od, .func (fnOf name qual params body scope dV kV doc pm an cdv ct), osl⟩) (hcd : codeIn K cdv qual = true) (hroom : A.depth < recursionLimit)
    (hbind : BindsTo s (fnOf name qual params body scope dV kV doc pm an cdv ct) args binds) (hloc : ∀ y ∈ binds, scope.names.lookup y.1 = some .local)
    (h : ∀ g L' h₁, Fr h₀ L g m → Fr g L' h₁ (fun y => binds.reverse.lookup y) → News g L' h₁ news → Below A base (env :: outer) g → K.In g → Top p loose mean mg mb g → KeepG news s.heap g → (∀ p ∈ news, p.1 < L') →
      wpAny (model prog w) (A.deeper (envOf qual scope L' f cdv)) (execs body (envOf qual scope L' f cdv))
        (fun fl s' => LeaveK h₀ L m g R (match fl with | .ret v => v | _ => .none) s')
        (fun e s' => wpAny (model prog w) (A.deeper (envOf qual scope L' f cdv)) (leaving (envOf qual scope L' f cdv) e) (fun _ s'' => R (.error e) s'') (fun e' s'' => R (.error e') s'') s')
        { s with heap := h₁, toks := s.toks + binds.length })
    (hco : scope.isCoroutine = false) (hgen : scope.isGenerator = false) (hk : scope.kind = .function)
    (hcell : ∀ x ∈ scope.names, x.2 ≠ .cell) : codeAny (model prog w) A (.call (.ref f) args) R s := by
  obtain ⟨FG, BG, st, lv⟩ := groundX (R := R) B F N hA hf hke
  refine codeAny_call_def (fd := fnOf name qual params body scope dV kV doc pm an cdv ct) (body := body) (binds := binds) hroom ((X₀.keeps F.keep) _ _ ho) rfl (T.nolimit.keeps F.keep) (codeRec_of (X₀.keeps F.keep) hcd) rfl hbind hcell hloc (fun h₁ hns hk₁ => ?_) hco hgen hk
  exact wpAny_mono (h _ s.heap.objs.size h₁ FG ⟨hns, fun b o e => hk₁ b o (of_hideAll _ e), Nat.le_of_eq (hideAll_size _ _)⟩
    (fun p hp => ⟨hk₁ _ _ (N p hp).1, Nat.ne_of_lt (Heap.lt_size (N p hp).1), hideAll_none _ (List.mem_map_of_mem hp)⟩) BG (X₀.keeps st) (T.keeps st) keepG_hide (fun p hp => Heap.lt_size (N p hp).1)) (fun fl s' hl => lv _ _ hl) fun _ _ y => y

theorem enter_cells {env : Env} {outer : List Env} {R : Result → Shared → Prop} {name qual : Str} {params : Arguments} {body : List Stmt} {scope : Scope} {dV kV doc pm cdv ct oc : Value} {an od : Option Addr} {osl : Array (Option Value)} {f : Addr} {args : Args} {binds : List (Str × Value)}
    (B : Below A₀ base outer h₀) (F : Fr h₀ L s.heap m) (X₀ : K.In h₀) (N : News h₀ L s.heap news) (T : Top p loose mean mg mb h₀) (hA : A.frames = some (env :: outer)) (hf : env.frame = some L) (hke : env.scope.kind = .function)
    (ho : K.lookup f = some ⟨oc, od, .func (fnOf name qual params body scope dV kV doc pm an cdv ct), osl⟩) (hcd : codeIn K cdv qual = true) (hroom : A.depth < recursionLimit)
    (hbind : BindsTo s (fnOf name qual params body scope dV kV doc pm an cdv ct) args binds) (hkind : (binds.all fun y => scope.names.lookup y.1 == some .local || scope.names.lookup y.1 == some .cell) = true)
    (hnd : ((cellsFrom 0 scope.names []).map (·.1)).Nodup)
    (h : ∀ g L' h₁ tk cells, Fr h₀ L g m → Fr g L' h₁ (bindL (envOfC qual scope L' f cdv).kindOf binds fun _ => none) → News g L' h₁ (cells ++ news) →
      CellsAre (bindC (envOfC qual scope L' f cdv).kindOf binds fun _ => none) (cellsFrom (L' + 1) scope.names []) cells → Apart cells news → Below A base (env :: outer) g → K.In g → Top p loose mean mg mb g → KeepG news s.heap g → (∀ p ∈ news, p.1 < L') →
      wpAny (model prog w) (A.deeper (envOfC qual scope L' f cdv)) (execs body (envOfC qual scope L' f cdv))
        (fun fl s' => LeaveK h₀ L m g R (match fl with | .ret v => v | _ => .none) s')
        (fun e s' => wpAny (model prog w) (A.deeper (envOfC qual scope L' f cdv)) (leaving (envOfC qual scope L' f cdv) e) (fun _ s'' => R (.error e) s'') (fun e' s'' => R (.error e') s'') s')
        { s with heap := h₁, toks := tk })
    (hco : scope.isCoroutine = false) (hgen : scope.isGenerator = false) (hk : scope.kind = .function) : codeAny (model prog w) A (.call (.ref f) args) R s := by
  obtain ⟨FG, BG, st, lv⟩ := groundX (R := R) B F N hA hf hke
  refine codeAny_call_function hroom ((X₀.keeps F.keep) _ _ ho) rfl hco hgen rfl (codeRec_of (X₀.keeps F.keep) hcd) (hbind _ _ _ _ ?_)
  refine wpAny_newFunctionEnv_cells hk (kindsX hkind _) fun env' he s' x => ?_
  subst he
  refine ⟨(T.nolimit.keeps F.keep).keeps x.toInCall.keep, codeAny_func ?_⟩
  obtain ⟨h₁, tk, rfl, _⟩ := x.done
  have hk₁ := x.toInCall.keep
  obtain ⟨cells, NC, Y⟩ := Cl.news (h₀ := s.heap) (Nat.le_refl _) fun n c hm => ⟨x.cell n c (lookup_of_mem_nodup (cellsFrom_names scope.names 0 (s.heap.objs.size + 1) [] [] rfl ▸ hnd) hm), x.above n c hm⟩
  refine wpAny_mono (h _ s.heap.objs.size h₁ tk cells FG ⟨x.toInCall.ns, fun b o e => hk₁ b o (of_hideAll _ e), Nat.le_of_eq (hideAll_size _ _)⟩ (fun p hp => ?_) Y (fun p hp q hq e => by have e1 := (NC p hp).2.2; have e2 := (N q hq).1; rw [show p.1 = q.1 from e, e2] at e1; cases e1) BG (X₀.keeps st) (T.keeps st) keepG_hide (fun p hp => Heap.lt_size (N p hp).1)) (fun fl s' hl => lv _ _ hl) fun _ _ y => y
  rcases List.mem_append.mp hp with hp | hp
  · refine ⟨(NC p hp).1, (NC p hp).2.1, ?_⟩
    cases q : (hideAll s.heap (news.map (·.1))).get? p.1 with
    | none => rfl
    | some o => have := of_hideAll _ q; rw [(NC p hp).2.2] at this; cases this
  · exact ⟨hk₁ _ _ (N p hp).1, Nat.ne_of_lt (Heap.lt_size (N p hp).1), hideAll_none _ (List.mem_map_of_mem hp)⟩

theorem leave_own {g h : Heap} {L' : Addr} {m' : Str → Option Value} {nn sub : Ledger} {R : Result → Shared → Prop} {v : Value} {s' : Shared} (hg : KeepG sub h g) (F' : Fr g L' s'.heap m') (N' : News g L' s'.heap nn)
    (k : Fr h₀ L s'.heap m → News h₀ L s'.heap nn → (∀ new, (∀ p ∈ new, p ∈ nn) → Apart new sub → Ends sub h s'.heap new) → R (.ok (.ret v)) s') : LeaveK h₀ L m g R v s' :=
  leaveK_ F' N' fun F N => k F N fun new hn ha => ⟨fun b o hb e => F'.keep b o (hg.all b o hb e), fun p hp => by
    cases q : h.get? p.1 with
    | none => rfl
    | some o =>
      have nb : p.1 ∉ sub.map (·.1) := fun hm => by
        obtain ⟨z, hz, e⟩ := List.mem_map.mp hm
        exact ha p hp z hz e.symm
      have := hg.all _ _ nb q
      rw [(N' p (hn p hp)).2.2] at this; cases this⟩

theorem says_use {lv : Nat} {f : Addr} {sub all rest : Ledger} {vs : List Value} {post : Value → Ledger → Ledger → Prop} {dp un : Nat} {gd : Option (List Code)} {cn : Str} {cs : Scope} {a : Addr} {ccd : Value} {cl : List (Str × Addr)} {outer : List Env}
    (H : Says lv w mean mg mb f sub vs post) (B : Below A₀ base outer h₀) (F : Fr h₀ L s.heap m) (X : (kk.heap_39 w.params).In h₀) (N : News h₀ L s.heap all) (T : Top vw (looseW vw []) mean mg mb h₀)
    (hk : cs.kind = .function) (hd : dp + 20 * (lv + 1) < 1000) (hu : un + 200 * (lv + 1) < 9900) (hs : ∀ p ∈ sub, p ∈ all) (hr : ∀ p ∈ rest, p ∈ all) (ha : Apart rest sub)
    (ret : ∀ r new sub' h' tk', post r new sub' → Fr h₀ L h' m → News h₀ L h' (new ++ (sub' ++ rest)) → Apart new all → Q r { s with heap := h', toks := tk' }) :
    wpAny (model PySem.Challenge.rw_sa0092_01.row.prog w) (ktrTop dp un gd cn cs L a ccd cl outer) (call (.ref f) vs) Q E s := by
  refine H dp un gd cn cs a ccd cl outer A₀ base h₀ L m s Q E B F X (fun p hp => N p (hs p hp)) T hk hd hu fun r new sub' h' tk' hp F' N' D => ret r new sub' h' tk' hp F' (fun p hm => ?_) fun p hp q hq e => ?_
  · rcases List.mem_append.mp hm with hm | hm
    · exact N' p (List.mem_append_left _ hm)
    · rcases List.mem_append.mp hm with hm | hm
      · exact N' p (List.mem_append_right _ hm)
      · refine ⟨D.keep p.1 p.2 (fun hb => ?_) (N p (hr p hm)).1, (N p (hr p hm)).2⟩
        obtain ⟨z, hz, e⟩ := List.mem_map.mp hb
        exact ha p hm z hz e.symm
  · have e1 := D.fresh p hp
    have e2 := (N q hq).1
    rw [← (show p.1 = q.1 from e), e1] at e2; cases e2

theorem says_read {lv : Nat} {f : Addr} {sub all : Ledger} {vs : List Value} {post : Value → Ledger → Ledger → Prop} {dp un : Nat} {gd : Option (List Code)} {cn : Str} {cs : Scope} {a : Addr} {ccd : Value} {cl : List (Str × Addr)} {outer : List Env}
    (H : Says lv w mean mg mb f sub vs post) (B : Below A₀ base outer h₀) (F : Fr h₀ L s.heap m) (X : (kk.heap_39 w.params).In h₀) (N : News h₀ L s.heap all) (T : Top vw (looseW vw []) mean mg mb h₀)
    (hk : cs.kind = .function) (hd : dp + 20 * (lv + 1) < 1000) (hu : un + 200 * (lv + 1) < 9900) (hs : ∀ p ∈ sub, p ∈ all) (hp : ∀ r new sub', post r new sub' → sub' = sub)
    (ret : ∀ r new h' tk', post r new sub → Fr h₀ L h' m → News h₀ L h' (new ++ all) → Apart new all → Q r { s with heap := h', toks := tk' }) :
    wpAny (model PySem.Challenge.rw_sa0092_01.row.prog w) (ktrTop dp un gd cn cs L a ccd cl outer) (call (.ref f) vs) Q E s := by
  refine H dp un gd cn cs a ccd cl outer A₀ base h₀ L m s Q E B F X (fun p hp => N p (hs p hp)) T hk hd hu fun r new sub' h' tk' hq F' N' D => ?_
  obtain rfl := hp _ _ _ hq
  refine ret r new h' tk' hq F' (fun p hm => ?_) fun p hp q hq e => ?_
  · rcases List.mem_append.mp hm with hm | hm
    · exact N' p (List.mem_append_left _ hm)
    · by_cases hb : p.1 ∈ sub'.map (·.1)
      · obtain ⟨z, hz, e⟩ := List.mem_map.mp hb
        have e1 := (N z (hs z hz)).1
        have e2 := (N p hm).1
        rw [e, e2] at e1
        have e3 : p = z := Prod.ext e.symm (Option.some.inj e1)
        exact N' p (List.mem_append_right _ (e3 ▸ hz))
      · exact ⟨D.keep p.1 p.2 hb (N p hm).1, (N p hm).2⟩
  · have e1 := D.fresh p hp
    have e2 := (N q hq).1
    rw [← (show p.1 = q.1 from e), e1] at e2; cases e2
end
end Mine
end
section
open PySem PySem.Spec PySem.Calls PySem.W PyProof.Rows PyProof.Rows.LCg
namespace Mine

def NeAll (a : Nat) : List Addr → Prop
  | [] => True
  | b :: r => @Ne Nat a b ∧ NeAll a r
def Offs (own : List Addr) : Ledger → Prop
  | [] => True
  | p :: r => NeAll p.1 own ∧ Offs own r
theorem NeAll.mem {a : Nat} : ∀ {own : List Addr}, NeAll a own → ∀ b ∈ own, a ≠ b := by
  intro own
  induction own with
  | nil => intro _ b h; cases h
  | cons c r ih =>
    intro x b h
    unfold NeAll at x
    rcases List.mem_cons.mp h with e | h
    · exact e ▸ x.1
    · exact ih x.2 b h
theorem NeAll.of {a : Nat} : ∀ {own : List Addr}, (∀ b ∈ own, a ≠ b) → NeAll a own := by
  intro own
  induction own with
  | nil => intro _; unfold NeAll; exact True.intro
  | cons c r ih => intro h; unfold NeAll; exact ⟨h c (List.mem_cons_self ..), ih fun b hb => h b (List.mem_cons_of_mem _ hb)⟩
theorem Offs.mem {own : List Addr} : ∀ {l : Ledger}, Offs own l → ∀ p ∈ l, ∀ b ∈ own, p.1 ≠ b := by
  intro l
  induction l with
  | nil => intro _ p h; cases h
  | cons c r ih =>
    intro x p h
    unfold Offs at x
    rcases List.mem_cons.mp h with e | h
    · exact e ▸ x.1.mem
    · exact ih x.2 p h
theorem Offs.of {own : List Addr} : ∀ {l : Ledger}, (∀ p ∈ l, ∀ b ∈ own, p.1 ≠ b) → Offs own l := by
  intro l
  induction l with
  | nil => intro _; unfold Offs; exact True.intro
  | cons c r ih => intro h; unfold Offs; exact ⟨NeAll.of (h c (List.mem_cons_self ..)), ih fun p hp => h p (List.mem_cons_of_mem _ hp)⟩

def EndK (h₀ : Heap) (L : Addr) (m : Str → Option Value) (s₁ : Shared) (ios : Ledger) (C : Addr) (oC : Obj) (D : Addr) (oD : Obj) (cos : Ledger) (S : Ledger → Prop) (rest : Value → Ledger → Prop) (y : Value) (s₂ : Shared) : Prop :=
  ∃ h' tk news', s₂ = { s₁ with heap := h', toks := tk } ∧ Fr h₀ L h' m ∧ News h₀ L h' (ios ++ (C, oC) :: (D, oD) :: (cos ++ news')) ∧ Offs (ios.map (·.1) ++ C :: D :: cos.map (·.1)) news' ∧ S news' ∧ rest y news'
theorem EndK.intro {h₀ : Heap} {L C D : Addr} {m : Str → Option Value} {s₁ : Shared} {oC oD : Obj} {ios cos : Ledger} {S : Ledger → Prop} {rest : Value → Ledger → Prop} {y : Value} {h' : Heap} {tk : Nat} {all : Ledger}
    (F : Fr h₀ L h' m) (N : News h₀ L h' all) (news' : Ledger) (sub : ∀ p ∈ ios ++ (C, oC) :: (D, oD) :: (cos ++ news'), p ∈ all) (off : Offs (ios.map (·.1) ++ C :: D :: cos.map (·.1)) news') (hS : S news') (r : rest y news') :
    EndK h₀ L m s₁ ios C oC D oD cos S rest y { s₁ with heap := h', toks := tk } := ⟨h', tk, news', rfl, F, fun p hp => N p (sub p hp), off, hS, r⟩

def BodyK (prog : Program) (w : World) (A : Around) (tests : List Expr) (elt : Expr) (env : Env) (Q : Value → Shared → Prop) (Sk : Shared → Prop) (E : Value → Shared → Prop) (s : Shared) : Prop :=
  match tests with
  | [] => wpAny (model prog w) A (eval elt env) Q E s
  | [ct] => wpAny (model prog w) A (isTrue ct env (eval ct env)) (fun ok s' => if ok = true then wpAny (model prog w) A (eval elt env) Q E s' else Sk s') E s
  | _ => False

def RestK (prog : Program) (w : World) (A : Around) (h₀ : Heap) (L : Addr) (m : Str → Option Value) (cenv : Env) (tests : List Expr) (elt : Expr) (iad : List Addr) (C D : Addr) (s : Shared) (S : Ledger → Prop)
    (asg : Nat → (Str → Option Value) → Ledger → Prop) (Fin : List Value → Ledger → Prop) : Nat → Nat → List Value → Ledger → Prop
  | 0, _, ys, news => Fin ys news
  | k + 1, i, ys, news => ∀ ios oC cos m₂ h tk (E' : Value → Shared → Prop), asg i m₂ cos → ios.map (·.1) = iad → NsObj oC m₂ → Fr h₀ L h m → News h₀ L h (ios ++ (C, oC) :: (D, lst ys) :: (cos ++ news)) → Offs (ios.map (·.1) ++ C :: D :: cos.map (·.1)) news →
      BodyK prog w A tests elt cenv (EndK h₀ L m { s with heap := h, toks := tk } ios C oC D (lst ys) cos S (fun y news' => RestK prog w A h₀ L m cenv tests elt iad C D s S asg Fin k (i + 1) (ys ++ [y]) news'))
        (EndK h₀ L m { s with heap := h, toks := tk } ios C oC D (lst ys) cos S (fun _ news' => RestK prog w A h₀ L m cenv tests elt iad C D s S asg Fin k (i + 1) ys news') Value.none) E' { s with heap := h, toks := tk }

def celAt (cx : Option Str) (K : Addr) : List (Str × Addr) := match cx with | none => [] | some x => [(x, K)]
def pushCel (cx : Option Str) (h : Heap) : Heap := match cx with | none => h | some _ => h.push { cls := .type "cell", data := .cell none }

section
variable {prog : Program} {w : World} {A : Around} {E : Value → Shared → Prop} {s : Shared} {h₀ : Heap} {L : Addr} {m : Str → Option Value} {env : Env}

theorem loopK {elt target iter : Expr} {ifs : List Expr} {scope : Scope} {pos : Pos} {it acc : Value} {env : Env} {R : Result → Shared → Prop} (I : Nat → Shared → Prop)
    (turn : ∀ n s, I n s → wpAny (model prog w) A (pyNext it) (fun r s₁ => match r with
      | none => R (.ok .next) s₁
      | some v => wpAny (model prog w) A (letOwnedTupleGo target it v) (fun _ s₀ => wpAny (model prog w) A (assign target env v) (fun _ s₂ =>
          BodyK prog w A ifs elt env (fun x s₄ =>
            wpAny (model prog w) A (call (.builtin "list.append") [acc, x]) (fun _ s₅ => ∃ m, m < n ∧ I m s₅) (notedBy (model prog w) A env fun e s' => R (.error e) s') s₄) (fun s₄ => ∃ m, m < n ∧ I m s₄) (notedBy (model prog w) A env fun e s' => R (.error e) s') s₂)
          (notedBy (model prog w) A env fun e s' => R (.error e) s') s₀) (notedBy (model prog w) A env fun e s' => R (.error e) s') s₁) (notedBy (model prog w) A env fun e s' => R (.error e) s') s)
    (n : Nat) (h : I n s) : codeAny (model prog w) A (.compLoop (.ListComp elt [⟨target, iter, ifs, 0⟩] scope pos) 0 it acc env) R s := by
  refine codeAny_loop rfl I (fun n s hI => ?_) n h
  show wpAny _ A ((compTurn (.ListComp elt [⟨target, iter, ifs, 0⟩] scope pos) 0 it acc env).onRaise (fun x => do noteFrame x env; theTreesLotGoes x)) _ _ s
  refine wpAny_noted ?_
  rw [compTurn_list]
  refine wpAny_bind (wpAny_standAt (wpAny_bind (wpAny_mono (turn n s hI) (fun r s₁ h₁ => ?_) fun _ _ h' => h')))
  cases r with
  | none => exact wpAny_pure h₁
  | some v =>
    refine wpAny_bind (wpAny_mono h₁ (fun _ s₀ h₀' => ?_) fun _ _ h' => h')
    refine wpAny_bind (wpAny_mono h₀' (fun _ s₂ h₂ => ?_) fun _ _ h' => h')
    match ifs, h₂ with
    | [], h₂ =>
      refine wpAny_bind (wpAny_tests_nil ?_)
      exact wpAny_bind (wpAny_bind (wpAny_mono h₂ (fun x s₄ h₄ => wpAny_bind (wpAny_mono h₄ (fun _ s₅ h₅ => wpAny_pure (wpAny_pure ⟨rfl, h₅⟩)) fun _ _ h' => h')) fun _ _ h' => h'))
    | [ct], h₂ =>
      refine wpAny_bind (wpAny_tests_one (wpAny_mono h₂ (fun ok s₃ h₃ => ?_) fun _ _ h' => h'))
      cases ok with
      | true =>
        exact wpAny_bind (wpAny_bind (wpAny_mono h₃ (fun x s₄ h₄ => wpAny_bind (wpAny_mono h₄ (fun _ s₅ h₅ => wpAny_pure (wpAny_pure ⟨rfl, h₅⟩)) fun _ _ h' => h')) fun _ _ h' => h'))
      | false => exact wpAny_bind (wpAny_pure (wpAny_pure ⟨rfl, h₃⟩))
    | _ :: _ :: _, h₂ => exact h₂.elim

theorem wpAny_newEnv_cel {scope : Scope} {cx : Option Str} {cl : List (Str × Addr)} {qual : Str} {genv : Addr} {Q : Env → Shared → Prop}
    (hcf : ∀ n acc, cellsFrom n scope.names acc = celAt cx n ++ acc) (hpc : ∀ h, pushCells h scope.names = pushCel cx h)
    (h : Q { scope, locals := s.heap.objs.size, globals := genv, cells := celAt cx (s.heap.objs.size + 1) ++ cl, qual, func := none, code := env.code, frame := env.frame, builtins := env.builtins }
      { s with heap := pushCel cx (s.heap.push { cls := .type "dict", data := .dict #[] }) }) :
    wpAny (model prog w) A (newFunctionEnv scope genv cl [] qual none .none (some env)) Q E s := by
  simp only [newFunctionEnv, Option.isSome_some, if_true]
  refine wpAny_bind (wpAny_alloc ?_)
  refine wpAny_bind (wpAny_layCells _ (fun name kind cells => by cases hkc : kind == NameKind.cell <;> simp [hkc]) _ _ _ _ ?_)
  rw [hcf, hpc]
  rw [show ({ s with heap := s.heap.push { cls := .type "dict", data := .dict #[] } } : Shared).heap.objs.size = s.heap.objs.size + 1 from Heap.size_push ..]
  simp only [List.forIn_nil]
  exact wpAny_bind (wpAny_pure (wpAny_pure h))

/-- what a source gives: the iterator's states and the turn. -/
structure Walk (prog : Program) (w : World) (A : Around) (h₀ : Heap) (L : Addr) (I : Addr) (fp iad : List Addr) (n : Nat) (target : Expr) (S : Ledger → Prop) (St : Nat → Heap → Prop) (cx : Option Str) (asg : Addr → Nat → (Str → Option Value) → Ledger → Prop) (scope : Scope) (cl : List (Str × Addr)) (env : Env) : Prop where
  sub : ∀ b ∈ iad, b ∈ fp
  stay : ∀ i h h' nw, St i h → (∀ b ∈ iad, ∀ o, h.get? b = some o → h'.get? b = some o) → (∀ b o, h₀.get? b = some o → h'.get? b = some o) → News h₀ L h' nw → S nw → St i h'
  objs : ∀ i h, St i h → ∃ ios : Ledger, ios.map (·.1) = iad ∧ ∀ p ∈ ios, h.get? p.1 = some p.2
  turn : ∀ i C K (s : Shared) (m' : Str → Option Value) (Q : Shared → Prop) (E : Value → Shared → Prop), i < n → St i s.heap → s.heap.Ns C m' → C ∉ fp → (cx.isSome = true → ∃ v, s.heap.IsCell K v) → K ∉ fp → C ≠ K →
    (∀ h' tk m₂ cos, asg K i m₂ cos → (∀ p ∈ cos, h'.get? p.1 = some p.2 ∧ p.1 = K ∧ ∃ v, p.2.data = .cell v) → cos.map (·.1) = (celAt cx K).map (·.2) → h'.Ns C m₂ → St (i + 1) h' → (∀ b o, b ∉ iad → b ≠ C → b ∉ (celAt cx K).map (·.2) → s.heap.get? b = some o → h'.get? b = some o) → Q { s with heap := h', toks := tk }) →
    wpAny (model prog w) A (pyNext (.ref I)) (fun r s₁ => match r with
      | none => False
      | some v => wpAny (model prog w) A (letOwnedTupleGo target (.ref I) v) (fun _ s₀ => wpAny (model prog w) A (assign target (compEnvC scope (celAt cx K ++ cl) C env) v) (fun _ s₂ => Q s₂) E s₀) E s₁) E s
  done : ∀ (s : Shared) (Q : Option Value → Shared → Prop) (E : Value → Shared → Prop), St n s.heap →
    (∀ h' tk, (∀ b o, b ∉ iad → s.heap.get? b = some o → h'.get? b = some o) → Q none { s with heap := h', toks := tk }) → wpAny (model prog w) A (pyNext (.ref I)) Q E s
  self : ∀ (s : Shared) (Q : Value → Shared → Prop) (E : Value → Shared → Prop), St 0 s.heap → Q (.ref I) s → wpAny (model prog w) A (pyIter (.ref I)) Q E s
end
end Mine
end
section
open PySem PySem.Spec PySem.Calls PySem.W PyProof.Rows PyProof.Rows.LCg
namespace Mine
section
variable {prog : Program} {w : World} {A : Around} {E : Value → Shared → Prop} {s : Shared} {h₀ : Heap} {L : Addr} {m : Str → Option Value} {env : Env}

theorem bodyK_mono {tests : List Expr} {elt : Expr} {env : Env} {Q Q' : Value → Shared → Prop} {Sk Sk' : Shared → Prop} {E : Value → Shared → Prop} {s : Shared}
    (h : BodyK prog w A tests elt env Q Sk E s) (hq : ∀ y s, Q y s → Q' y s) (hs : ∀ s, Sk s → Sk' s) : BodyK prog w A tests elt env Q' Sk' E s := by
  match tests, h with
  | [], h => exact wpAny_mono h hq fun _ _ e => e
  | [ct], h =>
    refine wpAny_mono h (fun ok s₁ h₁ => ?_) fun _ _ e => e
    cases ok with
    | true => exact wpAny_mono h₁ hq fun _ _ e => e
    | false => exact hs _ h₁
  | _ :: _ :: _, h => exact h.elim

theorem mem_iad {ios : Ledger} {iad : List Addr} (e : ios.map (·.1) = iad) {b : Addr} (hb : b ∈ iad) : ∃ p ∈ ios, p.1 = b := by
  rw [← e] at hb
  obtain ⟨p, hp, q⟩ := List.mem_map.mp hb
  exact ⟨p, hp, q⟩

theorem blockK {target elt iter : Expr} {tests : List Expr} {scope : Scope} {cl : List (Str × Addr)} {cx : Option Str} {pos : Pos} {s₂ : Shared} {I : Addr} {fp iad : List Addr} {n : Nat} {S : Ledger → Prop} {St : Nat → Heap → Prop}
    {asg : Addr → Nat → (Str → Option Value) → Ledger → Prop} {news : Ledger} {Fin : Addr → List Value → Ledger → Prop} {RR : Value → Addr → Result → Shared → Prop}
    (W : Walk prog w A h₀ L I fp iad n target S St cx asg scope cl env) (hsz : n ≤ sizeLine)
    (hcf : ∀ n acc, cellsFrom n scope.names acc = celAt cx n ++ acc) (hpc : ∀ h, pushCells h scope.names = pushCel cx h)
    (hst : St 0 s₂.heap) (hiad : ∀ b ∈ iad, b < s₂.heap.objs.size ∧ b ≠ L ∧ h₀.get? b = none) (hfp : ∀ b ∈ fp, b < s₂.heap.objs.size)
    (F : Fr h₀ L s₂.heap m) (N : News h₀ L s₂.heap news) (off : ∀ p ∈ news, ∀ b ∈ iad, p.1 ≠ b) (hS : S news)
    (R : ∀ D : Addr, (∀ b ∈ iad, b < D) → (∀ p ∈ news, p.1 < D) → L < D →
      RestK prog w A h₀ L m (compEnvC scope (celAt cx (D + 2) ++ cl) (D + 1) env) tests elt iad (D + 1) D s₂ S (asg (D + 2)) (Fin D) n 0 [] news)
    (hRR : ∀ D C h tk m' ys news', Fr h₀ L h m → News h₀ L h ((D, lst ys) :: news') → h.Ns C m' → h₀.get? C = none → C ≠ L → C ≠ D → (∀ p ∈ news', p.1 ≠ C) → Fin D ys news' → RR (.ref D) C (.ok .next) { s₂ with heap := h, toks := tk }) :
    wpAny (model prog w) A (newList []) (fun acc s₃ => wpAny (model prog w) A (newFunctionEnv scope env.globals cl [] env.qual none .none (some env)) (fun cenv s₄ =>
      codeAny (model prog w) A (.compStart (.ListComp elt [⟨target, iter, tests, 0⟩] scope pos) 0 (.ref I) acc { cenv with scope := relabel scope env }) (RR acc cenv.locals) s₄) E s₃) E s₂ := by
  refine wpAny_newObj_type (wpAny_newEnv_cel hcf hpc ?_)
  dsimp only
  generalize hD : s₂.heap.objs.size = D at hiad hfp ⊢
  have hH1 : (s₂.heap.push { cls := .type "list", dict := none, data := .seq ([] : List Value).toArray }).objs.size = D + 1 := by rw [Heap.size_push, hD]
  rw [hH1]
  have hlt : ∀ b o, s₂.heap.get? b = some o → b < D := fun b o e => hD ▸ Heap.lt_size e
  have old0 : ∀ b o, s₂.heap.get? b = some o → ((s₂.heap.push { cls := .type "list", dict := none, data := .seq ([] : List Value).toArray }).push { cls := .type "dict", data := .dict #[] }).get? b = some o := fun b o e => Heap.get?_push_of_some _ (Heap.get?_push_of_some _ e)
  have hDl0 : ((s₂.heap.push { cls := .type "list", dict := none, data := .seq ([] : List Value).toArray }).push { cls := .type "dict", data := .dict #[] }).get? D = some (lst []) := by
    refine Heap.get?_push_of_some _ ?_
    rw [← hD]; exact Heap.get?_push_size _ rfl
  have hCn0 : ((s₂.heap.push { cls := .type "list", dict := none, data := .seq ([] : List Value).toArray }).push { cls := .type "dict", data := .dict #[] }).Ns (D + 1) (fun _ => none) := by
    rw [← hH1]; exact Heap.Ns.new _ _
  have hH2 : ((s₂.heap.push { cls := .type "list", dict := none, data := .seq ([] : List Value).toArray }).push { cls := .type "dict", data := .dict #[] }).objs.size = D + 2 := by rw [Heap.size_push, hH1]
  generalize ((s₂.heap.push { cls := .type "list", dict := none, data := .seq ([] : List Value).toArray }).push { cls := .type "dict", data := .dict #[] }) = H2 at old0 hDl0 hCn0 hH2 ⊢
  have up : ∀ b o, H2.get? b = some o → (pushCel cx H2).get? b = some o := fun b o e => by
    cases cx with
    | none => exact e
    | some x => exact Heap.get?_push_of_some _ e
  have hcell0 : cx.isSome = true → ∃ v, (pushCel cx H2).IsCell (D + 2) v := fun h => by
    cases cx with
    | none => cases h
    | some x => exact ⟨none, _, (by rw [← hH2]; exact Heap.get?_push_size _ rfl), rfl⟩
  generalize pushCel cx H2 = H3 at up hcell0 ⊢
  have old : ∀ b o, s₂.heap.get? b = some o → H3.get? b = some o := fun b o e => up _ _ (old0 b o e)
  have hDl := up _ _ hDl0
  have hCn := hCn0.keeps up
  have fresh₀ : ∀ a, D ≤ a → h₀.get? a = none := fun a ha => by
    cases e : h₀.get? a with
    | none => rfl
    | some o' => exact absurd (hlt _ _ (F.keep a o' e)) (Nat.not_lt.mpr ha)
  have hLD : L < D := hD ▸ F.ns.lt
  have hDL : D ≠ L := Nat.ne_of_gt hLD
  have hCL : D + 1 ≠ L := Nat.ne_of_gt (Nat.lt_succ_of_lt hLD)
  have hKL : D + 2 ≠ L := Nat.ne_of_gt (Nat.lt_succ_of_lt (Nat.lt_succ_of_lt hLD))
  have hCf : D + 1 ∉ fp := fun h => absurd (hfp _ h) (Nat.not_lt.mpr (Nat.le_succ _))
  have hKf : D + 2 ∉ fp := fun h => absurd (hfp _ h) (Nat.not_lt.mpr (Nat.le_add_right _ _))
  have hCi : D + 1 ∉ iad := fun h => absurd (hiad _ h).1 (Nat.not_lt.mpr (Nat.le_succ _))
  have hKi : D + 2 ∉ iad := fun h => absurd (hiad _ h).1 (Nat.not_lt.mpr (Nat.le_add_right _ _))
  have hDi : D ∉ iad := fun h => absurd (hiad _ h).1 (Nat.lt_irrefl _)
  have hCK : D + 1 ≠ D + 2 := Nat.ne_of_lt (Nat.lt_succ_self _)
  have hDC : D ≠ D + 1 := Nat.ne_of_lt (Nat.lt_succ_self _)
  have hDK : D ≠ D + 2 := Nat.ne_of_lt (Nat.lt_succ_of_lt (Nat.lt_succ_self _))
  have hcelm : ∀ b ∈ (celAt cx (D + 2)).map (·.2), b = D + 2 := fun b hb => by
    cases cx with
    | none => cases hb
    | some x => exact List.mem_singleton.mp hb
  have hDc : D ∉ (celAt cx (D + 2)).map (·.2) := fun h => hDK (hcelm _ h)
  have hLc : L ∉ (celAt cx (D + 2)).map (·.2) := fun h => hKL (hcelm _ h).symm
  have hLi : L ∉ iad := fun h => (hiad _ h).2.1 rfl
  have newslt : ∀ p ∈ news, p.1 < D := fun p hp => hlt _ _ (N p hp).1
  have offs0 : Offs (iad ++ (D + 1) :: D :: (celAt cx (D + 2)).map (·.2)) news := Offs.of fun p hp b hb => by
    have hp' := newslt p hp
    rcases List.mem_append.mp hb with hb | hb
    · exact off p hp b hb
    · rcases List.mem_cons.mp hb with rfl | hb
      · exact Nat.ne_of_lt (Nat.lt_succ_of_lt hp')
      · rcases List.mem_cons.mp hb with rfl | hb
        · exact Nat.ne_of_lt hp'
        · rw [hcelm b hb]; exact Nat.ne_of_lt (Nat.lt_succ_of_lt (Nat.lt_succ_of_lt hp'))
  have hst3 : St 0 H3 := W.stay 0 _ _ news hst (fun b _ o e => old b o e) (fun b o e => old b o (F.keep b o e)) (fun p hp => ⟨old _ _ (N p hp).1, (N p hp).2⟩) hS
  have R0 := R D (fun b hb => (hiad b hb).1) newslt hLD
  have fC : h₀.get? (D + 1) = none := fresh₀ _ (Nat.le_succ _)
  have fK : h₀.get? (D + 2) = none := fresh₀ _ (Nat.le_add_right _ _)
  generalize D + 2 = K at *
  generalize D + 1 = C at *
  have loop : ∀ s₃ : Shared, s₃ = { s₂ with heap := H3 } →
      codeAny (model prog w) A (.compLoop (.ListComp elt [⟨target, iter, tests, 0⟩] scope pos) 0 (.ref I) (.ref D) (compEnvC scope (celAt cx K ++ cl) C env)) (RR (.ref D) C) s₃ := by
    rintro s₃ rfl
    refine loopK
      (fun k s' => ∃ h' tk i ys m' news', s' = { s₂ with heap := h', toks := tk } ∧ i ≤ n ∧ k = n + 1 - i ∧ ys.length ≤ i ∧ St i h' ∧ Fr h₀ L h' m ∧ h'.Ns C m' ∧ (cx.isSome = true → ∃ v, h'.IsCell K v) ∧
        News h₀ L h' ((D, lst ys) :: news') ∧ Offs (iad ++ C :: D :: (celAt cx K).map (·.2)) news' ∧ S news' ∧ RestK prog w A h₀ L m (compEnvC scope (celAt cx K ++ cl) C env) tests elt iad C D s₂ S (asg K) (Fin D) (n - i) i ys news') ?_ (n + 1)
      ⟨H3, _, 0, [], _, news, rfl, Nat.zero_le _, rfl, Nat.le_refl _, hst3, F.keeps old, hCn, hcell0, fun p hp => ?_, offs0, hS, R0⟩
    · rintro k s' ⟨h', tk, i, ys, m', news', rfl, hi, rfl, hyl, hst', F', hn', hcell', N', off', hS', R'⟩
      have off3 := off'.mem
      by_cases hlt : i < n
      · obtain ⟨j, hj⟩ : ∃ j, n - i = j + 1 := ⟨n - i - 1, by omega⟩
        rw [hj] at R'
        refine wpAny_mono (W.turn i C K _ m' _ _ hlt hst' hn' hCf hcell' hKf hCK fun h₃ tk₃ m₂ cos ha hcos hcosA hn₃ hst₃ hk₃ => ?_) (fun r s₁ hr => by cases r with | none => exact hr.elim | some v => exact hr) fun _ _ e => e
        obtain ⟨ios, hios, hobj⟩ := W.objs _ _ hst₃
        obtain ⟨oC, heC, hoC⟩ := ns_obj hn₃
        have fin : ∀ p ∈ ios, p.1 ∈ iad := fun p hp => hios ▸ List.mem_map_of_mem hp
        have F₃ : Fr h₀ L h₃ m := ⟨F'.ns.at' fun o e => hk₃ L o hLi (Ne.symm hCL) hLc e, fun b o e => hk₃ b o (fun q => by rw [(hiad b q).2.2] at e; cases e)
          (fun q => by rw [q, fC] at e; cases e) (fun q => by rw [hcelm b q, fK] at e; cases e) (F'.keep b o e), F'.above⟩
        have N₃ : News h₀ L h₃ (ios ++ (C, oC) :: (D, lst ys) :: (cos ++ news')) := fun p hp => by
          rcases List.mem_append.mp hp with hp | hp
          · exact ⟨hobj p hp, (hiad _ (fin p hp)).2⟩
          · rcases List.mem_cons.mp hp with rfl | hp
            · exact ⟨heC, hCL, fC⟩
            · rcases List.mem_cons.mp hp with rfl | hp
              · exact ⟨hk₃ _ _ hDi hDC hDc (N' _ (List.mem_cons_self ..)).1, hDL, fresh₀ D (Nat.le_refl _)⟩
              · rcases List.mem_append.mp hp with hp | hp
                · obtain ⟨g, e, _⟩ := hcos p hp
                  refine ⟨g, ?_, ?_⟩
                  · rw [e]; exact hKL
                  · rw [e]; exact fK
                · have z := N' p (List.mem_cons_of_mem _ hp)
                  refine ⟨hk₃ _ _ (fun q => off3 p hp _ (List.mem_append_left _ q) rfl) (off3 p hp _ (List.mem_append_right _ (List.mem_cons_self ..)))
                    (fun q => off3 p hp _ (List.mem_append_right _ (List.mem_cons_of_mem _ (List.mem_cons_of_mem _ q))) rfl) z.1, z.2⟩
        have cellOf : ∀ h₄ : Heap, (∀ p ∈ cos, h₄.get? p.1 = some p.2) → cx.isSome = true → ∃ v, h₄.IsCell K v := fun h₄ hg hx => by
          have e1 : (celAt cx K).map (·.2) = [K] := by
            cases cx with
            | none => cases hx
            | some x => rfl
          rw [e1] at hcosA
          match cos, hcosA, hg, hcos with
          | [], e, _, _ => cases e
          | p :: _, _, hg, hcos =>
            obtain ⟨_, e, v, hv⟩ := hcos p (List.mem_cons_self ..)
            exact ⟨v, p.2, e ▸ hg p (List.mem_cons_self ..), hv⟩
        have stay' : ∀ h₄ news₄, (∀ p ∈ ios, h₄.get? p.1 = some p.2) → (∀ b o, h₀.get? b = some o → h₄.get? b = some o) → News h₀ L h₄ news₄ → S news₄ → St (i + 1) h₄ := fun h₄ news₄ hg hk hN hS =>
          W.stay _ _ _ news₄ hst₃ (fun b hb o e => by
            obtain ⟨p, hp, rfl⟩ := mem_iad hios hb
            rw [hobj p hp] at e
            rw [← e]; exact hg p hp) hk hN hS
        refine bodyK_mono (R' ios oC cos m₂ h₃ tk₃ _ ha hios hoC F₃ N₃ (by rw [hios, hcosA]; exact off')) (fun y s₄ h₄ => ?_) (fun s₄ h₄ => ?_)
        · obtain ⟨h₄, tk₄, news₄, rfl, F₄, N₄, off₄, hS₄, R₄⟩ := h₄
          rw [hios, hcosA] at off₄
          have off4 := off₄.mem
          have zC := (N₄ (C, oC) (List.mem_append_right _ (List.mem_cons_self ..))).1
          have zD := (N₄ (D, lst ys) (List.mem_append_right _ (List.mem_cons_of_mem _ (List.mem_cons_self ..)))).1
          have zI : ∀ p ∈ ios, h₄.get? p.1 = some p.2 := fun p hp => (N₄ p (List.mem_append_left _ hp)).1
          have zK : ∀ p ∈ cos, h₄.get? p.1 = some p.2 := fun p hp => (N₄ p (List.mem_append_right _ (List.mem_cons_of_mem _ (List.mem_cons_of_mem _ (List.mem_append_left _ hp))))).1
          have N₄' : News h₀ L h₄ news₄ := fun p hp => N₄ p (List.mem_append_right _ (List.mem_cons_of_mem _ (List.mem_cons_of_mem _ (List.mem_append_right _ hp))))
          refine append_at (hsz := by show ys.toArray.size ≤ sizeLine; rw [List.size_toArray]; exact Nat.le_trans (Nat.le_trans hyl hi) hsz) zD fun h₅ hs₅ hD₅ => ?_
          have F₅ : Fr h₀ L h₅ m := F₄.change hs₅ hDL (fresh₀ D (Nat.le_refl _))
          have N₅ : News h₀ L h₅ news₄ := fun p hp => ⟨hs₅.extBut _ _ (off4 p hp _ (List.mem_append_right _ (List.mem_cons_of_mem _ (List.mem_cons_self ..)))) (N₄' p hp).1, (N₄' p hp).2⟩
          refine ⟨n + 1 - (i + 1), by omega, h₅, tk₄, i + 1, ys ++ [y], _, news₄, rfl, hlt, rfl, by rw [List.length_append, List.length_singleton]; exact Nat.succ_le_succ hyl,
            stay' h₅ news₄ (fun p hp => hs₅.extBut _ _ (fun q => hDi (q ▸ fin p hp)) (zI p hp)) F₅.keep N₅ hS₄, F₅, (hoC.ns zC).sameBut hs₅ (Ne.symm hDC),
            cellOf h₅ (fun p hp => hs₅.extBut _ _ (by rw [(hcos p hp).2.1]; exact Ne.symm hDK) (zK p hp)), fun p hp => ?_, off₄, hS₄, ?_⟩
          · rcases List.mem_cons.mp hp with rfl | hp
            · exact ⟨hD₅.trans (congrArg some (lst_snoc ys y)), hDL, fresh₀ D (Nat.le_refl _)⟩
            · exact N₅ p hp
          · rw [show n - (i + 1) = j by omega]; exact R₄
        · obtain ⟨h₄, tk₄, news₄, rfl, F₄, N₄, off₄, hS₄, R₄⟩ := h₄
          rw [hios, hcosA] at off₄
          have zC := (N₄ (C, oC) (List.mem_append_right _ (List.mem_cons_self ..))).1
          have zI : ∀ p ∈ ios, h₄.get? p.1 = some p.2 := fun p hp => (N₄ p (List.mem_append_left _ hp)).1
          have zK : ∀ p ∈ cos, h₄.get? p.1 = some p.2 := fun p hp => (N₄ p (List.mem_append_right _ (List.mem_cons_of_mem _ (List.mem_cons_of_mem _ (List.mem_append_left _ hp))))).1
          have N₄' : News h₀ L h₄ news₄ := fun p hp => N₄ p (List.mem_append_right _ (List.mem_cons_of_mem _ (List.mem_cons_of_mem _ (List.mem_append_right _ hp))))
          refine ⟨n + 1 - (i + 1), by omega, h₄, tk₄, i + 1, ys, _, news₄, rfl, hlt, rfl, Nat.le_succ_of_le hyl, stay' h₄ news₄ zI F₄.keep N₄' hS₄, F₄, hoC.ns zC, cellOf h₄ zK, fun p hp => ?_, off₄, hS₄, ?_⟩
          · rcases List.mem_cons.mp hp with rfl | hp
            · exact N₄ _ (List.mem_append_right _ (List.mem_cons_of_mem _ (List.mem_cons_self ..)))
            · exact N₄' p hp
          · rw [show n - (i + 1) = j by omega]; exact R₄
      · obtain rfl : i = n := Nat.le_antisymm hi (Nat.not_lt.mp hlt)
        rw [Nat.sub_self] at R'
        refine W.done _ _ _ hst' fun h₂ tk₂ hk₂ => ?_
        refine hRR _ _ h₂ tk₂ _ ys news' ⟨F'.ns.at' fun o e => hk₂ L o hLi e, fun b o e => hk₂ b o (fun q => by rw [(hiad b q).2.2] at e; cases e) (F'.keep b o e), F'.above⟩ (fun p hp => ?_)
          (hn'.at' fun o e => hk₂ _ o hCi e) fC hCL (Ne.symm hDC) (fun p hp => off3 p hp _ (List.mem_append_right _ (List.mem_cons_self ..))) R'
        rcases List.mem_cons.mp hp with rfl | hp
        · exact ⟨hk₂ _ _ hDi (N' _ (List.mem_cons_self ..)).1, hDL, fresh₀ D (Nat.le_refl _)⟩
        · have z := N' p (List.mem_cons_of_mem _ hp)
          exact ⟨hk₂ _ _ (fun q => off3 p hp _ (List.mem_append_left _ q) rfl) z.1, z.2⟩
    · rcases List.mem_cons.mp hp with rfl | hp
      · exact ⟨hDl, hDL, fresh₀ D (Nat.le_refl _)⟩
      · exact ⟨old _ _ (N p hp).1, (N p hp).2⟩
  exact codeAny_compStart_list (loop _ rfl) (W.self _ _ _ hst3 (loop _ rfl))

theorem compEnvC_kind {scope : Scope} {cl : List (Str × Addr)} {C : Addr} (hkind : scope.kind = .function) : ((compEnvC scope cl C env).scope.kind == .class || ((compEnvC scope cl C env).scope.kind == .module && (compEnvC scope cl C env).locals != (compEnvC scope cl C env).globals)) = false := by simp [compEnvC, relabel, hkind]

theorem lookup_relabel_cell {env : Env} : ∀ {names : List (Str × NameKind)} {x : Str}, names.lookup x = some .cell →
    (names.map fun (n, k) => if (k == NameKind.free && env.scope.kind == .function && env.kindOf n == some .cell) then (n, NameKind.cell) else (n, k)).lookup x = some .cell := by
  intro names
  induction names with
  | nil => intro x h; simp at h
  | cons p r ih =>
    obtain ⟨n, k⟩ := p
    intro x h
    show List.lookup x ((if (k == NameKind.free && env.scope.kind == .function && env.kindOf n == some .cell) = true then (n, NameKind.cell) else (n, k)) :: _) = _
    cases hx : x == n with
    | true =>
      simp only [List.lookup_cons, hx] at h
      cases h
      simp [List.lookup_cons, hx]
    | false =>
      simp only [List.lookup_cons, hx] at h
      by_cases hc : (k == NameKind.free && env.scope.kind == .function && env.kindOf n == some .cell) = true
      · rw [if_pos hc]; simp only [List.lookup_cons, hx]; exact ih h
      · rw [if_neg hc]; simp only [List.lookup_cons, hx]; exact ih h

/-- where a name of the block is put: in its own namespace, or in its cell. -/
def PutsTo (scope : Scope) (cx : Option Str) (x : Str) : Prop := scope.names.lookup x = some .local ∨ (scope.names.lookup x = some .cell ∧ cx = some x)
/-- what a name of the block holds after the turn's assignment. -/
def Holds1 (scope : Scope) (x : Str) (v : Value) (m₂ : Str → Option Value) (cos : Ledger) : Prop :=
  (scope.names.lookup x = some .local ∧ m₂ x = some v) ∨ (scope.names.lookup x = some .cell ∧ ∃ p ∈ cos, p.2.data = .cell (some v))

theorem store_name {scope : Scope} {cl : List (Str × Addr)} {C K : Addr} {cx : Option Str} {x : Str} {v : Value} {s : Shared} {m' : Str → Option Value} {Q : Unit → Shared → Prop} {E : Value → Shared → Prop}
    (hkind : scope.kind = .function) (hx : PutsTo scope cx x) (hn : s.heap.Ns C m') (hc : cx.isSome = true → ∃ v, s.heap.IsCell K v) (hCK : C ≠ K)
    (hl : scope.names.lookup x = some .local → ∀ h' tk, h'.Ns C (fun y => if y = x then some v else m' y) → (cx.isSome = true → ∃ v, h'.IsCell K v) → (∀ b o, b ≠ C → s.heap.get? b = some o → h'.get? b = some o) → Q () { s with heap := h', toks := tk })
    (hcl : scope.names.lookup x = some .cell → cx = some x → ∀ h' tk o, h'.Ns C m' → h'.get? K = some o → o.data = .cell (some v) → (∀ b o, b ≠ K → s.heap.get? b = some o → h'.get? b = some o) → Q () { s with heap := h', toks := tk }) :
    wpAny (model prog w) A (storeName (compEnvC scope (celAt cx K ++ cl) C env) x v) Q E s := by
  rcases hx with hx | ⟨hx, rfl⟩
  · refine wpAny_storeName_local (lookup_relabel_local hx) hn (fun h' hn' hs' => hl hx h' _ hn' (fun h => ?_) fun b o hb e => hs'.extBut b o hb e) (compEnvC_kind hkind)
    obtain ⟨v', o, e, hv⟩ := hc h
    exact ⟨v', o, hs'.extBut _ _ (Ne.symm hCK) e, hv⟩
  · obtain ⟨v', hv'⟩ := hc rfl
    refine wpAny_storeName_cell (c := K) (by simpa [compEnvC, relabel] using hkind) (lookup_relabel_cell hx) (by simp [compEnvC, celAt]) hv' fun h' hv hs' => ?_
    obtain ⟨o, e, hv⟩ := hv
    exact hcl hx rfl h' _ o (hn.sameBut hs' hCK) e hv fun b o hb e => hs'.extBut b o hb e

theorem walkName {I : Addr} {fp : List Addr} {n : Nat} {P : Nat → Value → Prop} {St : Nat → Heap → Prop} {S : Ledger → Prop} {x : Str} {px : Pos} {scope : Scope} {cl : List (Str × Addr)} {cx : Option Str}
    (W : Walks prog w A I fp [I] n P St) (hIo : ∀ i h, St i h → ∃ o, h.get? I = some o)
    (hSt : ∀ i h h' o nw, St i h → h.get? I = some o → h'.get? I = some o → (∀ b o, h₀.get? b = some o → h'.get? b = some o) → News h₀ L h' nw → S nw → St i h')
    (hkind : scope.kind = .function) (hx : PutsTo scope cx x) (hcx : cx = none ∨ cx = some x) :
    Walk prog w A h₀ L I fp [I] n (.Name x px) S St cx (fun K i m₂ cos => ∃ v, P i v ∧ ((scope.names.lookup x = some .local ∧ m₂ x = some v ∧ cos.map (·.1) = (celAt cx K).map (·.2)) ∨ (scope.names.lookup x = some .cell ∧ ∃ o, cos = [(K, o)] ∧ o.data = .cell (some v)))) scope cl env where
  sub := W.sub
  stay := fun i h h' nw st hk hk₀ N hS => by
    obtain ⟨o, e⟩ := hIo i h st
    exact hSt i h h' o nw st e (hk I (List.mem_singleton.mpr rfl) o e) hk₀ N hS
  objs := fun i h st => by
    obtain ⟨o, e⟩ := hIo i h st
    exact ⟨[(I, o)], rfl, fun p hp => by rw [List.mem_singleton.mp hp]; exact e⟩
  turn := fun i C K s m' Q E hi hst hn hC hc hK hCK hQ => by
    refine W.item i s _ _ hi hst fun v h₂ tk₂ hP hst₂ hk₂ => ?_
    refine wpAny_pure ?_
    have hIf : I ∈ fp := W.sub I (List.mem_singleton.mpr rfl)
    have hCI : C ≠ I := fun q => hC (q ▸ hIf)
    have hKI : K ≠ I := fun q => hK (q ▸ hIf)
    refine wpAny_assign_Name (store_name hkind hx (hn.at' fun o e => hk₂ _ o (by simpa using hCI) e) (fun h => ?_) hCK (fun hl h' tk hn' hc' hk' => ?_) (fun hl hcx h' tk o hn' ho hd hk' => ?_))
    · obtain ⟨v', o, e, hv⟩ := hc h
      exact ⟨v', o, hk₂ _ _ (by simpa using hKI) e, hv⟩
    · have hst' : St (i + 1) h' := W.frame _ _ _ hst₂ fun b hb o e => hk' b o (fun q => hC (q ▸ hb)) e
      cases cx with
      | none =>
        exact hQ h' tk _ [] ⟨v, hP, .inl ⟨hl, by simp, rfl⟩⟩ (fun p hp => nomatch hp) rfl hn' hst' fun b o hb hbC _ e => hk' b o hbC (hk₂ b o hb e)
      | some y =>
        obtain ⟨v', o, e, hv⟩ := hc' rfl
        exact hQ h' tk _ [(K, o)] ⟨v, hP, .inl ⟨hl, by simp, rfl⟩⟩ (fun p hp => by rw [List.mem_singleton.mp hp]; exact ⟨e, rfl, _, hv⟩) rfl hn' hst' fun b o hb hbC _ e => hk' b o hbC (hk₂ b o hb e)
    · subst hcx
      have hst' : St (i + 1) h' := W.frame _ _ _ hst₂ fun b hb o e => hk' b o (fun q => hK (q ▸ hb)) e
      exact hQ h' tk _ [(K, o)] ⟨v, hP, .inr ⟨hl, o, rfl, hd⟩⟩ (fun p hp => by rw [List.mem_singleton.mp hp]; exact ⟨ho, rfl, _, hd⟩) rfl hn' hst' fun b o hb hbC hbK e => hk' b o (fun q => hbK (by rw [q]; exact List.mem_singleton.mpr rfl)) (hk₂ b o hb e)
  done := W.done
  self := W.self 0
end
end Mine
end
section
open PySem PySem.Spec PySem.Calls PySem.W PyProof.Rows PyProof.Rows.LCg
namespace Mine
def AsgL (x : Str) (P : Nat → Value → Prop) : Addr → Nat → (Str → Option Value) → Ledger → Prop := fun _ i m₂ cos => ∃ v, P i v ∧ m₂ x = some v ∧ cos = []
def AsgC (P : Nat → Value → Prop) : Addr → Nat → (Str → Option Value) → Ledger → Prop := fun K i _ cos => ∃ v o, P i v ∧ cos = [(K, o)] ∧ o.data = .cell (some v)
def AsgLL (a b : Str) (its : Array Value) : Addr → Nat → (Str → Option Value) → Ledger → Prop := fun _ i m₂ cos => ∃ t v, its[i]? = some v ∧ m₂ a = some (.int i t) ∧ m₂ b = some v ∧ cos = []
def AsgCL (b : Str) (its : Array Value) : Addr → Nat → (Str → Option Value) → Ledger → Prop := fun K i m₂ cos => ∃ t v o, its[i]? = some v ∧ m₂ b = some v ∧ cos = [(K, o)] ∧ o.data = .cell (some (.int i t))

section
variable {prog : Program} {w : World} {A : Around} {E : Value → Shared → Prop} {s : Shared} {h₀ : Heap} {L : Addr} {m : Str → Option Value} {env : Env}

theorem Walk.imp {I : Addr} {fp iad : List Addr} {n : Nat} {target : Expr} {S : Ledger → Prop} {St : Nat → Heap → Prop} {cx : Option Str} {asg asg' : Addr → Nat → (Str → Option Value) → Ledger → Prop} {scope : Scope} {cl : List (Str × Addr)}
    (W : Walk prog w A h₀ L I fp iad n target S St cx asg scope cl env) (h : ∀ K i m₂ cos, asg K i m₂ cos → asg' K i m₂ cos) : Walk prog w A h₀ L I fp iad n target S St cx asg' scope cl env where
  sub := W.sub
  stay := W.stay
  objs := W.objs
  turn := fun i C K s m' Q E hi hst hn hC hc hK hCK hQ => W.turn i C K s m' Q E hi hst hn hC hc hK hCK fun h' tk m₂ cos ha => hQ h' tk m₂ cos (h K i m₂ cos ha)
  done := W.done
  self := W.self

theorem walkL {I : Addr} {fp : List Addr} {n : Nat} {P : Nat → Value → Prop} {St : Nat → Heap → Prop} {S : Ledger → Prop} {x : Str} {px : Pos} {scope : Scope} {cl : List (Str × Addr)}
    (W : Walks prog w A I fp [I] n P St) (hIo : ∀ i h, St i h → ∃ o, h.get? I = some o)
    (hSt : ∀ i h h' o nw, St i h → h.get? I = some o → h'.get? I = some o → (∀ b o, h₀.get? b = some o → h'.get? b = some o) → News h₀ L h' nw → S nw → St i h')
    (hkind : scope.kind = .function) (hx : scope.names.lookup x = some .local) : Walk prog w A h₀ L I fp [I] n (.Name x px) S St none (AsgL x P) scope cl env :=
  (walkName W hIo hSt hkind (.inl hx) (.inl rfl)).imp fun K i m₂ cos ⟨v, hP, h⟩ => by
    rcases h with ⟨_, h1, h2⟩ | ⟨h1, _⟩
    · exact ⟨v, hP, h1, List.map_eq_nil_iff.mp h2⟩
    · rw [hx] at h1; cases h1

theorem walkC {I : Addr} {fp : List Addr} {n : Nat} {P : Nat → Value → Prop} {St : Nat → Heap → Prop} {S : Ledger → Prop} {x : Str} {px : Pos} {scope : Scope} {cl : List (Str × Addr)}
    (W : Walks prog w A I fp [I] n P St) (hIo : ∀ i h, St i h → ∃ o, h.get? I = some o)
    (hSt : ∀ i h h' o nw, St i h → h.get? I = some o → h'.get? I = some o → (∀ b o, h₀.get? b = some o → h'.get? b = some o) → News h₀ L h' nw → S nw → St i h')
    (hkind : scope.kind = .function) (hx : scope.names.lookup x = some .cell) : Walk prog w A h₀ L I fp [I] n (.Name x px) S St (some x) (AsgC P) scope cl env :=
  (walkName W hIo hSt hkind (.inr ⟨hx, rfl⟩) (.inr rfl)).imp fun K i m₂ cos ⟨v, hP, h⟩ => by
    rcases h with ⟨h1, _⟩ | ⟨_, o, h1, h2⟩
    · rw [hx] at h1; cases h1
    · exact ⟨v, o, hP, h1, h2⟩

theorem walkEnum {e it l : Addr} {its : Array Value} {a b : Str} {pa pb tp : Pos} {kk : Nat} {scope : Scope} {cl : List (Str × Addr)} {cx : Option Str}
    (hh : A.handled = none) (hei : e ≠ it) (hle : l ≠ e) (hli : l ≠ it) (hkind : scope.kind = .function) (ha : PutsTo scope cx a) (hb : scope.names.lookup b = some .local) (hcx : cx = none ∨ cx = some a) (hab : a ≠ b) :
    Walk prog w A h₀ L e [e, it, l] [e, it] its.size (.Tuple [.Name a pa, .Name b pb] kk tp) (SrcAt h₀ l its) (fun i h => (∃ old, IsEnum h e it i old) ∧ h.IsListIter it l i ∧ h.IsList l its) cx
      (fun K i m₂ cos => ∃ t v, its[i]? = some v ∧ m₂ b = some v ∧ ((scope.names.lookup a = some .local ∧ m₂ a = some (.int i t) ∧ cos.map (·.1) = (celAt cx K).map (·.2)) ∨ (scope.names.lookup a = some .cell ∧ ∃ o, cos = [(K, o)] ∧ o.data = .cell (some (.int i t))))) scope cl env where
  sub := fun b hb => by
    rcases List.mem_cons.mp hb with rfl | hb
    · exact List.mem_cons_self ..
    · exact List.mem_cons_of_mem _ (by rcases List.mem_cons.mp hb with rfl | hb; exact List.mem_cons_self ..; cases hb)
  stay := fun i h h' nw st hk hk₀ N hS => by
    obtain ⟨⟨old, he⟩, hit, _⟩ := st
    exact ⟨⟨old, hk e (by simp) _ he⟩, hit.at fun o x => hk it (by simp) o x, hS.list hk₀ N⟩
  objs := fun i h st => by
    obtain ⟨⟨old, he⟩, ⟨oi, hoi, _⟩, _⟩ := st
    exact ⟨[(e, _), (it, oi)], rfl, fun p hp => by
      rcases List.mem_cons.mp hp with rfl | hp
      · exact he
      · rw [List.mem_singleton.mp hp]; exact hoi⟩
  turn := fun i C K s m' Q E hi hst hn hC hc hK hCK hQ => by
    have WT := WalksT.enumerate (prog := prog) (w := w) (A := A) hh e it l hei hle hli its
    refine WT.item i s _ _ hi hst fun T vals h₁ tk₁ hPt hT hTup hMid hk₁ => ?_
    obtain ⟨t, x, hx, rfl⟩ := hPt
    refine WT.go _ _ _ i T _ _ _ hMid fun h₂ hst₂ hk₂ => ?_
    have hTw : T ∉ [e, it] := WT.apart i T _ hMid
    have hTup₂ : h₂.IsTuple T #[.int i t, x] := by
      obtain ⟨o, ho, r⟩ := hTup
      exact ⟨o, hk₂ _ _ hTw ho, r⟩
    have eC : C ∉ [e, it] := fun q => hC (WT.sub _ q)
    have eK : K ∉ [e, it] := fun q => hK (WT.sub _ q)
    have up12 : ∀ b o, b ∉ [e, it] → s.heap.get? b = some o → h₂.get? b = some o := fun b o hb g => hk₂ b o hb (hk₁ b o hb g)
    refine wpAny_assign_Tuple hh hTup₂ rfl rfl fun h₃ hx₃ => ?_
    have up3 : ∀ b o, h₂.get? b = some o → h₃.get? b = some o := fun b o g => hx₃ b o (Nat.ne_of_lt (Heap.lt_size g)) g
    have hn₃ : h₃.Ns C m' := hn.at' fun o g => up3 _ _ (up12 _ _ eC g)
    have hc₃ : cx.isSome = true → ∃ v, h₃.IsCell K v := fun h => by
      obtain ⟨v', o, g, hv⟩ := hc h
      exact ⟨v', o, up3 _ _ (up12 _ _ eK g), hv⟩
    have st₃ : ∀ h₄ : Heap, (∀ b o, b ≠ C → b ≠ K → h₃.get? b = some o → h₄.get? b = some o) → ((∃ old, IsEnum h₄ e it ((i + 1 : Nat) : Int) old) ∧ h₄.IsListIter it l (i + 1) ∧ h₄.IsList l its) := fun h₄ hk₄ =>
      WT.frame _ _ _ hst₂ fun b hb o g => hk₄ b o (fun q => hC (q ▸ hb)) (fun q => hK (q ▸ hb)) (up3 _ _ g)
    show wpAny _ _ (assignInOrder [assign (.Name a pa) (compEnvC scope (celAt cx K ++ cl) C env), assign (.Name b pb) (compEnvC scope (celAt cx K ++ cl) C env)] [.int i t, x]) _ _ _
    refine assignInOrder_cons (wpAny_assign_Name (store_name hkind ha hn₃ hc₃ hCK (fun hl h₄ tk₄ hn₄ hc₄ hk₄ => ?_) (fun hl hcx' h₄ tk₄ o hn₄ ho hd hk₄ => ?_)))
    · refine assignInOrder_cons (wpAny_assign_Name (wpAny_storeName_local (lookup_relabel_local hb) hn₄ (fun h₅ hn₅ hs₅ => assignInOrder_nil ?_) (compEnvC_kind hkind)))
      have hs₅' : ∀ c o, c ≠ C → h₄.get? c = some o → h₅.get? c = some o := fun c o hc e => hs₅.extBut c o hc e
      have tot : ∀ c o, c ∉ [e, it] → c ≠ C → c ∉ (celAt cx K).map (·.2) → s.heap.get? c = some o → h₅.get? c = some o := fun c o h1 h2 _ g => hs₅' c o h2 (hk₄ c o h2 (up3 c o (up12 c o h1 g)))
      have st₅ := st₃ h₅ fun c o h1 h2 g => hs₅' c o h1 (hk₄ c o h1 g)
      cases cx with
      | none => exact hQ h₅ _ _ [] ⟨t, x, hx, by simp, .inl ⟨hl, by simp [hab], rfl⟩⟩ (fun p hp => nomatch hp) rfl hn₅ st₅ tot
      | some y =>
        obtain ⟨v', o, g, hv⟩ := hc₄ rfl
        exact hQ h₅ _ _ [(K, o)] ⟨t, x, hx, by simp, .inl ⟨hl, by simp [hab], rfl⟩⟩ (fun p hp => by rw [List.mem_singleton.mp hp]; exact ⟨hs₅' _ _ (Ne.symm hCK) g, rfl, _, hv⟩) rfl hn₅ st₅ tot
    · subst hcx'
      refine assignInOrder_cons (wpAny_assign_Name (wpAny_storeName_local (lookup_relabel_local hb) hn₄ (fun h₅ hn₅ hs₅ => assignInOrder_nil ?_) (compEnvC_kind hkind)))
      have hs₅' : ∀ c o, c ≠ C → h₄.get? c = some o → h₅.get? c = some o := fun c o hc e => hs₅.extBut c o hc e
      have tot : ∀ c o, c ∉ [e, it] → c ≠ C → c ∉ (celAt (some a) K).map (·.2) → s.heap.get? c = some o → h₅.get? c = some o := fun c o h1 h2 h3 g =>
        hs₅' c o h2 (hk₄ c o (fun q => h3 (by rw [q]; exact List.mem_singleton.mpr rfl)) (up3 c o (up12 c o h1 g)))
      have st₅ := st₃ h₅ fun c o h1 h2 g => hs₅' c o h1 (hk₄ c o h2 g)
      exact hQ h₅ _ _ [(K, o)] ⟨t, x, hx, by simp, .inr ⟨hl, o, rfl, hd⟩⟩ (fun p hp => by rw [List.mem_singleton.mp hp]; exact ⟨hs₅' _ _ (Ne.symm hCK) ho, rfl, _, hd⟩) rfl hn₅ st₅ tot
  done := fun s Q E hst hQ => by
    have WT := WalksT.enumerate (prog := prog) (w := w) (A := A) hh e it l hei hle hli its
    exact WT.done s Q E hst hQ
  self := fun s Q E hst hQ => by
    have WT := WalksT.enumerate (prog := prog) (w := w) (A := A) hh e it l hei hle hli its
    exact WT.self 0 s Q E hst hQ

theorem walkLL {e it l : Addr} {its : Array Value} {a b : Str} {pa pb tp : Pos} {kk : Nat} {scope : Scope} {cl : List (Str × Addr)}
    (hh : A.handled = none) (hei : e ≠ it) (hle : l ≠ e) (hli : l ≠ it) (hkind : scope.kind = .function) (ha : scope.names.lookup a = some .local) (hb : scope.names.lookup b = some .local) (hab : a ≠ b) :
    Walk prog w A h₀ L e [e, it, l] [e, it] its.size (.Tuple [.Name a pa, .Name b pb] kk tp) (SrcAt h₀ l its) (fun i h => (∃ old, IsEnum h e it i old) ∧ h.IsListIter it l i ∧ h.IsList l its) none (AsgLL a b its) scope cl env :=
  (walkEnum hh hei hle hli hkind (.inl ha) hb (.inl rfl) hab).imp fun K i m₂ cos ⟨t, v, hx, hmb, h⟩ => by
    rcases h with ⟨_, h1, h2⟩ | ⟨h1, _⟩
    · exact ⟨t, v, hx, h1, hmb, List.map_eq_nil_iff.mp h2⟩
    · rw [ha] at h1; cases h1

theorem walkCL {e it l : Addr} {its : Array Value} {a b : Str} {pa pb tp : Pos} {kk : Nat} {scope : Scope} {cl : List (Str × Addr)}
    (hh : A.handled = none) (hei : e ≠ it) (hle : l ≠ e) (hli : l ≠ it) (hkind : scope.kind = .function) (ha : scope.names.lookup a = some .cell) (hb : scope.names.lookup b = some .local) (hab : a ≠ b) :
    Walk prog w A h₀ L e [e, it, l] [e, it] its.size (.Tuple [.Name a pa, .Name b pb] kk tp) (SrcAt h₀ l its) (fun i h => (∃ old, IsEnum h e it i old) ∧ h.IsListIter it l i ∧ h.IsList l its) (some a) (AsgCL b its) scope cl env :=
  (walkEnum hh hei hle hli hkind (.inr ⟨ha, rfl⟩) hb (.inr rfl) hab).imp fun K i m₂ cos ⟨t, v, hx, hmb, h⟩ => by
    rcases h with ⟨h1, _⟩ | ⟨_, o, h1, h2⟩
    · rw [ha] at h1; cases h1
    · exact ⟨t, v, o, hx, hmb, h1, h2⟩
end
end Mine
end
section
open PySem PySem.Spec PySem.Calls PySem.W PyProof.Rows PyProof.Rows.LCg
namespace Mine
section
variable {prog : Program} {w : World} {A : Around} {E : Value → Shared → Prop} {s : Shared} {h₀ : Heap} {L : Addr} {m : Str → Option Value} {env : Env}

def FinK (h₀ : Heap) (L : Addr) (m : Str → Option Value) (s : Shared) (Q : Value → Shared → Prop) (D : Addr) (ys : List Value) (news : Ledger) : Prop :=
  ∀ h tk, Fr h₀ L h m → News h₀ L h ((D, lst ys) :: news) → Q (.ref D) { s with heap := h, toks := tk }

/-- the iterable's value, with what its walk will be. -/
def SrcK (prog : Program) (w : World) (A : Around) (h₀ : Heap) (L : Addr) (m : Str → Option Value) (env : Env) (target : Expr) (tests : List Expr) (elt : Expr) (scope : Scope) (cl : List (Str × Addr)) (cx : Option Str)
    (Fin : Shared → Addr → List Value → Ledger → Prop) (xv : Value) (s₁ : Shared) : Prop :=
  ∃ (I : Addr) (fp iad : List Addr) (n : Nat) (S : Ledger → Prop) (St : Nat → Heap → Prop) (asg : Addr → Nat → (Str → Option Value) → Ledger → Prop) (news : Ledger),
    Walk prog w A h₀ L I fp iad n target S St cx asg scope cl env ∧ n ≤ sizeLine ∧ S news ∧
    (∀ (Q : Value → Shared → Prop) (E : Value → Shared → Prop), (∀ h, St 0 h → Fr h₀ L h m → News h₀ L h news → (∀ b ∈ iad, b < h.objs.size ∧ b ≠ L ∧ h₀.get? b = none) → (∀ b ∈ fp, b < h.objs.size) → (∀ p ∈ news, ∀ b ∈ iad, p.1 < b) →
      Q (.ref I) { s₁ with heap := h }) → wpAny (model prog w) A (pyIter xv) Q E s₁) ∧
    (∀ h : Heap, ∀ D : Addr, (∀ p ∈ news, ∀ b ∈ iad, p.1 < b) → (∀ b ∈ iad, b < D) → (∀ p ∈ news, p.1 < D) → L < D →
      RestK prog w A h₀ L m (compEnvC scope (celAt cx (D + 2) ++ cl) (D + 1) env) tests elt iad (D + 1) D { s₁ with heap := h } S (asg (D + 2)) (Fin { s₁ with heap := h } D) n 0 [] news)

theorem ListCompK {target elt iter : Expr} {tests : List Expr} {scope : Scope} {cl : List (Str × Addr)} {cx : Option Str} {pos : Pos} {Q : Value → Shared → Prop}
    (_F₀ : Fr h₀ L s.heap m) (hclos : closureFor scope env = pure cl) (hkind : scope.kind = .function)
    (hnames : ∀ y ∈ scope.names, y.2 = .local → scope.names.lookup y.1 = some .local)
    (hcf : ∀ n acc, cellsFrom n scope.names acc = celAt cx n ++ acc) (hpc : ∀ h, pushCells h scope.names = pushCel cx h)
    (hs : ∀ x, foldedSetIterable iter env x = pure x)
    (h : wpAny (model prog w) A (eval iter env) (SrcK prog w A h₀ L m env target tests elt scope cl cx (fun s₂ => FinK h₀ L m s₂ Q)) E s) :
    wpAny (model prog w) A (eval (.ListComp elt [⟨target, iter, tests, 0⟩] scope pos) env) Q E s := by
  rw [eval_ListComp]
  refine wpAny_comprehension_free (use := none) rfl hs hclos hkind hnames (wpAny_mono h (fun xv s₁ h₁ => ?_) fun _ _ e => e)
  obtain ⟨I, fp, iad, n, S, St, asg, news, W, hsz, hS, it, R⟩ := h₁
  refine it _ _ fun h hst F N hiad hfp hord => ?_
  refine blockK W hsz hcf hpc hst hiad hfp F N (fun p hp b hb => Nat.ne_of_lt (hord p hp b hb)) hS (fun D h1 h2 h3 => R h D hord h1 h2 h3) ?_
  intro D C h tk m' ys news' F' N' hn hC₀ hCL hCD offC fin
  refine ⟨m', hn, fun h'' hs'' => fin h'' tk (F'.change hs'' hCL hC₀) (fun p hp => ?_)⟩
  refine ⟨hs''.extBut _ _ ?_ (N' p hp).1, (N' p hp).2⟩
  rcases List.mem_cons.mp hp with rfl | hp
  · exact Ne.symm hCD
  · exact offC p hp

section src
variable {target elt : Expr} {tests : List Expr} {scope : Scope} {cl : List (Str × Addr)} {Fin : Shared → Addr → List Value → Ledger → Prop} {x : Str} {px : Pos}

theorem iter_list {ax : Addr} {its : Array Value} {news : Ledger} {s₁ : Shared} (F : Fr h₀ L s₁.heap m) (N : News h₀ L s₁.heap news) (hl : SrcAt h₀ ax its news) (Q : Value → Shared → Prop) (E : Value → Shared → Prop)
    (h : ∀ h, (h.IsListIter s₁.heap.objs.size ax 0 ∧ h.IsList ax its) → Fr h₀ L h m → News h₀ L h news → (∀ b ∈ [s₁.heap.objs.size], b < h.objs.size ∧ b ≠ L ∧ h₀.get? b = none) → (∀ b ∈ [s₁.heap.objs.size, ax], b < h.objs.size) → (∀ p ∈ news, ∀ b ∈ [s₁.heap.objs.size], p.1 < b) →
      Q (.ref s₁.heap.objs.size) { s₁ with heap := h }) : wpAny (model prog w) A (pyIter (.ref ax)) Q E s₁ := by
  have hl := hl.list F.keep N
  have hlt : ax < s₁.heap.objs.size := by obtain ⟨_, e, _⟩ := hl; exact Heap.lt_size e
  refine wpAny_pyIter_list hl ?_
  have up : ∀ b o, s₁.heap.get? b = some o → (s₁.heap.push { cls := .type "list_iterator", data := .fields #[.ref ax, .int 0 0] }).get? b = some o := fun b o e => Heap.get?_push_of_some _ e
  refine h _ ⟨⟨_, Heap.get?_push_size _ rfl, rfl, rfl⟩, hl.push _⟩ (F.keeps up) (N.grown up) (fun b hb => ?_) (fun b hb => ?_) fun p hp b hb => ?_
  · rw [List.mem_singleton.mp hb, Heap.size_push]
    exact ⟨Nat.lt_succ_self _, Nat.ne_of_gt F.ns.lt, next_is_new F⟩
  · rw [Heap.size_push]
    rcases List.mem_cons.mp hb with rfl | hb
    · exact Nat.lt_succ_self _
    · rw [List.mem_singleton.mp hb]; exact Nat.lt_succ_of_lt hlt
  · rw [List.mem_singleton.mp hb]; exact Heap.lt_size (N p hp).1

theorem SrcK.list_L {ax : Addr} {its : Array Value} {news : Ledger} {s₁ : Shared} (hh : A.handled = none) (F : Fr h₀ L s₁.heap m) (N : News h₀ L s₁.heap news) (hl : SrcAt h₀ ax its news) (hsz : its.size ≤ sizeLine) (hkind : scope.kind = .function) (hx : scope.names.lookup x = some .local)
    (h : ∀ g, ∀ I D : Addr, (∀ p ∈ news, p.1 < I) → @LT.lt Nat _ I D → @LT.lt Nat _ L D → RestK prog w A h₀ L m (compEnvC scope (celAt none (D + 2) ++ cl) (D + 1) env) tests elt [I] (D + 1) D { s₁ with heap := g } (SrcAt h₀ ax its) (AsgL x (fun i v => its[i]? = some v) (D + 2)) (Fin { s₁ with heap := g } D) its.size 0 [] news) :
    SrcK prog w A h₀ L m env (.Name x px) tests elt scope cl none Fin (.ref ax) s₁ := by
  have hl' := hl.list F.keep N
  have hlt : ax < s₁.heap.objs.size := by obtain ⟨_, e, _⟩ := hl'; exact Heap.lt_size e
  exact ⟨_, _, _, _, _, _, _, news, walkL (Walks.list hh s₁.heap.objs.size ax (Nat.ne_of_lt hlt) its) (fun i h st => by obtain ⟨o, e, _⟩ := st.1; exact ⟨o, e⟩) list_st hkind hx, hsz, hl, iter_list F N hl, fun g D h1 h2 _ h4 => h g _ D (fun p hp => h1 p hp _ (List.mem_singleton.mpr rfl)) (h2 _ (List.mem_singleton.mpr rfl)) h4⟩
theorem SrcK.list_C {ax : Addr} {its : Array Value} {news : Ledger} {s₁ : Shared} (hh : A.handled = none) (F : Fr h₀ L s₁.heap m) (N : News h₀ L s₁.heap news) (hl : SrcAt h₀ ax its news) (hsz : its.size ≤ sizeLine) (hkind : scope.kind = .function) (hx : scope.names.lookup x = some .cell)
    (h : ∀ g, ∀ I D : Addr, (∀ p ∈ news, p.1 < I) → @LT.lt Nat _ I D → @LT.lt Nat _ L D → RestK prog w A h₀ L m (compEnvC scope (celAt (some x) (D + 2) ++ cl) (D + 1) env) tests elt [I] (D + 1) D { s₁ with heap := g } (SrcAt h₀ ax its) (AsgC (fun i v => its[i]? = some v) (D + 2)) (Fin { s₁ with heap := g } D) its.size 0 [] news) :
    SrcK prog w A h₀ L m env (.Name x px) tests elt scope cl (some x) Fin (.ref ax) s₁ := by
  have hl' := hl.list F.keep N
  have hlt : ax < s₁.heap.objs.size := by obtain ⟨_, e, _⟩ := hl'; exact Heap.lt_size e
  exact ⟨_, _, _, _, _, _, _, news, walkC (Walks.list hh s₁.heap.objs.size ax (Nat.ne_of_lt hlt) its) (fun i h st => by obtain ⟨o, e, _⟩ := st.1; exact ⟨o, e⟩) list_st hkind hx, hsz, hl, iter_list F N hl, fun g D h1 h2 _ h4 => h g _ D (fun p hp => h1 p hp _ (List.mem_singleton.mpr rfl)) (h2 _ (List.mem_singleton.mpr rfl)) h4⟩

theorem iter_range {r : Addr} {a b : Int} {t u v : Tok} {n : Nat} {news : Ledger} {s₁ : Shared} (F : Fr h₀ L s₁.heap m) (N : News h₀ L s₁.heap news) (hr : IsRange s₁.heap r a b 1 t u v) (hsm : Builtin.Range.small a b 1 = true) (hn : Builtin.Range.rangeSize a b 1 = ((n : Nat) : Int))
    (Q : Value → Shared → Prop) (E : Value → Shared → Prop)
    (h : ∀ h, IsRangeIter h s₁.heap.objs.size (a + ((0 : Nat) : Nat) * 1) ((n : Int) - ((0 : Nat) : Nat)) 1 → Fr h₀ L h m → News h₀ L h news → (∀ b ∈ [s₁.heap.objs.size], b < h.objs.size ∧ b ≠ L ∧ h₀.get? b = none) → (∀ b ∈ [s₁.heap.objs.size], b < h.objs.size) → (∀ p ∈ news, ∀ b ∈ [s₁.heap.objs.size], p.1 < b) →
      Q (.ref s₁.heap.objs.size) { s₁ with heap := h }) : wpAny (model prog w) A (pyIter (.ref r)) Q E s₁ := by
  refine wpAny_pyIter_range hr hsm ?_
  refine h _ (by show IsRangeIter _ _ _ _ _; rw [hn]; simpa using Heap.get?_push_size _ rfl) (F.keeps fun _ _ e => Heap.get?_push_of_some _ e) (N.grown fun _ _ e => Heap.get?_push_of_some _ e) (fun b hb => ?_) (fun b hb => ?_) fun p hp b hb => ?_
  · rw [List.mem_singleton.mp hb, Heap.size_push]
    exact ⟨Nat.lt_succ_self _, Nat.ne_of_gt F.ns.lt, next_is_new F⟩
  · rw [List.mem_singleton.mp hb, Heap.size_push]; exact Nat.lt_succ_self _
  · rw [List.mem_singleton.mp hb]; exact Heap.lt_size (N p hp).1

theorem SrcK.range_L {r : Addr} {a b : Int} {t u v : Tok} {n : Nat} {news : Ledger} {s₁ : Shared} (hh : A.handled = none) (F : Fr h₀ L s₁.heap m) (N : News h₀ L s₁.heap news) (hr : IsRange s₁.heap r a b 1 t u v) (hsm : Builtin.Range.small a b 1 = true) (hn : Builtin.Range.rangeSize a b 1 = ((n : Nat) : Int)) (hsz : n ≤ sizeLine) (hkind : scope.kind = .function) (hx : scope.names.lookup x = some .local)
    (h : ∀ g, ∀ I D : Addr, (∀ p ∈ news, p.1 < I) → @LT.lt Nat _ I D → @LT.lt Nat _ L D → RestK prog w A h₀ L m (compEnvC scope (celAt none (D + 2) ++ cl) (D + 1) env) tests elt [I] (D + 1) D { s₁ with heap := g } (fun _ => True) (AsgL x (fun i v => ∃ t, v = .int (a + (i : Int)) t) (D + 2)) (Fin { s₁ with heap := g } D) n 0 [] news) :
    SrcK prog w A h₀ L m env (.Name x px) tests elt scope cl none Fin (.ref r) s₁ :=
  ⟨_, _, _, _, _, _, _, news, walkL (range_walks hh a n) (fun i h st => ⟨_, st⟩) range_st hkind hx, hsz, trivial, iter_range F N hr hsm hn, fun g D h1 h2 _ h4 => h g _ D (fun p hp => h1 p hp _ (List.mem_singleton.mpr rfl)) (h2 _ (List.mem_singleton.mpr rfl)) h4⟩
theorem SrcK.range_C {r : Addr} {a b : Int} {t u v : Tok} {n : Nat} {news : Ledger} {s₁ : Shared} (hh : A.handled = none) (F : Fr h₀ L s₁.heap m) (N : News h₀ L s₁.heap news) (hr : IsRange s₁.heap r a b 1 t u v) (hsm : Builtin.Range.small a b 1 = true) (hn : Builtin.Range.rangeSize a b 1 = ((n : Nat) : Int)) (hsz : n ≤ sizeLine) (hkind : scope.kind = .function) (hx : scope.names.lookup x = some .cell)
    (h : ∀ g, ∀ I D : Addr, (∀ p ∈ news, p.1 < I) → @LT.lt Nat _ I D → @LT.lt Nat _ L D → RestK prog w A h₀ L m (compEnvC scope (celAt (some x) (D + 2) ++ cl) (D + 1) env) tests elt [I] (D + 1) D { s₁ with heap := g } (fun _ => True) (AsgC (fun i v => ∃ t, v = .int (a + (i : Int)) t) (D + 2)) (Fin { s₁ with heap := g } D) n 0 [] news) :
    SrcK prog w A h₀ L m env (.Name x px) tests elt scope cl (some x) Fin (.ref r) s₁ :=
  ⟨_, _, _, _, _, _, _, news, walkC (range_walks hh a n) (fun i h st => ⟨_, st⟩) range_st hkind hx, hsz, trivial, iter_range F N hr hsm hn, fun g D h1 h2 _ h4 => h g _ D (fun p hp => h1 p hp _ (List.mem_singleton.mpr rfl)) (h2 _ (List.mem_singleton.mpr rfl)) h4⟩

theorem iter_enum {e it l : Addr} {its : Array Value} {news : Ledger} {s₁ : Shared} (F : Fr h₀ L s₁.heap m) (N : News h₀ L s₁.heap news) (hl : SrcAt h₀ l its news) (hE : IsEnum s₁.heap e it 0 .none) (hI : s₁.heap.IsListIter it l 0)
    (h1 : ∀ b ∈ [e, it], b ≠ L ∧ h₀.get? b = none ∧ ∀ p ∈ news, p.1 < b) (Q : Value → Shared → Prop) (E : Value → Shared → Prop)
    (h : ∀ h, ((∃ old, IsEnum h e it ((0 : Nat) : Int) old) ∧ h.IsListIter it l 0 ∧ h.IsList l its) → Fr h₀ L h m → News h₀ L h news → (∀ b ∈ [e, it], b < h.objs.size ∧ b ≠ L ∧ h₀.get? b = none) → (∀ b ∈ [e, it, l], b < h.objs.size) → (∀ p ∈ news, ∀ b ∈ [e, it], p.1 < b) →
      Q (.ref e) { s₁ with heap := h }) : wpAny (model prog w) A (pyIter (.ref e)) Q E s₁ := by
  have hl := hl.list F.keep N
  refine wpAny_pyIter_enum hE ?_
  have z1 : e < s₁.heap.objs.size := Heap.lt_size hE
  have z2 : it < s₁.heap.objs.size := by obtain ⟨_, g, _⟩ := hI; exact Heap.lt_size g
  have z3 : l < s₁.heap.objs.size := by obtain ⟨_, g, _⟩ := hl; exact Heap.lt_size g
  have z : ∀ b ∈ [e, it, l], b < s₁.heap.objs.size := fun b hb => by
    rcases List.mem_cons.mp hb with rfl | hb
    · exact z1
    · rcases List.mem_cons.mp hb with rfl | hb
      · exact z2
      · rw [List.mem_singleton.mp hb]; exact z3
  refine h s₁.heap ⟨⟨_, hE⟩, hI, hl⟩ F N (fun b hb => ⟨z b ?_, (h1 b hb).1, (h1 b hb).2.1⟩) z fun p hp b hb => (h1 b hb).2.2 p hp
  rcases List.mem_cons.mp hb with rfl | hb
  · exact List.mem_cons_self ..
  · rw [List.mem_singleton.mp hb]; exact List.mem_cons_of_mem _ (List.mem_cons_self ..)

theorem call_enumK {l : Addr} {its : Array Value} {news : Ledger} {s₁ : Shared} (F : Fr h₀ L s₁.heap m) (N : News h₀ L s₁.heap news) (hl : SrcAt h₀ l its news) {Q : Value → Shared → Prop}
    (h : ∀ g, ∀ it : Addr, IsEnum g (it + 1) it 0 .none → g.IsListIter it l 0 → Fr h₀ L g m → News h₀ L g news → (∀ b ∈ [it + 1, it], b ≠ L ∧ h₀.get? b = none ∧ ∀ p ∈ news, p.1 < b) → l < it → Q (.ref (it + 1)) { s₁ with heap := g }) :
    wpAny (model prog w) A (call (.type "enumerate") [.ref l]) Q E s₁ := by
  have hl := hl.list F.keep N
  refine call_enumerate_list hl fun g hE hI hsz hk => ?_
  have hll : l < s₁.heap.objs.size := by obtain ⟨_, g, _⟩ := hl; exact Heap.lt_size g
  refine h g _ hE hI (F.keeps hk) (N.grown hk) (fun b hb => ?_) hll
  have hb' : s₁.heap.objs.size ≤ b := by
    rcases List.mem_cons.mp hb with rfl | hb
    · exact Nat.le_succ _
    · rw [List.mem_singleton.mp hb]; exact Nat.le_refl _
  refine ⟨Nat.ne_of_gt (Nat.lt_of_lt_of_le F.ns.lt hb'), ?_, fun p hp => Nat.lt_of_lt_of_le (Heap.lt_size (N p hp).1) hb'⟩
  cases q : h₀.get? b with
  | none => rfl
  | some o => exact absurd (Heap.lt_size (F.keep b o q)) (Nat.not_lt.mpr hb')

theorem SrcK.enum_LL {l : Addr} {its : Array Value} {news : Ledger} {s₁ : Shared} {a b : Str} {pa pb tp : Pos} {kk : Nat} (hh : A.handled = none) (F : Fr h₀ L s₁.heap m) (N : News h₀ L s₁.heap news) (hl : SrcAt h₀ l its news) (hsz : its.size ≤ sizeLine) (hkind : scope.kind = .function) (ha : scope.names.lookup a = some .local) (hb : scope.names.lookup b = some .local) (hab : a ≠ b)
    (h : ∀ g, ∀ I D : Addr, (∀ p ∈ news, p.1 < I) → @LT.lt Nat _ (I + 1) D → @LT.lt Nat _ L D → RestK prog w A h₀ L m (compEnvC scope (celAt none (D + 2) ++ cl) (D + 1) env) tests elt [I + 1, I] (D + 1) D { s₁ with heap := g } (SrcAt h₀ l its) (AsgLL a b its (D + 2)) (Fin { s₁ with heap := g } D) its.size 0 [] news) :
    wpAny (model prog w) A (call (.type "enumerate") [.ref l]) (SrcK prog w A h₀ L m env (.Tuple [.Name a pa, .Name b pb] kk tp) tests elt scope cl none Fin) E s₁ :=
  call_enumK F N hl fun g it hE hI F' N' ho hll =>
    ⟨_, _, _, _, _, _, _, news, walkLL hh (Nat.succ_ne_self _) (Nat.ne_of_lt (Nat.lt_succ_of_lt hll)) (Nat.ne_of_lt hll) hkind ha hb hab, hsz, hl, iter_enum F' N' hl hE hI ho,
      fun g' D h1 h2 _ h4 => h g' it D (fun p hp => h1 p hp _ (List.mem_cons_of_mem _ (List.mem_singleton.mpr rfl))) (h2 _ (List.mem_cons_self ..)) h4⟩
theorem SrcK.enum_CL {l : Addr} {its : Array Value} {news : Ledger} {s₁ : Shared} {a b : Str} {pa pb tp : Pos} {kk : Nat} (hh : A.handled = none) (F : Fr h₀ L s₁.heap m) (N : News h₀ L s₁.heap news) (hl : SrcAt h₀ l its news) (hsz : its.size ≤ sizeLine) (hkind : scope.kind = .function) (ha : scope.names.lookup a = some .cell) (hb : scope.names.lookup b = some .local) (hab : a ≠ b)
    (h : ∀ g, ∀ I D : Addr, (∀ p ∈ news, p.1 < I) → @LT.lt Nat _ (I + 1) D → @LT.lt Nat _ L D → RestK prog w A h₀ L m (compEnvC scope (celAt (some a) (D + 2) ++ cl) (D + 1) env) tests elt [I + 1, I] (D + 1) D { s₁ with heap := g } (SrcAt h₀ l its) (AsgCL b its (D + 2)) (Fin { s₁ with heap := g } D) its.size 0 [] news) :
    wpAny (model prog w) A (call (.type "enumerate") [.ref l]) (SrcK prog w A h₀ L m env (.Tuple [.Name a pa, .Name b pb] kk tp) tests elt scope cl (some a) Fin) E s₁ :=
  call_enumK F N hl fun g it hE hI F' N' ho hll =>
    ⟨_, _, _, _, _, _, _, news, walkCL hh (Nat.succ_ne_self _) (Nat.ne_of_lt (Nat.lt_succ_of_lt hll)) (Nat.ne_of_lt hll) hkind ha hb hab, hsz, hl, iter_enum F' N' hl hE hI ho,
      fun g' D h1 h2 _ h4 => h g' it D (fun p hp => h1 p hp _ (List.mem_cons_of_mem _ (List.mem_singleton.mpr rfl))) (h2 _ (List.mem_cons_self ..)) h4⟩
end src

section turns
variable {cenv : Env} {tests : List Expr} {elt : Expr} {C D K I e it : Addr} {S : Ledger → Prop} {Fin : List Value → Ledger → Prop} {k i : Nat} {ys : List Value} {news : Ledger} {x a b : Str} {P : Nat → Value → Prop} {its : Array Value}
theorem map1 {ios : Ledger} (h : ios.map (·.1) = [I]) : ∃ o, ios = [(I, o)] := by
  cases ios with
  | nil => cases h
  | cons p r =>
    obtain ⟨a, o⟩ := p
    rw [List.map_cons] at h
    injection h with h1 h2
    have h3 := List.map_eq_nil_iff.mp h2
    subst h3
    exact ⟨o, by rw [show a = I from h1]⟩
theorem map2 {ios : Ledger} (h : ios.map (·.1) = [e, it]) : ∃ o o', ios = [(e, o), (it, o')] := by
  cases ios with
  | nil => cases h
  | cons p r =>
    obtain ⟨a, o⟩ := p
    rw [List.map_cons] at h
    injection h with h1 h2
    obtain ⟨o', rfl⟩ := map1 h2
    exact ⟨o, o', by rw [show a = e from h1]⟩

theorem RestK.zero {iad : List Addr} {asg : Nat → (Str → Option Value) → Ledger → Prop} (h : Fin ys news) : RestK prog w A h₀ L m cenv tests elt iad C D s S asg Fin 0 i ys news := h
theorem RestK.sL (h : ∀ v oI oC m₂ h tk (E' : Value → Shared → Prop), P i v → NsObj oC m₂ → m₂ x = some v → Fr h₀ L h m → News h₀ L h ((I, oI) :: (C, oC) :: (D, lst ys) :: news) → Offs [I, C, D] news →
      BodyK prog w A tests elt cenv (EndK h₀ L m { s with heap := h, toks := tk } [(I, oI)] C oC D (lst ys) [] S (fun y news' => RestK prog w A h₀ L m cenv tests elt [I] C D s S (AsgL x P K) Fin k (i + 1) (ys ++ [y]) news'))
        (EndK h₀ L m { s with heap := h, toks := tk } [(I, oI)] C oC D (lst ys) [] S (fun _ news' => RestK prog w A h₀ L m cenv tests elt [I] C D s S (AsgL x P K) Fin k (i + 1) ys news') Value.none) E' { s with heap := h, toks := tk }) :
    RestK prog w A h₀ L m cenv tests elt [I] C D s S (AsgL x P K) Fin (k + 1) i ys news := by
  intro ios oC cos m₂ h' tk E' ha hios hC F N O
  obtain ⟨v, hP, hm, rfl⟩ := ha
  obtain ⟨oI, rfl⟩ := map1 hios
  exact h v oI oC m₂ h' tk E' hP hC hm F N O
theorem RestK.sC (h : ∀ v oI oC oK m₂ h tk (E' : Value → Shared → Prop), P i v → NsObj oC m₂ → oK.data = .cell (some v) → Fr h₀ L h m → News h₀ L h ((I, oI) :: (C, oC) :: (D, lst ys) :: (K, oK) :: news) → Offs [I, C, D, K] news →
      BodyK prog w A tests elt cenv (EndK h₀ L m { s with heap := h, toks := tk } [(I, oI)] C oC D (lst ys) [(K, oK)] S (fun y news' => RestK prog w A h₀ L m cenv tests elt [I] C D s S (AsgC P K) Fin k (i + 1) (ys ++ [y]) news'))
        (EndK h₀ L m { s with heap := h, toks := tk } [(I, oI)] C oC D (lst ys) [(K, oK)] S (fun _ news' => RestK prog w A h₀ L m cenv tests elt [I] C D s S (AsgC P K) Fin k (i + 1) ys news') Value.none) E' { s with heap := h, toks := tk }) :
    RestK prog w A h₀ L m cenv tests elt [I] C D s S (AsgC P K) Fin (k + 1) i ys news := by
  intro ios oC cos m₂ h' tk E' ha hios hC F N O
  obtain ⟨v, o, hP, rfl, hd⟩ := ha
  obtain ⟨oI, rfl⟩ := map1 hios
  exact h v oI oC o m₂ h' tk E' hP hC hd F N O
theorem RestK.sLL (h : ∀ t v oe oi oC m₂ h tk (E' : Value → Shared → Prop), its[i]? = some v → NsObj oC m₂ → m₂ a = some (.int i t) → m₂ b = some v → Fr h₀ L h m → News h₀ L h ((e, oe) :: (it, oi) :: (C, oC) :: (D, lst ys) :: news) → Offs [e, it, C, D] news →
      BodyK prog w A tests elt cenv (EndK h₀ L m { s with heap := h, toks := tk } [(e, oe), (it, oi)] C oC D (lst ys) [] S (fun y news' => RestK prog w A h₀ L m cenv tests elt [e, it] C D s S (AsgLL a b its K) Fin k (i + 1) (ys ++ [y]) news'))
        (EndK h₀ L m { s with heap := h, toks := tk } [(e, oe), (it, oi)] C oC D (lst ys) [] S (fun _ news' => RestK prog w A h₀ L m cenv tests elt [e, it] C D s S (AsgLL a b its K) Fin k (i + 1) ys news') Value.none) E' { s with heap := h, toks := tk }) :
    RestK prog w A h₀ L m cenv tests elt [e, it] C D s S (AsgLL a b its K) Fin (k + 1) i ys news := by
  intro ios oC cos m₂ h' tk E' ha hios hC F N O
  obtain ⟨t, v, hv, hma, hmb, rfl⟩ := ha
  obtain ⟨oe, oi, rfl⟩ := map2 hios
  exact h t v oe oi oC m₂ h' tk E' hv hC hma hmb F N O
theorem RestK.sCL (h : ∀ t v oe oi oC oK m₂ h tk (E' : Value → Shared → Prop), its[i]? = some v → NsObj oC m₂ → oK.data = .cell (some (.int i t)) → m₂ b = some v → Fr h₀ L h m → News h₀ L h ((e, oe) :: (it, oi) :: (C, oC) :: (D, lst ys) :: (K, oK) :: news) → Offs [e, it, C, D, K] news →
      BodyK prog w A tests elt cenv (EndK h₀ L m { s with heap := h, toks := tk } [(e, oe), (it, oi)] C oC D (lst ys) [(K, oK)] S (fun y news' => RestK prog w A h₀ L m cenv tests elt [e, it] C D s S (AsgCL b its K) Fin k (i + 1) (ys ++ [y]) news'))
        (EndK h₀ L m { s with heap := h, toks := tk } [(e, oe), (it, oi)] C oC D (lst ys) [(K, oK)] S (fun _ news' => RestK prog w A h₀ L m cenv tests elt [e, it] C D s S (AsgCL b its K) Fin k (i + 1) ys news') Value.none) E' { s with heap := h, toks := tk }) :
    RestK prog w A h₀ L m cenv tests elt [e, it] C D s S (AsgCL b its K) Fin (k + 1) i ys news := by
  intro ios oC cos m₂ h' tk E' ha hios hC F N O
  obtain ⟨t, v, o, hv, hmb, rfl, hd⟩ := ha
  obtain ⟨oe, oi, rfl⟩ := map2 hios
  exact h t v oe oi oC o m₂ h' tk E' hv hC hd hmb F N O
theorem BodyK.nil {Q : Value → Shared → Prop} {Sk : Shared → Prop} (h : wpAny (model prog w) A (eval elt cenv) Q E s) : BodyK prog w A [] elt cenv Q Sk E s := h
theorem BodyK.one {ct : Expr} {Q : Value → Shared → Prop} {Sk : Shared → Prop} (h : wpAny (model prog w) A (isTrue ct cenv (eval ct cenv)) (fun ok s' => if ok = true then wpAny (model prog w) A (eval elt cenv) Q E s' else Sk s') E s) : BodyK prog w A [ct] elt cenv Q Sk E s := h

theorem offs_cons {own : List Addr} {p : Addr × Obj} {l : Ledger} (h : NeAll p.1 own) (k : Offs own l) : Offs own (p :: l) := ⟨h, k⟩
theorem lt_few {d : Addr} {l : Ledger} (h : ∀ p ∈ l, p.1 < d) : AllLt d (l.take 6) := allLt_of fun p hp => h p (List.mem_of_mem_take hp)
theorem EndK.pre {h' : Heap} {tk : Nat} {s₁ : Shared} {ios cos : Ledger} {oC oD : Obj} {rest : Value → Ledger → Prop} {y : Value} (pre post : Ledger) {all : Ledger} (F : Fr h₀ L h' m) (N : News h₀ L h' all) (e : all = pre ++ (ios ++ (C, oC) :: (D, oD) :: (cos ++ post)))
    (hO : Offs (ios.map (·.1) ++ C :: D :: cos.map (·.1)) (pre ++ post)) (hS : S (pre ++ post)) (r : rest y (pre ++ post)) : EndK h₀ L m s₁ ios C oC D oD cos S rest y { s₁ with heap := h', toks := tk } := by
  subst e
  refine EndK.intro F N (pre ++ post) (fun p hp => ?_) hO hS r
  rcases List.mem_append.mp hp with hp | hp
  · exact List.mem_append_right _ (List.mem_append_left _ hp)
  · rcases List.mem_cons.mp hp with rfl | hp
    · exact List.mem_append_right _ (List.mem_append_right _ (List.mem_cons_self ..))
    · rcases List.mem_cons.mp hp with rfl | hp
      · exact List.mem_append_right _ (List.mem_append_right _ (List.mem_cons_of_mem _ (List.mem_cons_self ..)))
      · rcases List.mem_append.mp hp with hp | hp
        · exact List.mem_append_right _ (List.mem_append_right _ (List.mem_cons_of_mem _ (List.mem_cons_of_mem _ (List.mem_append_left _ hp))))
        · rcases List.mem_append.mp hp with hp | hp
          · exact List.mem_append_left _ hp
          · exact List.mem_append_right _ (List.mem_append_right _ (List.mem_cons_of_mem _ (List.mem_cons_of_mem _ (List.mem_append_right _ hp))))
end turns
end
end Mine
namespace Mine
section
variable {prog : Program} {w : World} {A : Around} {E : Value → Shared → Prop} {s : Shared} {h₀ : Heap} {L : Addr} {m : Str → Option Value} {env : Env}
theorem SrcAt_led {ax : Addr} {its : Array Value} {k : Nat} {news : Ledger} (hm : (ax, ({ cls := .type "list", data := .seq its k } : Obj)) ∈ news) : SrcAt h₀ ax its news := .inr ⟨_, hm, rfl, _, rfl⟩
theorem ListCompK_N {x : Str} {px : Pos} {elt iter : Expr} {tests : List Expr} {scope : Scope} {cl : List (Str × Addr)} {pos : Pos} {Q : Value → Shared → Prop}
    (_F₀ : Fr h₀ L s.heap m) (hclos : closureFor scope env = pure cl) (hkind : scope.kind = .function)
    (hnames : ∀ y ∈ scope.names, y.2 = .local → scope.names.lookup y.1 = some .local)
    (hcf : ∀ n acc, cellsFrom n scope.names acc = celAt (some x) n ++ acc) (hpc : ∀ h, pushCells h scope.names = pushCel (some x) h)
    (hs : ∀ x, foldedSetIterable iter env x = pure x)
    (h : wpAny (model prog w) A (eval iter env) (SrcK prog w A h₀ L m env (.Name x px) tests elt scope cl (some x) (fun s₂ => FinK h₀ L m s₂ Q)) E s) :
    wpAny (model prog w) A (eval (.ListComp elt [⟨.Name x px, iter, tests, 0⟩] scope pos) env) Q E s := ListCompK _F₀ hclos hkind hnames hcf hpc hs h
theorem ListCompK_T {a b : Str} {pa pb tp : Pos} {kk : Nat} {elt iter : Expr} {tests : List Expr} {scope : Scope} {cl : List (Str × Addr)} {pos : Pos} {Q : Value → Shared → Prop}
    (_F₀ : Fr h₀ L s.heap m) (hclos : closureFor scope env = pure cl) (hkind : scope.kind = .function)
    (hnames : ∀ y ∈ scope.names, y.2 = .local → scope.names.lookup y.1 = some .local)
    (hcf : ∀ n acc, cellsFrom n scope.names acc = celAt (some a) n ++ acc) (hpc : ∀ h, pushCells h scope.names = pushCel (some a) h)
    (hs : ∀ x, foldedSetIterable iter env x = pure x)
    (h : wpAny (model prog w) A (eval iter env) (SrcK prog w A h₀ L m env (.Tuple [.Name a pa, .Name b pb] kk tp) tests elt scope cl (some a) (fun s₂ => FinK h₀ L m s₂ Q)) E s) :
    wpAny (model prog w) A (eval (.ListComp elt [⟨.Tuple [.Name a pa, .Name b pb] kk tp, iter, tests, 0⟩] scope pos) env) Q E s := ListCompK _F₀ hclos hkind hnames hcf hpc hs h
end
end Mine
namespace Mine
section
variable {prog : Program} {w : World} {A : Around} {E : Value → Shared → Prop} {s : Shared} {h₀ : Heap} {L : Addr} {m : Str → Option Value} {news : Ledger}
theorem sub_led {value slice : Expr} {l : Addr} {its : Array Value} {n : Nat} {k : Int} {u : Tok} {Q : Value → Shared → Prop} (N : News h₀ L s.heap news) (hm : (l, ({ cls := .type "list", data := .seq its n } : Obj)) ∈ news)
    (h0 : 0 ≤ k) (hfit : k < 2 ^ 63) (hx : k.toNat < its.size)
    (hs : subscripted slice false (.ref l) (.int k u) = operate [.ref l, .int k u] (getItem (.ref l) (.int k u))) (h : ∀ x, its[k.toNat]? = some x → Q x s) :
    wpAny (model prog w) A (subscriptTail value slice (.ref l) (.int k u)) Q E s :=
  tail_any (Heap.IsList.typeIs ⟨_, (N _ hm).1, rfl, _, rfl⟩) slot_list_getitem.lookup (wpAny_getItem_list ⟨_, (N _ hm).1, rfl, _, rfl⟩ h0 hfit (Array.getElem?_eq_getElem hx) (h _ (Array.getElem?_eq_getElem hx))) hs
end
end Mine
namespace Mine
theorem close_ret {Q : Value → Shared → Prop} {post : Value → Ledger → Ledger → Prop} {h₀ h' : Heap} {L : Addr} {m : Str → Option Value} {s : Shared} {sub all new sub' : Ledger} {r : Value} {tk' : Nat}
    (ret : ∀ r new sub' h' tk', post r new sub' → Fr h₀ L h' m → News h₀ L h' (new ++ sub') → Ends sub s.heap h' new → Q r { s with heap := h', toks := tk' })
    (kF : Fr h₀ L h' m) (kN : News h₀ L h' all) (kE : ∀ new, (∀ p ∈ new, p ∈ all) → Apart new sub → Ends sub s.heap h' new)
    (hp : post r new sub') (h1 : ∀ p ∈ new, p ∈ all) (h2 : ∀ p ∈ sub', p ∈ all) (h3 : Apart new sub) : Q r { s with heap := h', toks := tk' } :=
  ret r new sub' h' tk' hp kF (fun p hm => by
    rcases List.mem_append.mp hm with hm | hm
    · exact kN p (h1 p hm)
    · exact kN p (h2 p hm)) (kE new h1 h3)
end Mine
namespace Mine
theorem sub_cons {p : Addr × Obj} {l all : Ledger} (h : p ∈ all) (k : ∀ q ∈ l, q ∈ all) : ∀ q ∈ p :: l, q ∈ all := List.forall_mem_cons.mpr ⟨h, k⟩
theorem sub_nil {all : Ledger} : ∀ q ∈ ([] : Ledger), q ∈ all := fun _ h => nomatch h
def NeL (a : Nat) : Ledger → Prop
  | [] => True
  | q :: r => @Ne Nat a q.1 ∧ NeL a r
theorem neL_all {a : Nat} {l : Ledger} (h : NeL a l) : ∀ q ∈ l, @Ne Nat a q.1 := by
  induction l with
  | nil => intro q hq; cases hq
  | cons p r ih =>
    unfold NeL at h
    intro q hq
    rcases List.mem_cons.mp hq with e | hq
    · exact e ▸ h.1
    · exact ih h.2 q hq
theorem apart_consL {p : Addr × Obj} {new sub : Ledger} (h : NeL p.1 sub) (k : Apart new sub) : Apart (p :: new) sub := apart_cons (neL_all h) k
end Mine
end
section
open PySem PySem.Spec PySem.Calls PySem.W PyProof.Rows
namespace Mine
def Sm (k : Nat) (x : Int) : Prop := x.natAbs < 2 ^ k
theorem Sm.mono {j k : Nat} {x : Int} (h : Sm j x) (hk : j ≤ k) : Sm k x := Nat.lt_of_lt_of_le h (Nat.pow_le_pow_right (by decide) hk)
theorem Sm.of8 {x : Int} (h : x.natAbs < 256) : Sm 8 x := h
theorem Sm.mul {j k : Nat} {x y : Int} (h : Sm j x) (h' : Sm k y) : Sm (j + k) (x * y) := by
  unfold Sm at *
  rw [Int.natAbs_mul, Nat.pow_add]
  exact Nat.mul_lt_mul'' h h'
theorem Sm.add {j k : Nat} {x y : Int} (h : Sm j x) (h' : Sm k y) : Sm (max j k + 1) (x + y) := by
  have h1 := h.mono (Nat.le_max_left j k)
  have h2 := h'.mono (Nat.le_max_right j k)
  unfold Sm at *
  rw [Nat.pow_succ]
  have := Int.natAbs_add_le x y
  omega
theorem Sm.neg {j : Nat} {x : Int} (h : Sm j x) : Sm j (-x) := by unfold Sm at *; rw [Int.natAbs_neg]; exact h
theorem Sm.sub {j k : Nat} {x y : Int} (h : Sm j x) (h' : Sm k y) : Sm (max j k + 1) (x - y) := by
  rw [Int.sub_eq_add_neg]; exact h.add h'.neg
theorem Sm.fdiv {j : Nat} {x y : Int} (h : Sm j x) : Sm j (x.fdiv y) := by
  unfold Sm at *
  refine Nat.lt_of_le_of_lt ?_ h
  by_cases hy : 0 ≤ y
  · rw [Int.fdiv_eq_ediv_of_nonneg _ hy]; exact Int.natAbs_ediv_le_natAbs _ _
  · rw [← Int.neg_fdiv_neg, Int.fdiv_eq_ediv_of_nonneg _ (by omega)]
    exact Nat.le_trans (Int.natAbs_ediv_le_natAbs _ _) (Nat.le_of_eq (Int.natAbs_neg x))
theorem Sm.bits {j : Nat} {x : Int} (h : Sm j x) : Builtin.Int.intBits x ≤ j + 1 := by
  unfold Builtin.Int.intBits
  split
  · exact Nat.zero_le _
  · rename_i hx
    have hx' : x.natAbs ≠ 0 := fun e => hx (by simp [Int.natAbs_eq_zero.mp e])
    exact Nat.succ_le_succ (Nat.le_of_lt ((Nat.log2_lt hx').mpr h))
theorem IntMulOk.of_sm {j k : Nat} {x y : Int} (h : Sm j x) (h' : Sm k y) (hj : j ≤ 524288) (hk : k ≤ 524288) : IntMulOk x y := by
  have h1 := h.bits
  have h2 := h'.bits
  exact PySem.IntMulOk.of_bits (by omega) (by omega)
theorem Sm.log2 {j : Nat} {x : Int} (h : Sm j x) (hj : j ≤ 8999) : x.natAbs.log2 < 9000 := by
  by_cases hx : x.natAbs = 0
  · rw [hx]; decide
  · have := (Nat.log2_lt hx).mpr h
    omega
end Mine
namespace Mine
theorem int_eq {a b : Int} {t : Tok} (h : a = b) : Value.int a t = Value.int b t := by rw [h]
theorem fdiv_of {e p d : Int} (hp : p ≠ 0) (h : e = p * d) : e.fdiv p = d := by rw [h, Int.mul_fdiv_cancel_left _ hp]
end Mine
namespace Mine
theorem EndK.drop {h₀ : Heap} {L C D : Addr} {m : Str → Option Value} {S : Ledger → Prop} {h' : Heap} {tk : Nat} {s₁ : Shared} {ios cos : Ledger} {oC oD : Obj} {rest : Value → Ledger → Prop} {y : Value} (pre post : Ledger) {all : Ledger} (F : Fr h₀ L h' m) (N : News h₀ L h' all) (e : all = pre ++ (ios ++ (C, oC) :: (D, oD) :: (cos ++ post)))
    (hO : Offs (ios.map (·.1) ++ C :: D :: cos.map (·.1)) post) (hS : S post) (r : rest y post) : EndK h₀ L m s₁ ios C oC D oD cos S rest y { s₁ with heap := h', toks := tk } :=
  EndK.intro F N post (fun p hp => by rw [e]; exact List.mem_append_right _ hp) hO hS r
end Mine
namespace Mine
theorem law1a {x : Int} : 1 * x = x := Int.one_mul x
theorem law1b {x : Int} (h : x = 0) : 0 = x := h.symm
end Mine
namespace Mine
section
variable {a b c d : Int}
theorem l2a : 1 * (d * a - c * b).fdiv 1 = a * d - b * c := by rw [Int.fdiv_one]; grind
theorem l2b (h : (d * a - c * b).fdiv 1 = 0) : 0 = a * d - b * c := by rw [Int.fdiv_one] at h; grind
theorem l2c : -1 * (b * c - a * d).fdiv 1 = a * d - b * c := by rw [Int.fdiv_one]; grind
theorem l2d (h : (b * c - a * d).fdiv 1 = 0) : 0 = a * d - b * c := by rw [Int.fdiv_one] at h; grind
theorem l2e (h : a = 0 ∧ c = 0) : 0 = a * d - b * c := by grind
end
section
variable {a0 a1 a2 b0 b1 b2 c0 c1 c2 s D : Int}
theorem mul_left0 {p d : Int} (hp : p ≠ 0) (h : p * d = 0) : d = 0 := (Int.mul_eq_zero.mp h).resolve_left hp
theorem e3 (h : a0 ≠ 0) : ((c2 * a0 - c0 * a2).fdiv 1 * (b1 * a0 - b0 * a1).fdiv 1 - (c1 * a0 - c0 * a1).fdiv 1 * (b2 * a0 - b0 * a2).fdiv 1).fdiv a0 = a0 * (b1 * c2 - b2 * c1) - a1 * (b0 * c2 - b2 * c0) + a2 * (b0 * c1 - b1 * c0) := by
  simp only [Int.fdiv_one]
  exact fdiv_of h (by grind)
theorem l3 (h : a0 ≠ 0) (hs : s * s = 1) (hD : D = s * (a0 * (b1 * c2 - b2 * c1) - a1 * (b0 * c2 - b2 * c0) + a2 * (b0 * c1 - b1 * c0))) : s * ((c2 * a0 - c0 * a2).fdiv 1 * (b1 * a0 - b0 * a1).fdiv 1 - (c1 * a0 - c0 * a1).fdiv 1 * (b2 * a0 - b0 * a2).fdiv 1).fdiv a0 = D := by rw [e3 h, hD]
theorem z3 (h : a0 ≠ 0) (hs : s * s = 1) (hE : ((c2 * a0 - c0 * a2).fdiv 1 * (b1 * a0 - b0 * a1).fdiv 1 - (c1 * a0 - c0 * a1).fdiv 1 * (b2 * a0 - b0 * a2).fdiv 1).fdiv a0 = 0) (hD : D = s * (a0 * (b1 * c2 - b2 * c1) - a1 * (b0 * c2 - b2 * c0) + a2 * (b0 * c1 - b1 * c0))) : 0 = D := by rw [hD, ← e3 h, hE, Int.mul_zero]
theorem t3 (h : a0 ≠ 0) (h12 : (b1 * a0 - b0 * a1).fdiv 1 = 0 ∧ (c1 * a0 - c0 * a1).fdiv 1 = 0) (hD : D = s * (a0 * (b1 * c2 - b2 * c1) - a1 * (b0 * c2 - b2 * c0) + a2 * (b0 * c1 - b1 * c0))) : 0 = D := by
  obtain ⟨h1, h2⟩ := h12
  rw [Int.fdiv_one] at h1 h2
  have e : a0 * (b1 * c2 - b2 * c1) - a1 * (b0 * c2 - b2 * c0) + a2 * (b0 * c1 - b1 * c0) = 0 := by
    refine mul_left0 h ?_
    clear h hD
    grind
  rw [hD, e, Int.mul_zero]
theorem n3 (h : a0 = 0 ∧ b0 = 0 ∧ c0 = 0) : 0 = a0 * (b1 * c2 - b2 * c1) - a1 * (b0 * c2 - b2 * c0) + a2 * (b0 * c1 - b1 * c0) := by
  obtain ⟨rfl, rfl, rfl⟩ := h
  grind
end
section
variable {x00 x01 x02 x10 x11 x12 x20 x21 x22 : Int}
theorem perm0 : x00 * (x11 * x22 - x12 * x21) - x01 * (x10 * x22 - x12 * x20) + x02 * (x10 * x21 - x11 * x20) = 1 * (x00 * (x11 * x22 - x12 * x21) - x01 * (x10 * x22 - x12 * x20) + x02 * (x10 * x21 - x11 * x20)) := by grind
theorem perm1 : x00 * (x11 * x22 - x12 * x21) - x01 * (x10 * x22 - x12 * x20) + x02 * (x10 * x21 - x11 * x20) = -1 * (x00 * (x21 * x12 - x22 * x11) - x01 * (x20 * x12 - x22 * x10) + x02 * (x20 * x11 - x21 * x10)) := by grind
theorem perm2 : x00 * (x11 * x22 - x12 * x21) - x01 * (x10 * x22 - x12 * x20) + x02 * (x10 * x21 - x11 * x20) = -1 * (x10 * (x01 * x22 - x02 * x21) - x11 * (x00 * x22 - x02 * x20) + x12 * (x00 * x21 - x01 * x20)) := by grind
theorem perm3 : x00 * (x11 * x22 - x12 * x21) - x01 * (x10 * x22 - x12 * x20) + x02 * (x10 * x21 - x11 * x20) = 1 * (x10 * (x21 * x02 - x22 * x01) - x11 * (x20 * x02 - x22 * x00) + x12 * (x20 * x01 - x21 * x00)) := by grind
theorem perm4 : x00 * (x11 * x22 - x12 * x21) - x01 * (x10 * x22 - x12 * x20) + x02 * (x10 * x21 - x11 * x20) = 1 * (x20 * (x01 * x12 - x02 * x11) - x21 * (x00 * x12 - x02 * x10) + x22 * (x00 * x11 - x01 * x10)) := by grind
theorem perm5 : x00 * (x11 * x22 - x12 * x21) - x01 * (x10 * x22 - x12 * x20) + x02 * (x10 * x21 - x11 * x20) = -1 * (x20 * (x11 * x02 - x12 * x01) - x21 * (x10 * x02 - x12 * x00) + x22 * (x10 * x01 - x11 * x00)) := by grind
end
end Mine
namespace Mine
theorem says_use_drop (k : Nat) {w : World} {A₀ : Around} {E : Value → Shared → Prop} {s : Shared} {L : Addr} {h₀ base : Heap} {m mg mb : Str → Option Value} {mean : ExcName → Option Value} {Q : Value → Shared → Prop} {lv : Nat} {f : Addr} {sub all : Ledger} {vs : List Value} {post : Value → Ledger → Ledger → Prop} {dp un : Nat} {gd : Option (List Code)} {cn : Str} {cs : Scope} {a : Addr} {ccd : Value} {cl : List (Str × Addr)} {outer : List Env}
    (H : Says lv w mean mg mb f sub vs post) (B : Below A₀ base outer h₀) (F : Fr h₀ L s.heap m) (X : (kk.heap_39 w.params).In h₀) (N : News h₀ L s.heap all) (T : Top vw (looseW vw []) mean mg mb h₀)
    (hk : cs.kind = .function) (hd : dp + 20 * (lv + 1) < 1000) (hu : un + 200 * (lv + 1) < 9900) (hs : ∀ p ∈ sub, p ∈ all) (ha : Apart (all.drop k) sub)
    (ret : ∀ r new sub' h' tk', post r new sub' → Fr h₀ L h' m → News h₀ L h' (new ++ (sub' ++ all.drop k)) → Apart new all → Q r { s with heap := h', toks := tk' }) :
    wpAny (model PySem.Challenge.rw_sa0092_01.row.prog w) (ktrTop dp un gd cn cs L a ccd cl outer) (call (.ref f) vs) Q E s :=
  says_use H B F X N T hk hd hu hs (fun p hp => List.mem_of_mem_drop hp) ha ret
end Mine
namespace Mine
inductive Rp (sub sub' : Ledger) : Ledger → Ledger → Prop
  | nil : Rp sub sub' [] []
  | change {a : Addr} {o o' : Obj} {r r' : Ledger} : (a, o') ∈ sub' → Rp sub sub' r r' → Rp sub sub' ((a, o) :: r) ((a, o') :: r')
  | keep {p : Addr × Obj} {r r' : Ledger} : NeL p.1 sub → Rp sub sub' r r' → Rp sub sub' (p :: r) (p :: r')
theorem Rp.news {sub sub' all all' : Ledger} {h₀ h h' : Heap} {L : Addr} (N : News h₀ L h all) (N' : News h₀ L h' sub') (k : ∀ b o, b ∉ sub.map (·.1) → h.get? b = some o → h'.get? b = some o) (x : Rp sub sub' all all') : News h₀ L h' all' := by
  induction x with
  | nil => exact News.nil
  | change hm _ ih =>
    intro p hp
    rcases List.mem_cons.mp hp with e | hp
    · exact e ▸ N' _ hm
    · exact ih (fun q hq => N q (List.mem_cons_of_mem _ hq)) p hp
  | keep hn _ ih =>
    intro p hp
    rcases List.mem_cons.mp hp with e | hp
    · subst e
      have z := N p (List.mem_cons_self ..)
      refine ⟨k _ _ (fun hb => ?_) z.1, z.2⟩
      obtain ⟨q, hq, e⟩ := List.mem_map.mp hb
      exact neL_all hn q hq e.symm
    · exact ih (fun q hq => N q (List.mem_cons_of_mem _ hq)) p hp
theorem says_upd {w : World} {A₀ : Around} {E : Value → Shared → Prop} {s : Shared} {L : Addr} {h₀ base : Heap} {m mg mb : Str → Option Value} {mean : ExcName → Option Value} {Q : Value → Shared → Prop} {lv : Nat} {f : Addr} {sub all : Ledger} {vs : List Value} {post : Value → Ledger → Ledger → Prop} {dp un : Nat} {gd : Option (List Code)} {cn : Str} {cs : Scope} {a : Addr} {ccd : Value} {cl : List (Str × Addr)} {outer : List Env}
    (H : Says lv w mean mg mb f sub vs post) (B : Below A₀ base outer h₀) (F : Fr h₀ L s.heap m) (X : (kk.heap_39 w.params).In h₀) (N : News h₀ L s.heap all) (T : Top vw (looseW vw []) mean mg mb h₀)
    (hk : cs.kind = .function) (hd : dp + 20 * (lv + 1) < 1000) (hu : un + 200 * (lv + 1) < 9900) (hs : ∀ p ∈ sub, p ∈ all)
    (ret : ∀ r new sub' h' tk', post r new sub' → Fr h₀ L h' m → (∀ all', Rp sub sub' all all' → News h₀ L h' (new ++ all')) → Apart new all → Q r { s with heap := h', toks := tk' }) :
    wpAny (model PySem.Challenge.rw_sa0092_01.row.prog w) (ktrTop dp un gd cn cs L a ccd cl outer) (call (.ref f) vs) Q E s := by
  refine H dp un gd cn cs a ccd cl outer A₀ base h₀ L m s Q E B F X (fun p hp => N p (hs p hp)) T hk hd hu fun r new sub' h' tk' hp F' N' D => ret r new sub' h' tk' hp F' (fun all' x p hm => ?_) fun p hp q hq e => ?_
  · rcases List.mem_append.mp hm with hm | hm
    · exact N' p (List.mem_append_left _ hm)
    · exact Rp.news N (fun q hq => N' q (List.mem_append_right _ hq)) D.keep x p hm
  · have e1 := D.fresh p hp
    have e2 := (N q hq).1
    rw [← (show p.1 = q.1 from e), e1] at e2; cases e2
end Mine
namespace Mine
theorem bindP {P R : Prop} (h : P) (k : P → R) : R := k h
end Mine
end
section
open PySem PySem.Spec PySem.Calls PySem.W PyProof.Rows PyProof.Rows.LCg
namespace Mine
section
variable {prog : Program} {w : World} {A : Around} {E : Value → Shared → Prop} {s : Shared} {h₀ : Heap} {env : Env} {m : Str → Option Value}
def CRest (prog : Program) (w : World) (A : Around) (E : Value → Shared → Prop) (h₀ : Heap) (env : Env) (K : Addr) (body : List Stmt) (Q : Flow → Shared → Prop) (s : Shared) (I : Addr) (a : Int) (n : Nat) : Nat → Nat → (Str → Option Value) → Ledger → Prop
  | 0, _, m, news => ∀ h tk, Fr h₀ env.locals h m → News h₀ env.locals h news → Q .next { s with heap := h, toks := tk }
  | k + 1, i, m, news => ∃ o g v₀, UpdF K o news g ∧ o.data = .cell v₀ ∧ ∀ t h tk o', o'.data = .cell (some (.int (a + (i : Int)) t)) → Fr h₀ env.locals h m →
      News h₀ env.locals h ((I, itR (a + ((i + 1 : Nat) : Int)) ((n : Int) - ((i + 1 : Nat) : Int))) :: g o') →
      wpAny (model prog w) A (execs body env) (UnrPost h₀ env.locals { s with heap := h, toks := tk } I (itR (a + ((i + 1 : Nat) : Int)) ((n : Int) - ((i + 1 : Nat) : Int))) (CRest prog w A E h₀ env K body Q s I a n k (i + 1)) Q) E { s with heap := h, toks := tk }
theorem CRest.zero {K : Addr} {body : List Stmt} {Q : Flow → Shared → Prop} {I : Addr} {a : Int} {n i : Nat} {news : Ledger} (h : ∀ h tk, Fr h₀ env.locals h m → News h₀ env.locals h news → Q .next { s with heap := h, toks := tk }) : CRest prog w A E h₀ env K body Q s I a n 0 i m news := h
theorem CRest.succ {K : Addr} {body : List Stmt} {Q : Flow → Shared → Prop} {I : Addr} {a : Int} {n k i : Nat} {news : Ledger} {o : Obj} {g : Obj → Ledger} {v₀ : Option Value} (U : UpdF K o news g) (hd : o.data = .cell v₀)
    (h : ∀ t h tk o', o'.data = .cell (some (.int (a + (i : Int)) t)) → Fr h₀ env.locals h m → News h₀ env.locals h ((I, itR (a + ((i + 1 : Nat) : Int)) ((n : Int) - ((i + 1 : Nat) : Int))) :: g o') →
      wpAny (model prog w) A (execs body env) (UnrPost h₀ env.locals { s with heap := h, toks := tk } I (itR (a + ((i + 1 : Nat) : Int)) ((n : Int) - ((i + 1 : Nat) : Int))) (CRest prog w A E h₀ env K body Q s I a n k (i + 1)) Q) E { s with heap := h, toks := tk }) :
    CRest prog w A E h₀ env K body Q s I a n (k + 1) i m news := ⟨o, g, v₀, U, hd, h⟩

def SrcC (prog : Program) (w : World) (A : Around) (E : Value → Shared → Prop) (h₀ : Heap) (env : Env) (K : Addr) (body : List Stmt) (Q : Flow → Shared → Prop) (xv : Value) (s₁ : Shared) : Prop :=
  ∃ (r : Addr) (a b : Int) (t u v : Tok) (n : Nat) (m : Str → Option Value) (news : Ledger), xv = .ref r ∧ A.handled = none ∧ IsRange s₁.heap r a b 1 t u v ∧ Builtin.Range.small a b 1 = true ∧ Builtin.Range.rangeSize a b 1 = ((n : Nat) : Int) ∧
    Fr h₀ env.locals s₁.heap m ∧ News h₀ env.locals s₁.heap news ∧ ∀ (g : Heap) (I : Addr), (∀ p ∈ news, p.1 < I) → CRest prog w A E h₀ env K body Q { s₁ with heap := g } I a n n 0 m news
theorem SrcC.intro {K : Addr} {body : List Stmt} {Q : Flow → Shared → Prop} {r : Addr} {a b : Int} {t u v : Tok} {n : Nat} {news : Ledger} {s₁ : Shared} (hh : A.handled = none) (F : Fr h₀ env.locals s₁.heap m) (N : News h₀ env.locals s₁.heap news) (hr : IsRange s₁.heap r a b 1 t u v) (hsm : Builtin.Range.small a b 1 = true) (hn : Builtin.Range.rangeSize a b 1 = ((n : Nat) : Int))
    (h : ∀ (g : Heap) (I : Addr), (∀ p ∈ news, p.1 < I) → CRest prog w A E h₀ env K body Q { s₁ with heap := g } I a n n 0 m news) : SrcC prog w A E h₀ env K body Q (.ref r) s₁ := ⟨r, a, b, t, u, v, n, m, news, rfl, hh, hr, hsm, hn, F, N, h⟩

theorem For_C {x : Str} {px pos : Pos} {iter : Expr} {body : List Stmt} {K : Addr} {Q : Flow → Shared → Prop} (_F : Fr h₀ env.locals s.heap m) (hk : env.scope.kind = .function) (hx : env.kindOf x = some .cell) (hc : env.cells.lookup x = some K)
    (hs : ∀ x, foldedSetIterable iter env x = pure x) (hE : PassesOwn (model prog w) A env E)
    (h : wpAny (model prog w) A (eval iter env) (SrcC prog w A E h₀ env K body Q) E s) :
    wpAny (model prog w) A (exec (.For (.Name x px) iter body [] pos) env) Q E s := by
  refine wpAny_For (wpAny_mono h (fun xv s₁ h₁ => ?_) fun _ _ e => e) hs
  obtain ⟨r, a, b, t, u, v, n, m, news, rfl, hh, hr, hsm, hn, F, N, R⟩ := h₁
  refine wpAny_pyIter_range hr hsm ?_
  have R0 := R (s₁.heap.push (itR a (Builtin.Range.rangeSize a b 1))) s₁.heap.objs.size fun p hp => Heap.lt_size (N p hp).1
  have hI₀ := next_is_new F
  have hLI : env.locals ≠ s₁.heap.objs.size := Nat.ne_of_lt F.ns.lt
  have W := range_walks (prog := prog) (w := w) (I := s₁.heap.objs.size) hh a n
  refine codeAny_forLoop_any (R := fun r s' => match r with | .ok f => Q f s' | .error e => cameBackBy (model prog w) A env E e s')
    (fun k s' => ∃ h' tk i m' news', s' = { s₁ with heap := h', toks := tk } ∧ i ≤ n ∧ k = n + 1 - i ∧ IsRangeIter h' s₁.heap.objs.size (a + (i : Nat) * 1) ((n : Int) - (i : Nat)) 1 ∧ Fr h₀ env.locals h' m' ∧ News h₀ env.locals h' news' ∧ (∀ p ∈ news', p.1 ≠ s₁.heap.objs.size) ∧
      CRest prog w A E h₀ env K body Q { s₁ with heap := s₁.heap.push (itR a (Builtin.Range.rangeSize a b 1)) } s₁.heap.objs.size a n (n - i) i m' news') ?_ (n + 1)
    ⟨_, _, 0, m, news, rfl, Nat.zero_le _, rfl, (by show IsRangeIter _ _ _ _ _; rw [hn]; simpa using Heap.get?_push_size _ rfl), F.keeps fun _ _ e => Heap.get?_push_of_some _ e, N.grown fun _ _ e => Heap.get?_push_of_some _ e, fun p hp => Nat.ne_of_lt (Heap.lt_size (N p hp).1), R0⟩
  rintro k s' ⟨h', tk, i, m', news', rfl, hi, rfl, hst, F', N', off, R'⟩
  by_cases hlt : i < n
  · obtain ⟨j, hj⟩ : ∃ j, n - i = j + 1 := ⟨n - i - 1, by omega⟩
    rw [hj] at R'
    obtain ⟨o, g, v₀, U, hd, R''⟩ := R'
    refine W.item i _ _ _ hlt hst fun v h₂ tk₂ hP hst₂ hk₂ => ?_
    obtain ⟨t', rfl⟩ := hP
    refine wpAny_pure ?_
    obtain ⟨own, rest, rfl, hg, h1, h2⟩ := U.split
    have N₂ : News h₀ env.locals h₂ (own ++ (K, o) :: rest) := news_but N' hk₂ off
    have F₂ : Fr h₀ env.locals h₂ m' := fr_but F' hk₂ hLI hI₀
    have zK := N₂ (K, o) (List.mem_append_right _ (List.mem_cons_self ..))
    have hKI : K ≠ s₁.heap.objs.size := off (K, o) (List.mem_append_right _ (List.mem_cons_self ..))
    refine wpAny_assign_Name (wpAny_storeName_cell hk hx hc ⟨o, zK.1, hd⟩ fun h₃ hv hs₃ => ?_)
    obtain ⟨o', ho', hd'⟩ := hv
    have F₃ : Fr h₀ env.locals h₃ m' := F₂.change hs₃ zK.2.1 zK.2.2
    have hst₃ : h₃.get? s₁.heap.objs.size = some (itR (a + ((i + 1 : Nat) : Int)) ((n : Int) - ((i + 1 : Nat) : Int))) := by
      have q : IsRangeIter h₂ s₁.heap.objs.size (a + ((i + 1 : Nat) : Int) * 1) ((n : Int) - ((i + 1 : Nat) : Int)) 1 := hst₂
      rw [Int.mul_one] at q
      exact hs₃.extBut _ _ (Ne.symm hKI) q
    have N₃ : News h₀ env.locals h₃ ((s₁.heap.objs.size, itR (a + ((i + 1 : Nat) : Int)) ((n : Int) - ((i + 1 : Nat) : Int))) :: g o') := fun p hp => by
      rcases List.mem_cons.mp hp with rfl | hp
      · exact ⟨hst₃, Ne.symm hLI, hI₀⟩
      · rw [hg o'] at hp
        exact N₂.setAt h1 h2 hs₃ ho' p hp
    refine wpAny_mono (wpAny_passesOwn hE (R'' t' h₃ _ o' hd' F₃ N₃)) (fun f s₄ p => ?_) fun _ _ e => e
    have fin : UnrEnd h₀ env.locals { s₁ with heap := h₃, toks := tk₂ } s₁.heap.objs.size (itR (a + ((i + 1 : Nat) : Int)) ((n : Int) - ((i + 1 : Nat) : Int))) (CRest prog w A E h₀ env K body Q { s₁ with heap := s₁.heap.push (itR a (Builtin.Range.rangeSize a b 1)) } s₁.heap.objs.size a n j (i + 1)) s₄ →
        ∃ k', k' < n + 1 - i ∧ ∃ h' tk i m' news', s₄ = { s₁ with heap := h', toks := tk } ∧ i ≤ n ∧ k' = n + 1 - i ∧ IsRangeIter h' s₁.heap.objs.size (a + (i : Nat) * 1) ((n : Int) - (i : Nat)) 1 ∧ Fr h₀ env.locals h' m' ∧ News h₀ env.locals h' news' ∧ (∀ p ∈ news', p.1 ≠ s₁.heap.objs.size) ∧
          CRest prog w A E h₀ env K body Q { s₁ with heap := s₁.heap.push (itR a (Builtin.Range.rangeSize a b 1)) } s₁.heap.objs.size a n (n - i) i m' news' := by
      rintro ⟨h₄, tk₄, m₄, news₄, rfl, F₄, N₄, off₄, R₄⟩
      refine ⟨n + 1 - (i + 1), by omega, h₄, tk₄, i + 1, m₄, news₄, rfl, hlt, rfl, ?_, F₄, fun p hp => N₄ p (List.mem_cons_of_mem _ hp), off₄, by rw [show n - (i + 1) = j by omega]; exact R₄⟩
      show h₄.get? _ = _
      have z := (N₄ _ (List.mem_cons_self ..)).1
      rw [Int.mul_one]; exact z
    cases f with
    | ret v => exact p
    | brk => exact p
    | next => exact fin p
    | cont => exact fin p
  · obtain rfl : i = n := Nat.le_antisymm hi (Nat.not_lt.mp hlt)
    rw [Nat.sub_self] at R'
    refine W.done _ _ _ hst fun h₂ tk₂ hk₂ => wpAny_execs_nil ?_
    exact R' h₂ tk₂ (fr_but F' hk₂ hLI hI₀) (news_but N' hk₂ off)
end
end Mine
namespace Mine
theorem fmod_lo {a k : Int} (h : 0 < k) : 0 ≤ a.fmod k := Int.fmod_nonneg_of_pos a h
theorem fmod_hi {a k : Int} (h : 0 < k) : a.fmod k < k := Int.fmod_lt_of_pos a h
end Mine
namespace Mine
section
variable {prog : Program} {w : World} {A : Around} {E : Value → Shared → Prop} {s : Shared} {h₀ : Heap} {L : Addr} {m : Str → Option Value} {env : Env}
def FinAK (h₀ : Heap) (L : Addr) (m : Str → Option Value) (s : Shared) (y : Str) (Q : Flow → Shared → Prop) (D : Addr) (ys : List Value) (news : Ledger) : Prop :=
  ∀ h tk, Fr h₀ L h (fun z => if z = y then some (.ref D) else m z) → News h₀ L h ((D, lst ys) :: news) → Q .next { s with heap := h, toks := tk }
theorem AssignK {target elt iter : Expr} {tests : List Expr} {y : Str} {py : Pos} {scope : Scope} {cl : List (Str × Addr)} {cx : Option Str} {pos spos : Pos} {Q : Flow → Shared → Prop} (_F₀ : Fr h₀ L s.heap m) (hLe : env.locals = L)
    (hsw : swapsWith (.ListComp elt [⟨target, iter, tests, 0⟩] scope pos) (some (.Name y py)) spos.line env = pure true)
    (hclos : closureFor scope env = pure cl) (hkind : scope.kind = .function)
    (hnames : ∀ y ∈ scope.names, y.2 = .local → scope.names.lookup y.1 = some .local)
    (hcf : ∀ n acc, cellsFrom n scope.names acc = celAt cx n ++ acc) (hpc : ∀ h, pushCells h scope.names = pushCel cx h)
    (hs : ∀ x, foldedSetIterable iter env x = pure x) (hy : env.kindOf y = some .local) (hp : (env.scope.kind == .class || (env.scope.kind == .module && env.locals != env.globals)) = false)
    (h : wpAny (model prog w) A (eval iter env) (SrcK prog w A h₀ L m env target tests elt scope cl cx (fun s₂ => FinAK h₀ L m s₂ y Q)) E s) :
    wpAny (model prog w) A (exec (.Assign [.Name y py] (.ListComp elt [⟨target, iter, tests, 0⟩] scope pos) spos) env) Q E s := by
  subst hLe
  rw [exec_Assign_Name_used _ _ _ _ hsw]
  refine wpAny_bind (wpAny_standAt (wpAny_bind ?_))
  show wpAny _ _ (do let _ ← comprehension (.ListComp elt [⟨target, iter, tests, 0⟩] scope pos) scope env _ (newList []) false (eval iter env) (some (assign (.Name y py) env))) _ _ s
  refine wpAny_bind (wpAny_mono (wpAny_comprehension_free (use := some (assign (.Name y py) env)) (Q := fun _ s' => Q .next s') rfl hs hclos hkind hnames
    (wpAny_mono h (fun xv s₁ h₁ => ?_) fun _ _ e => e)) (fun _ s' hq => wpAny_pure (wpAny_pure hq)) fun _ _ e => e)
  obtain ⟨I, fp, iad, n, S, St, asg, news, W, hsz, hS, it, R⟩ := h₁
  refine it _ _ fun h hst F N hiad hfp hord => ?_
  refine blockK W hsz hcf hpc hst hiad hfp F N (fun p hp b hb => Nat.ne_of_lt (hord p hp b hb)) hS (fun D h1 h2 h3 => R h D hord h1 h2 h3) ?_
  intro D C h tk m' ys news' F' N' hn hC₀ hCL hCD offC fin
  show wpAny _ A (assign (.Name y py) env (.ref D)) _ _ _
  refine wpAny_assign_Name (wpAny_storeName_local hy F'.ns (fun h₂ hn₂ hs₂ => ?_) hp)
  have hL₀ : h₀.get? env.locals = none := Heap.get?_none_of_le F'.above
  have F₂ : Fr h₀ env.locals h₂ (fun z => if z = y then some (.ref D) else m z) := ⟨hn₂, fun b o e => hs₂.extBut b o (fun q => by rw [q, hL₀] at e; cases e) (F'.keep b o e), F'.above⟩
  refine ⟨m', hn.sameBut hs₂ hCL, fun h'' hs'' => fin h'' _ (F₂.change hs'' hCL hC₀) (fun p hp => ?_)⟩
  have z : h₂.get? p.1 = some p.2 := hs₂.extBut _ _ (N' p hp).2.1 (N' p hp).1
  refine ⟨hs''.extBut _ _ ?_ z, (N' p hp).2⟩
  rcases List.mem_cons.mp hp with rfl | hp
  · exact Ne.symm hCD
  · exact offC p hp
end
end Mine
namespace Mine
abbrev tupOf (its : Array Value) (n : Nat) : Obj := { cls := .type "tuple", data := .seq its n }
theorem fm1 {x : Int} : (x.fmod 1 != 0) = false := by simp
theorem fm2 {x q : Int} (h : x = 2 * q) : ((if x < 0 then -x else x).fmod (if (2 : Int) < 0 then -2 else 2) != 0) = false := by
  have e2 : (if (2 : Int) < 0 then (-2 : Int) else 2) = 2 := by decide
  rw [e2, Int.fmod_eq_emod_of_nonneg _ (by decide)]
  have : (if x < 0 then -x else x) % 2 = 0 := by split <;> omega
  rw [this]; rfl
theorem fd1 {x : Int} : x.fdiv 1 = x := Int.fdiv_one x
theorem fd2 {x q : Int} (h : x = 2 * q) : x.fdiv 2 = q := fdiv_of (by decide) h
end Mine
namespace Mine
theorem neL_of {a : Nat} {l : Ledger} (h : ∀ q ∈ l, @Ne Nat a q.1) : NeL a l := by
  induction l with
  | nil => exact True.intro
  | cons p r ih => exact ⟨h p (List.mem_cons_self ..), ih fun q hq => h q (List.mem_cons_of_mem _ hq)⟩
theorem apart_one {p : Addr × Obj} {new l : Ledger} (h : Apart (p :: new) l) : NeL p.1 l := neL_of fun q hq => h p (List.mem_cons_self ..) q hq
end Mine
namespace Mine
theorem ne_of_neL {a b : Nat} {o : Obj} {l : Ledger} (h : NeL a l) (m : ((b, o) : Addr × Obj) ∈ l) : @Ne Nat a b := neL_all h _ m
theorem ne_of_neL' {a b : Nat} {o : Obj} {l : Ledger} (h : NeL a l) (m : ((b, o) : Addr × Obj) ∈ l) : @Ne Nat b a := Ne.symm (ne_of_neL h m)
end Mine
namespace Mine
theorem apart_nth {new l : Ledger} (i : Nat) {p : Addr × Obj} (h : Apart new l) (e : new[i]? = some p) : NeL p.1 l := neL_of fun q hq => h p (List.mem_of_getElem? e) q hq
end Mine
namespace Mine
theorem three_ways {v : Int} {P : Prop} (h0 : 0 ≤ v) (h1 : v < 3) (a : v = 0 → P) (b : v = 1 → P) (c : v = 2 → P) : P := by
  rcases (show v = 0 ∨ v = 1 ∨ v = 2 by omega) with h | h | h
  · exact a h
  · exact b h
  · exact c h
end Mine
namespace Mine
theorem kin_get {K : Frag} {h₀ h : Heap} {L : Addr} {m : Str → Option Value} {a : Addr} {o : Obj} (X : K.In h₀) (F : Fr h₀ L h m) (e : K.lookup a = some o) : h.get? a = some o := F.keep _ _ (X _ _ e)
end Mine
end
section
open PySem PySem.Spec PySem.Calls PySem.W PyProof.Rows
namespace Mine
mutual
def plain : PyData → Bool
  | .int _ => true
  | .list xs => plainAll xs
  | .tuple xs => plainAll xs
  | _ => false
def plainAll : List PyData → Bool
  | [] => true
  | x :: xs => plain x && plainAll xs
end
mutual
theorem eqv_self : ∀ d : PyData, plain d = true → PyData.eqv d d = true
  | .int i, _ => by simp [PyData.eqv]
  | .list xs, h => by simpa [PyData.eqv] using eqvAll_self xs (by simpa [plain] using h)
  | .tuple xs, h => by simpa [PyData.eqv] using eqvAll_self xs (by simpa [plain] using h)
  | .none, h => by simp [plain] at h
  | .bool _, h => by simp [plain] at h
  | .str _, h => by simp [plain] at h
  | .dict _, h => by simp [plain] at h
theorem eqvAll_self : ∀ xs : List PyData, plainAll xs = true → PyData.eqvAll xs xs = true
  | [], _ => by simp [PyData.eqvAll]
  | x :: xs, h => by
    have h' : plain x = true ∧ plainAll xs = true := by simpa [plainAll] using h
    simp [PyData.eqvAll, eqv_self x h'.1, eqvAll_self xs h'.2]
end
theorem dl {xs ys : List PyData} (h : xs = ys) : PyData.list xs = PyData.list ys := by rw [h]
theorem dt {xs ys : List PyData} (h : xs = ys) : PyData.tuple xs = PyData.tuple ys := by rw [h]
theorem di {x y : Int} (h : x = y) : PyData.int x = PyData.int y := by rw [h]
theorem dc {x y : PyData} {xs ys : List PyData} (h : x = y) (h' : xs = ys) : x :: xs = y :: ys := by rw [h, h']
section
variable {prog : Program} {w : World} {A : Around} {E : Value → Shared → Prop} {s : Shared} {a b : Value} {da db : PyData} {as bs : List Addr} {Q : Value → Shared → Prop} {x y : Int} {t u : Tok}
theorem ne_same (ra : Reads s.heap a da as) (rb : Reads s.heap b db bs) (e : da = db) (hp : plain da = true) (ha : SeqAt.shaped da = true) (hu : A.units + 64 < cLine) (h : Q (.bool false) s) :
    wpAny (model prog w) A (compareOp .NotEq a b) Q E s := by
  refine ne_dataH ra rb ha (e ▸ ha) hu ?_
  rw [← e, eqv_self da hp]; exact h
theorem eq_same (ra : Reads s.heap a da as) (rb : Reads s.heap b db bs) (e : da = db) (hp : plain da = true) (ha : SeqAt.shaped da = true) (hu : A.units + 64 < cLine) (h : Q (.bool true) s) :
    wpAny (model prog w) A (compareOp .Eq a b) Q E s := by
  refine eq_dataH ra rb ha (e ▸ ha) hu ?_
  rw [← e, eqv_self da hp]; exact h
theorem ne_int_same (e : x = y) (h : Q (.bool false) s) : wpAny (model prog w) A (compareOp .NotEq (.int x t) (.int y u)) Q E s := by
  refine ne_int ?_
  rw [e, bne_self_eq_false]; exact h
theorem pow0 {k : Nat} (hs : Sm k x) (hk : k ≤ 64) (hn : y = 0) (h : Q (.int 1 s.toks) { s with toks := s.toks + 1 }) : wpAny (model prog w) A (binaryOp .Pow (.int x t) (.int y u)) Q E s := by
  subst hn
  refine pow_int_small (by decide) (by decide) (Nat.lt_of_lt_of_le hs (Nat.pow_le_pow_right (by decide) hk)) ?_
  have e : x ^ (0 : Int).toNat = 1 := by show x ^ 0 = 1; exact Int.pow_zero x
  rw [e]; exact h
theorem pow1 {k : Nat} (hs : Sm k x) (hk : k ≤ 64) (hn : y = 1) (h : Q (.int x s.toks) { s with toks := s.toks + 1 }) : wpAny (model prog w) A (binaryOp .Pow (.int x t) (.int y u)) Q E s := by
  subst hn
  refine pow_int_small (by decide) (by decide) (Nat.lt_of_lt_of_le hs (Nat.pow_le_pow_right (by decide) hk)) ?_
  have e : x ^ (1 : Int).toNat = x := by show x ^ (0 + 1) = x; rw [Int.pow_succ, Int.pow_zero, Int.one_mul]
  rw [e]; exact h
end
end Mine
end
section
open PySem PySem.Spec PySem.Calls PySem.W PyProof.Rows PyProof.Rows.LCg
namespace Mine
abbrev Sub (l l' : Ledger) : Prop := ∀ p ∈ l, p ∈ l'
def ListAt (all : Ledger) (a : Addr) (n : Nat) (v : Nat → Value → Prop) : Prop := ∃ vs c, (a, listOf (List.toArray vs) c) ∈ all ∧ vs.length = n ∧ ∀ i x, vs[i]? = some x → v i x
theorem ListAt.mono {l l' : Ledger} {a : Addr} {n : Nat} {v v' : Nat → Value → Prop} (h : ListAt l a n v) (hs : Sub l l') (hv : ∀ i x, v i x → v' i x) : ListAt l' a n v' := by
  obtain ⟨vs, c, hm, hl, hi⟩ := h
  exact ⟨vs, c, hs _ hm, hl, fun i x e => hv i x (hi i x e)⟩
def IntV (x : Int) (y : Value) : Prop := ∃ t, y = .int x t
def IntRow (all : Ledger) (a : Addr) (n : Nat) (f : Nat → Int) : Prop := ListAt all a n fun i y => IntV (f i) y
def RowV (all : Ledger) (n : Nat) (f : Nat → Int) (y : Value) : Prop := ∃ r, y = .ref r ∧ IntRow all r n f
def MatAt (all : Ledger) (a : Addr) (n : Nat) (f : Nat → Nat → Int) : Prop := ListAt all a n fun i y => RowV all n (f i) y
theorem IntRow.mono {l l' : Ledger} {a : Addr} {n : Nat} {f : Nat → Int} (h : IntRow l a n f) (hs : Sub l l') : IntRow l' a n f := ListAt.mono h hs fun _ _ e => e
theorem RowV.mono {l l' : Ledger} {y : Value} {n : Nat} {f : Nat → Int} (h : RowV l n f y) (hs : Sub l l') : RowV l' n f y := by
  obtain ⟨r, e, h⟩ := h
  exact ⟨r, e, h.mono hs⟩
theorem MatAt.mono {l l' : Ledger} {a : Addr} {n : Nat} {f : Nat → Nat → Int} (h : MatAt l a n f) (hs : Sub l l') : MatAt l' a n f := ListAt.mono h hs fun _ _ e => e.mono hs
theorem Sub.uncons {p : Addr × Obj} {l r : Ledger} (h : Sub (p :: l) r) : p ∈ r ∧ Sub l r := ⟨h _ (List.mem_cons_self ..), fun q hq => h q (List.mem_cons_of_mem _ hq)⟩
theorem Sub.mem {p : Addr × Obj} {l r : Ledger} (h : Sub l r) (m : p ∈ l) : p ∈ r := h p m
theorem Sub.refl {l : Ledger} : Sub l l := fun _ h => h
theorem Sub.cons {l l' : Ledger} {p : Addr × Obj} (h : Sub l l') : Sub l (p :: l') := fun q hq => List.mem_cons_of_mem _ (h q hq)
theorem Sub.app {l l' new : Ledger} (h : Sub l l') : Sub l (new ++ l') := fun q hq => List.mem_append_right _ (h q hq)
theorem Sub.appL {l l' l'' : Ledger} (h : Sub l l') : Sub l (l' ++ l'') := fun q hq => List.mem_append_left _ (h q hq)
theorem Sub.left {l l' : Ledger} : Sub l (l ++ l') := fun q hq => List.mem_append_left _ hq
theorem Sub.trans {l l' l'' : Ledger} (h : Sub l l') (h' : Sub l' l'') : Sub l l'' := fun q hq => h' q (h q hq)

def ElemE (h₀ : Heap) (L : Addr) (m : Str → Option Value) (all : Ledger) (v : Ledger → Value → Prop) (s₁ : Shared) (y : Value) (s₂ : Shared) : Prop :=
  ∃ h' tk new, s₂ = { s₁ with heap := h', toks := tk } ∧ Fr h₀ L h' m ∧ News h₀ L h' (new ++ all) ∧ Apart new all ∧ v new y
theorem ElemE.none {h₀ h' : Heap} {L : Addr} {m : Str → Option Value} {all : Ledger} {v : Ledger → Value → Prop} {s₁ : Shared} {y : Value} {tk : Nat} {led : Ledger} (F : Fr h₀ L h' m) (N : News h₀ L h' led) (hs : Sub all led) (hv : v [] y) :
    ElemE h₀ L m all v s₁ y { s₁ with heap := h', toks := tk } := ⟨h', tk, [], rfl, F, fun p hp => N p (hs p hp), apart_nil, hv⟩
theorem ElemE.some {h₀ h' : Heap} {L : Addr} {m : Str → Option Value} {all new : Ledger} {v : Ledger → Value → Prop} {s₁ : Shared} {y : Value} {tk : Nat} (F : Fr h₀ L h' m) (N : News h₀ L h' (new ++ all)) (ha : Apart new all) (hv : v new y) :
    ElemE h₀ L m all v s₁ y { s₁ with heap := h', toks := tk } := ⟨h', tk, new, rfl, F, N, ha, hv⟩

section
variable {prog : Program} {w : World} {A : Around} {E : Value → Shared → Prop} {s : Shared} {h₀ : Heap} {L : Addr} {m : Str → Option Value} {env : Env}

theorem EndK.mono {s₁ s₂ : Shared} {ios cos : Ledger} {C D : Addr} {oC oD : Obj} {S : Ledger → Prop} {rest rest' : Value → Ledger → Prop} {y : Value} (h : EndK h₀ L m s₁ ios C oC D oD cos S rest y s₂) (k : ∀ y l, rest y l → rest' y l) : EndK h₀ L m s₁ ios C oC D oD cos S rest' y s₂ := by
  obtain ⟨h', tk, news', e, F, N, O, hS, r⟩ := h
  exact ⟨h', tk, news', e, F, N, O, hS, k _ _ r⟩

theorem RestK.inv {cenv : Env} {tests : List Expr} {elt : Expr} {iad : List Addr} {C D : Addr} {S : Ledger → Prop} {asg : Nat → (Str → Option Value) → Ledger → Prop} {Fin : List Value → Ledger → Prop} {n : Nat} (Inv : Nat → List Value → Ledger → Prop)
    (step : ∀ i ys news, i < n → Inv i ys news → ∀ ios oC cos m₂ h tk (E' : Value → Shared → Prop), asg i m₂ cos → ios.map (·.1) = iad → NsObj oC m₂ → Fr h₀ L h m → News h₀ L h (ios ++ (C, oC) :: (D, lst ys) :: (cos ++ news)) → Offs (ios.map (·.1) ++ C :: D :: cos.map (·.1)) news →
      BodyK prog w A tests elt cenv (EndK h₀ L m { s with heap := h, toks := tk } ios C oC D (lst ys) cos S (fun y news' => Inv (i + 1) (ys ++ [y]) news'))
        (EndK h₀ L m { s with heap := h, toks := tk } ios C oC D (lst ys) cos S (fun _ news' => Inv (i + 1) ys news') Value.none) E' { s with heap := h, toks := tk })
    (fin : ∀ ys news, Inv n ys news → Fin ys news) : ∀ k i ys news, i + k = n → Inv i ys news → RestK prog w A h₀ L m cenv tests elt iad C D s S asg Fin k i ys news := by
  intro k
  induction k with
  | zero =>
    intro i ys news e h
    exact fin _ _ ((show i = n from e) ▸ h)
  | succ k ih =>
    intro i ys news e h
    intro ios oC cos m₂ h' tk E' ha hi hC F N O
    exact bodyK_mono (step i ys news (by omega) h ios oC cos m₂ h' tk E' ha hi hC F N O) (fun y s he => EndK.mono he fun y l hI => ih (i + 1) _ l (by omega) hI)
      (fun s he => EndK.mono he fun y l hI => ih (i + 1) _ l (by omega) hI)

theorem offs_of {own : List Addr} {all l : Ledger} (ha : ∀ b ∈ own, ∃ o, (b, o) ∈ all) (h : Apart l all) : Offs own l := Offs.of fun p hp b hb => by
  obtain ⟨o, ho⟩ := ha b hb
  exact h p hp _ ho
theorem offs_append {own : List Addr} {l l' : Ledger} (h : Offs own l) (h' : Offs own l') : Offs own (l ++ l') := Offs.of fun p hp b hb => by
  rcases List.mem_append.mp hp with hp | hp
  · exact h.mem p hp b hb
  · exact h'.mem p hp b hb

theorem restG {cenv : Env} {elt : Expr} {iad : List Addr} {C D : Addr} {S : Ledger → Prop} {asg : Nat → (Str → Option Value) → Ledger → Prop} {Fin : List Value → Ledger → Prop} {n : Nat} {news₀ : Ledger} (v : Ledger → Nat → Value → Prop)
    (mono : ∀ l l' i y, Sub l l' → v l i y → v l' i y) (hS : ∀ l, Sub news₀ l → S l)
    (step : ∀ i (ys : List Value) rest, i < n → Sub news₀ rest → ys.length = i → ∀ ios oC cos m₂ h tk (E' : Value → Shared → Prop), asg i m₂ cos → ios.map (·.1) = iad → NsObj oC m₂ → Fr h₀ L h m → News h₀ L h (ios ++ (C, oC) :: (D, lst ys) :: (cos ++ rest)) →
      wpAny (model prog w) A (eval elt cenv) (ElemE h₀ L m (ios ++ (C, oC) :: (D, lst ys) :: (cos ++ rest)) (fun l y => v l i y) { s with heap := h, toks := tk }) E' { s with heap := h, toks := tk })
    (fin : ∀ (ys : List Value) new, Apart new news₀ → ys.length = n → (∀ j x, ys[j]? = some x → v new j x) → Fin ys (new ++ news₀)) :
    RestK prog w A h₀ L m cenv [] elt iad C D s S asg Fin n 0 [] news₀ := by
  refine RestK.inv (fun i ys news => ∃ pre, news = pre ++ news₀ ∧ Apart pre news₀ ∧ ys.length = i ∧ ∀ j x, ys[j]? = some x → v pre j x) ?_ ?_ n 0 [] news₀ (Nat.zero_add n) ⟨[], rfl, apart_nil, rfl, fun j x e => by simp at e⟩
  · rintro i ys _ hi ⟨pre, rfl, ap, hl, hv⟩ ios oC cos m₂ h tk E' ha hios hC F N O
    refine wpAny_mono (step i ys (pre ++ news₀) hi (Sub.app Sub.refl) hl ios oC cos m₂ h tk E' ha hios hC F N) (fun y s₂ he => ?_) fun _ _ e => e
    obtain ⟨h', tk', new, rfl, F', N', ap', hy⟩ := he
    have hap : ∀ l : Ledger, (∀ p ∈ l, p ∈ ios ++ (C, oC) :: (D, lst ys) :: (cos ++ (pre ++ news₀))) → Apart new l := fun l hl p hp q hq => ap' p hp q (hl q hq)
    refine EndK.pre (s₁ := { s with heap := h, toks := tk }) new (pre ++ news₀) F' N' rfl (offs_append (offs_of (all := ios ++ (C, oC) :: (D, lst ys) :: (cos ++ (pre ++ news₀))) (fun b hb => ?_) ap') O) (hS _ (Sub.app (Sub.app Sub.refl))) ⟨new ++ pre, (List.append_assoc ..).symm, ?_, ?_, ?_⟩
    · rcases List.mem_append.mp hb with hb | hb
      · obtain ⟨p, hp, rfl⟩ := List.mem_map.mp hb
        exact ⟨p.2, List.mem_append_left _ hp⟩
      · rcases List.mem_cons.mp hb with rfl | hb
        · exact ⟨oC, List.mem_append_right _ (List.mem_cons_self ..)⟩
        · rcases List.mem_cons.mp hb with rfl | hb
          · exact ⟨lst ys, List.mem_append_right _ (List.mem_cons_of_mem _ (List.mem_cons_self ..))⟩
          · obtain ⟨p, hp, rfl⟩ := List.mem_map.mp hb
            exact ⟨p.2, List.mem_append_right _ (List.mem_cons_of_mem _ (List.mem_cons_of_mem _ (List.mem_append_left _ hp)))⟩
    · intro p hp q hq
      rcases List.mem_append.mp hp with hp | hp
      · exact ap' p hp q (List.mem_append_right _ (List.mem_cons_of_mem _ (List.mem_cons_of_mem _ (List.mem_append_right _ (List.mem_append_right _ hq)))))
      · exact ap p hp q hq
    · rw [List.length_append, hl]; rfl
    · intro j x e
      by_cases hj : j < ys.length
      · rw [List.getElem?_append_left hj] at e
        exact mono _ _ _ _ (Sub.app Sub.refl) (hv j x e)
      · rw [List.getElem?_append_right (by omega)] at e
        have : j = i := by
          cases q : j - ys.length with
          | zero => omega
          | succ k => rw [q] at e; simp at e
        subst this
        rw [← hl, Nat.sub_self] at e
        have e' : y = x := by simpa using e
        exact e' ▸ mono _ _ _ _ (fun p hp => List.mem_append_left _ hp) hy
  · rintro ys _ ⟨pre, rfl, ap, hl, hv⟩
    exact fin ys pre ap hl hv

theorem listAt_new {D : Addr} {ys : List Value} {new : Ledger} {n : Nat} {v : Nat → Value → Prop} (hl : ys.length = n) (hv : ∀ j x, ys[j]? = some x → v j x) : ListAt ((D, lst ys) :: new) D n v :=
  ⟨ys, ys.length, List.mem_cons_self .., hl, hv⟩
theorem apart_new {D : Addr} {o : Obj} {new all : Ledger} (h : ∀ p ∈ all, @LT.lt Nat _ p.1 D) (k : Apart new all) : Apart ((D, o) :: new) all := fun p hp q hq => by
  rcases List.mem_cons.mp hp with rfl | hp
  · exact Nat.ne_of_gt (h q hq)
  · exact k p hp q hq

section src
variable {elt : Expr} {scope : Scope} {cl : List (Str × Addr)} {x : Str} {px : Pos} {Q : Value → Shared → Prop}
/-- what is wanted behind a block of one turn per item: a new list. -/
def FinG (h₀ : Heap) (L : Addr) (m : Str → Option Value) (all : Ledger) (n : Nat) (v : Ledger → Nat → Value → Prop) (Q : Value → Shared → Prop) (s₁ : Shared) : Prop :=
  ∀ D h tk new, Fr h₀ L h m → News h₀ L h (new ++ all) → Apart new all → ListAt new D n (v new) → Q (.ref D) { s₁ with heap := h, toks := tk }

theorem finG_K {all : Ledger} {n : Nat} {v : Ledger → Nat → Value → Prop} {s₁ : Shared} {g : Heap} {D : Addr} (mono : ∀ l l' i y, Sub l l' → v l i y → v l' i y) (hlt : ∀ p ∈ all, @LT.lt Nat _ p.1 D) (fin : FinG h₀ L m all n v Q s₁) (ys : List Value) (new : Ledger) (ap : Apart new all) (hl : ys.length = n) (hv : ∀ j x, ys[j]? = some x → v new j x) :
    FinK h₀ L m { s₁ with heap := g } Q D ys (new ++ all) := fun h tk F N => fin D h tk ((D, lst ys) :: new) F N (apart_new hlt ap) (listAt_new hl fun j x e => mono _ _ _ _ (Sub.cons Sub.refl) (hv j x e))

theorem SrcG.range_L {r : Addr} {a b : Int} {t u t' : Tok} {n : Nat} {all : Ledger} {s₁ : Shared} (v : Ledger → Nat → Value → Prop) (mono : ∀ l l' i y, Sub l l' → v l i y → v l' i y)
    (hh : A.handled = none) (F : Fr h₀ L s₁.heap m) (N : News h₀ L s₁.heap all) (hr : IsRange s₁.heap r a b 1 t u t') (hsm : Builtin.Range.small a b 1 = true) (hn : Builtin.Range.rangeSize a b 1 = ((n : Nat) : Int)) (hsz : n ≤ sizeLine) (hkind : scope.kind = .function) (hx : scope.names.lookup x = some .local)
    (step : ∀ (i : Nat) rest (I C D : Addr) oI oC oD t m₂ h tk (E' : Value → Shared → Prop), i < n → Sub all rest → NsObj oC m₂ → m₂ x = some (.int (a + (i : Int)) t) → Fr h₀ L h m → News h₀ L h ((I, oI) :: (C, oC) :: (D, oD) :: rest) →
      wpAny (model prog w) A (eval elt (compEnvC scope cl C env)) (ElemE h₀ L m ((I, oI) :: (C, oC) :: (D, oD) :: rest) (fun l y => v l i y) { s₁ with heap := h, toks := tk }) E' { s₁ with heap := h, toks := tk })
    (fin : FinG h₀ L m all n v Q s₁) : SrcK prog w A h₀ L m env (.Name x px) [] elt scope cl none (fun s₂ => FinK h₀ L m s₂ Q) (.ref r) s₁ := by
  refine SrcK.range_L hh F N hr hsm hn hsz hkind hx fun g I D l1 l2 _ => ?_
  refine restG v mono (fun _ _ => trivial) ?_ (finG_K mono (fun p hp => Nat.lt_trans (l1 p hp) l2) fin)
  intro i ys rest hi hs hl ios oC cos m₂ h tk E' ha hios hC F' N'
  obtain ⟨_, ⟨t, rfl⟩, hm, rfl⟩ := ha
  obtain ⟨oI, rfl⟩ := map1 hios
  exact step i rest I (D + 1) D oI oC (lst ys) t m₂ h tk E' hi hs hC hm F' N'
theorem SrcG.range_C {r : Addr} {a b : Int} {t u t' : Tok} {n : Nat} {all : Ledger} {s₁ : Shared} (v : Ledger → Nat → Value → Prop) (mono : ∀ l l' i y, Sub l l' → v l i y → v l' i y)
    (hh : A.handled = none) (F : Fr h₀ L s₁.heap m) (N : News h₀ L s₁.heap all) (hr : IsRange s₁.heap r a b 1 t u t') (hsm : Builtin.Range.small a b 1 = true) (hn : Builtin.Range.rangeSize a b 1 = ((n : Nat) : Int)) (hsz : n ≤ sizeLine) (hkind : scope.kind = .function) (hx : scope.names.lookup x = some .cell)
    (step : ∀ (i : Nat) rest (I C D K : Addr) oI oC oD oK t m₂ h tk (E' : Value → Shared → Prop), i < n → Sub all rest → NsObj oC m₂ → oK.data = .cell (some (.int (a + (i : Int)) t)) → Fr h₀ L h m → News h₀ L h ((I, oI) :: (C, oC) :: (D, oD) :: (K, oK) :: rest) →
      wpAny (model prog w) A (eval elt (compEnvC scope ((x, K) :: cl) C env)) (ElemE h₀ L m ((I, oI) :: (C, oC) :: (D, oD) :: (K, oK) :: rest) (fun l y => v l i y) { s₁ with heap := h, toks := tk }) E' { s₁ with heap := h, toks := tk })
    (fin : FinG h₀ L m all n v Q s₁) : SrcK prog w A h₀ L m env (.Name x px) [] elt scope cl (some x) (fun s₂ => FinK h₀ L m s₂ Q) (.ref r) s₁ := by
  refine SrcK.range_C hh F N hr hsm hn hsz hkind hx fun g I D l1 l2 _ => ?_
  refine restG v mono (fun _ _ => trivial) ?_ (finG_K mono (fun p hp => Nat.lt_trans (l1 p hp) l2) fin)
  intro i ys rest hi hs hl ios oC cos m₂ h tk E' ha hios hC F' N'
  obtain ⟨_, oK, ⟨t, rfl⟩, rfl, hd⟩ := ha
  obtain ⟨oI, rfl⟩ := map1 hios
  exact step i rest I (D + 1) D (D + 2) oI oC (lst ys) oK t m₂ h tk E' hi hs hC hd F' N'
theorem srcAt_sub {ax : Addr} {its : Array Value} {k : Nat} {all l : Ledger} (hm : (ax, listOf its k) ∈ all) (h : Sub all l) : SrcAt h₀ ax its l := SrcAt_led (h _ hm)
theorem SrcG.list_L {ax : Addr} {vs : List Value} {c n : Nat} {all : Ledger} {s₁ : Shared} (v : Ledger → Nat → Value → Prop) (mono : ∀ l l' i y, Sub l l' → v l i y → v l' i y)
    (hh : A.handled = none) (F : Fr h₀ L s₁.heap m) (N : News h₀ L s₁.heap all) (hm : (ax, listOf vs.toArray c) ∈ all) (hl : vs.length = n) (hsz : n ≤ sizeLine) (hkind : scope.kind = .function) (hx : scope.names.lookup x = some .local)
    (step : ∀ (i : Nat) rest (I C D : Addr) oI oC oD y m₂ h tk (E' : Value → Shared → Prop), i < n → Sub all rest → NsObj oC m₂ → vs[i]? = some y → m₂ x = some y → Fr h₀ L h m → News h₀ L h ((I, oI) :: (C, oC) :: (D, oD) :: rest) →
      wpAny (model prog w) A (eval elt (compEnvC scope cl C env)) (ElemE h₀ L m ((I, oI) :: (C, oC) :: (D, oD) :: rest) (fun l y => v l i y) { s₁ with heap := h, toks := tk }) E' { s₁ with heap := h, toks := tk })
    (fin : FinG h₀ L m all n v Q s₁) : SrcK prog w A h₀ L m env (.Name x px) [] elt scope cl none (fun s₂ => FinK h₀ L m s₂ Q) (.ref ax) s₁ := by
  subst hl
  refine SrcK.list_L hh F N (SrcAt_led hm) hsz hkind hx fun g I D l1 l2 _ => ?_
  refine restG v mono (fun _ h => srcAt_sub hm h) ?_ (finG_K mono (fun p hp => Nat.lt_trans (l1 p hp) l2) fin)
  intro i ys rest hi hs hl ios oC cos m₂ h tk E' ha hios hC F' N'
  obtain ⟨y, hy, hm, rfl⟩ := ha
  obtain ⟨oI, rfl⟩ := map1 hios
  exact step i rest I (D + 1) D oI oC (lst ys) y m₂ h tk E' hi hs hC (List.getElem?_toArray ▸ hy) hm F' N'
theorem SrcG.list_C {ax : Addr} {vs : List Value} {c n : Nat} {all : Ledger} {s₁ : Shared} (v : Ledger → Nat → Value → Prop) (mono : ∀ l l' i y, Sub l l' → v l i y → v l' i y)
    (hh : A.handled = none) (F : Fr h₀ L s₁.heap m) (N : News h₀ L s₁.heap all) (hm : (ax, listOf vs.toArray c) ∈ all) (hl : vs.length = n) (hsz : n ≤ sizeLine) (hkind : scope.kind = .function) (hx : scope.names.lookup x = some .cell)
    (step : ∀ (i : Nat) rest (I C D K : Addr) oI oC oD oK y m₂ h tk (E' : Value → Shared → Prop), i < n → Sub all rest → NsObj oC m₂ → vs[i]? = some y → oK.data = .cell (some y) → Fr h₀ L h m → News h₀ L h ((I, oI) :: (C, oC) :: (D, oD) :: (K, oK) :: rest) →
      wpAny (model prog w) A (eval elt (compEnvC scope ((x, K) :: cl) C env)) (ElemE h₀ L m ((I, oI) :: (C, oC) :: (D, oD) :: (K, oK) :: rest) (fun l y => v l i y) { s₁ with heap := h, toks := tk }) E' { s₁ with heap := h, toks := tk })
    (fin : FinG h₀ L m all n v Q s₁) : SrcK prog w A h₀ L m env (.Name x px) [] elt scope cl (some x) (fun s₂ => FinK h₀ L m s₂ Q) (.ref ax) s₁ := by
  subst hl
  refine SrcK.list_C hh F N (SrcAt_led hm) hsz hkind hx fun g I D l1 l2 _ => ?_
  refine restG v mono (fun _ h => srcAt_sub hm h) ?_ (finG_K mono (fun p hp => Nat.lt_trans (l1 p hp) l2) fin)
  intro i ys rest hi hs hl ios oC cos m₂ h tk E' ha hios hC F' N'
  obtain ⟨y, oK, hy, rfl, hd⟩ := ha
  obtain ⟨oI, rfl⟩ := map1 hios
  exact step i rest I (D + 1) D (D + 2) oI oC (lst ys) oK y m₂ h tk E' hi hs hC (by simpa using hy) hd F' N'
end src

theorem sub_at {value slice : Expr} {l : Addr} {vs : List Value} {c n : Nat} {k : Int} {i : Nat} {u : Tok} {Q : Value → Shared → Prop} {all : Ledger} (N : News h₀ L s.heap all) (hm : (l, listOf vs.toArray c) ∈ all) (hl : vs.length = n) (hk : k = (i : Int)) (hi : i < n) (hn : n ≤ 1000)
    (hs : subscripted slice false (.ref l) (.int k u) = operate [.ref l, .int k u] (getItem (.ref l) (.int k u))) (h : ∀ x, vs[i]? = some x → Q x s) :
    wpAny (model prog w) A (subscriptTail value slice (.ref l) (.int k u)) Q E s := by
  subst hk
  have e := List.getElem?_eq_getElem (l := vs) (i := i) (by omega)
  exact tail_any (Heap.IsList.typeIs ⟨_, (N _ hm).1, rfl, _, rfl⟩) slot_list_getitem.lookup (wpAny_getItem_list ⟨_, (N _ hm).1, rfl, _, rfl⟩ (by omega) (by omega) (by simpa using e) (h _ e)) hs
theorem len_at {l : Addr} {vs : List Value} {c n : Nat} {Q : Value → Shared → Prop} {all : Ledger} (N : News h₀ L s.heap all) (hm : (l, listOf vs.toArray c) ∈ all) (hl : vs.length = n) (hn : n ≤ 1000)
    (h : ∀ t tk, Q (.int (n : Int) t) { s with toks := tk }) : wpAny (model prog w) A (call (.builtin "len") [.ref l]) Q E s :=
  len_list ⟨_, (N _ hm).1, rfl, _, rfl⟩ (by simp; omega) (by simpa [hl] using h _ _)

theorem range_small {a b : Int} (h : 0 ≤ a ∧ a ≤ 1000 ∧ 0 ≤ b ∧ b ≤ 1000) : Builtin.Range.small a b 1 = true := by
  have hf : ∀ x : Int, 0 ≤ x → x ≤ 1000 → Builtin.Range.rangeFitsLong x = true := by
    intro x h1 h2
    unfold Builtin.Range.rangeFitsLong
    simp only [decide_eq_true_eq, Bool.and_eq_true]
    omega
  have hs : 0 ≤ Builtin.Range.rangeSize a b 1 ∧ Builtin.Range.rangeSize a b 1 ≤ 1000 := by
    unfold Builtin.Range.rangeSize
    simp
    split <;> omega
  unfold Builtin.Range.small
  rw [hf a h.1 h.2.1, hf b h.2.2.1 h.2.2.2, hf 1 (by decide) (by decide), hf _ hs.1 hs.2]
  have e : (b + ((1 : Int) - 1)) = b := by omega
  simp [hf b h.2.2.1 h.2.2.2]
theorem range_size {a b : Int} {n : Nat} (h : b = a + n) : Builtin.Range.rangeSize a b 1 = ((n : Nat) : Int) := by
  unfold Builtin.Range.rangeSize
  simp
  omega

section src2
variable {elt : Expr} {scope : Scope} {cl : List (Str × Addr)} {x : Str} {px : Pos} {Q : Value → Shared → Prop}
theorem SrcG.range0_L {r : Addr} {t u t' : Tok} {n : Nat} {all : Ledger} {s₁ : Shared} (v : Ledger → Nat → Value → Prop) (mono : ∀ l l' i y, Sub l l' → v l i y → v l' i y)
    (hh : A.handled = none) (F : Fr h₀ L s₁.heap m) (N : News h₀ L s₁.heap all) (hr : IsRange s₁.heap r 0 (n : Int) 1 t u t') (hsz : n ≤ 1000) (hkind : scope.kind = .function) (hx : scope.names.lookup x = some .local)
    (step : ∀ (i : Nat) rest (I C D : Addr) oI oC oD t m₂ h tk (E' : Value → Shared → Prop), i < n → Sub all rest → NsObj oC m₂ → m₂ x = some (.int (i : Int) t) → Fr h₀ L h m → News h₀ L h ((I, oI) :: (C, oC) :: (D, oD) :: rest) →
      wpAny (model prog w) A (eval elt (compEnvC scope cl C env)) (ElemE h₀ L m ((I, oI) :: (C, oC) :: (D, oD) :: rest) (fun l y => v l i y) { s₁ with heap := h, toks := tk }) E' { s₁ with heap := h, toks := tk })
    (fin : FinG h₀ L m all n v Q s₁) : SrcK prog w A h₀ L m env (.Name x px) [] elt scope cl none (fun s₂ => FinK h₀ L m s₂ Q) (.ref r) s₁ :=
  SrcG.range_L v mono hh F N hr (range_small (by omega)) (range_size (by omega)) (Nat.le_trans hsz (by decide)) hkind hx (fun i rest I C D oI oC oD t m₂ h tk E' hi hs hC hm => step i rest I C D oI oC oD t m₂ h tk E' hi hs hC (by rw [hm, Int.zero_add])) fin
theorem SrcG.range0_C {r : Addr} {t u t' : Tok} {n : Nat} {all : Ledger} {s₁ : Shared} (v : Ledger → Nat → Value → Prop) (mono : ∀ l l' i y, Sub l l' → v l i y → v l' i y)
    (hh : A.handled = none) (F : Fr h₀ L s₁.heap m) (N : News h₀ L s₁.heap all) (hr : IsRange s₁.heap r 0 (n : Int) 1 t u t') (hsz : n ≤ 1000) (hkind : scope.kind = .function) (hx : scope.names.lookup x = some .cell)
    (step : ∀ (i : Nat) rest (I C D K : Addr) oI oC oD oK t m₂ h tk (E' : Value → Shared → Prop), i < n → Sub all rest → NsObj oC m₂ → oK.data = .cell (some (.int (i : Int) t)) → Fr h₀ L h m → News h₀ L h ((I, oI) :: (C, oC) :: (D, oD) :: (K, oK) :: rest) →
      wpAny (model prog w) A (eval elt (compEnvC scope ((x, K) :: cl) C env)) (ElemE h₀ L m ((I, oI) :: (C, oC) :: (D, oD) :: (K, oK) :: rest) (fun l y => v l i y) { s₁ with heap := h, toks := tk }) E' { s₁ with heap := h, toks := tk })
    (fin : FinG h₀ L m all n v Q s₁) : SrcK prog w A h₀ L m env (.Name x px) [] elt scope cl (some x) (fun s₂ => FinK h₀ L m s₂ Q) (.ref r) s₁ :=
  SrcG.range_C v mono hh F N hr (range_small (by omega)) (range_size (by omega)) (Nat.le_trans hsz (by decide)) hkind hx (fun i rest I C D K oI oC oD oK t m₂ h tk E' hi hs hC hd => step i rest I C D K oI oC oD oK t m₂ h tk E' hi hs hC (by rw [hd, Int.zero_add])) fin
theorem SrcG.at_L {ax : Addr} {n : Nat} {l₀ all : Ledger} {s₁ : Shared} {q : Nat → Value → Prop} (v : Ledger → Nat → Value → Prop) (mono : ∀ l l' i y, Sub l l' → v l i y → v l' i y)
    (hh : A.handled = none) (F : Fr h₀ L s₁.heap m) (N : News h₀ L s₁.heap all) (hM : ListAt l₀ ax n q) (hs₀ : Sub l₀ all) (hsz : n ≤ 1000) (hkind : scope.kind = .function) (hx : scope.names.lookup x = some .local)
    (step : ∀ (i : Nat) rest (I C D : Addr) oI oC oD y m₂ h tk (E' : Value → Shared → Prop), i < n → Sub all rest → NsObj oC m₂ → q i y → m₂ x = some y → Fr h₀ L h m → News h₀ L h ((I, oI) :: (C, oC) :: (D, oD) :: rest) →
      wpAny (model prog w) A (eval elt (compEnvC scope cl C env)) (ElemE h₀ L m ((I, oI) :: (C, oC) :: (D, oD) :: rest) (fun l y => v l i y) { s₁ with heap := h, toks := tk }) E' { s₁ with heap := h, toks := tk })
    (fin : FinG h₀ L m all n v Q s₁) : SrcK prog w A h₀ L m env (.Name x px) [] elt scope cl none (fun s₂ => FinK h₀ L m s₂ Q) (.ref ax) s₁ := by
  obtain ⟨vs, c, hm, hl, hv⟩ := hM
  exact SrcG.list_L v mono hh F N (hs₀ _ hm) hl (Nat.le_trans hsz (by decide)) hkind hx (fun i rest I C D oI oC oD y m₂ h tk E' hi hs hC hy => step i rest I C D oI oC oD y m₂ h tk E' hi hs hC (hv i y hy)) fin
theorem SrcG.at_C {ax : Addr} {n : Nat} {l₀ all : Ledger} {s₁ : Shared} {q : Nat → Value → Prop} (v : Ledger → Nat → Value → Prop) (mono : ∀ l l' i y, Sub l l' → v l i y → v l' i y)
    (hh : A.handled = none) (F : Fr h₀ L s₁.heap m) (N : News h₀ L s₁.heap all) (hM : ListAt l₀ ax n q) (hs₀ : Sub l₀ all) (hsz : n ≤ 1000) (hkind : scope.kind = .function) (hx : scope.names.lookup x = some .cell)
    (step : ∀ (i : Nat) rest (I C D K : Addr) oI oC oD oK y m₂ h tk (E' : Value → Shared → Prop), i < n → Sub all rest → NsObj oC m₂ → q i y → oK.data = .cell (some y) → Fr h₀ L h m → News h₀ L h ((I, oI) :: (C, oC) :: (D, oD) :: (K, oK) :: rest) →
      wpAny (model prog w) A (eval elt (compEnvC scope ((x, K) :: cl) C env)) (ElemE h₀ L m ((I, oI) :: (C, oC) :: (D, oD) :: (K, oK) :: rest) (fun l y => v l i y) { s₁ with heap := h, toks := tk }) E' { s₁ with heap := h, toks := tk })
    (fin : FinG h₀ L m all n v Q s₁) : SrcK prog w A h₀ L m env (.Name x px) [] elt scope cl (some x) (fun s₂ => FinK h₀ L m s₂ Q) (.ref ax) s₁ := by
  obtain ⟨vs, c, hm, hl, hv⟩ := hM
  exact SrcG.list_C v mono hh F N (hs₀ _ hm) hl (Nat.le_trans hsz (by decide)) hkind hx (fun i rest I C D K oI oC oD oK y m₂ h tk E' hi hs hC hy => step i rest I C D K oI oC oD oK y m₂ h tk E' hi hs hC (hv i y hy)) fin
end src2

section acc
variable {value slice : Expr} {a : Addr} {n : Nat} {u : Tok} {Q : Value → Shared → Prop} {all led : Ledger}
theorem at_sub {q : Nat → Value → Prop} {i : Nat} (N : News h₀ L s.heap led) (hM : ListAt all a n q) (hs : Sub all led) (hi : i < n) (hn : n ≤ 1000)
    (hg : subscripted slice false (.ref a) (.int (i : Int) u) = operate [.ref a, .int (i : Int) u] (getItem (.ref a) (.int (i : Int) u))) (h : ∀ x, q i x → Q x s) :
    wpAny (model prog w) A (subscriptTail value slice (.ref a) (.int (i : Int) u)) Q E s := by
  obtain ⟨vs, c, hm, hl, hv⟩ := hM
  exact sub_at N (hs _ hm) hl rfl hi hn hg fun x e => h x (hv i x e)
theorem mat_row {f : Nat → Nat → Int} {i : Nat} (N : News h₀ L s.heap led) (hM : MatAt all a n f) (hs : Sub all led) (hi : i < n) (hn : n ≤ 1000)
    (hg : subscripted slice false (.ref a) (.int (i : Int) u) = operate [.ref a, .int (i : Int) u] (getItem (.ref a) (.int (i : Int) u))) (h : ∀ r, IntRow all r n (f i) → Q (.ref r) s) :
    wpAny (model prog w) A (subscriptTail value slice (.ref a) (.int (i : Int) u)) Q E s :=
  at_sub N hM hs hi hn hg fun x ⟨r, e, hr⟩ => e ▸ h r hr
theorem row_int {f : Nat → Int} {i : Nat} (N : News h₀ L s.heap led) (hM : IntRow all a n f) (hs : Sub all led) (hi : i < n) (hn : n ≤ 1000)
    (hg : subscripted slice false (.ref a) (.int (i : Int) u) = operate [.ref a, .int (i : Int) u] (getItem (.ref a) (.int (i : Int) u))) (h : ∀ t, Q (.int (f i) t) s) :
    wpAny (model prog w) A (subscriptTail value slice (.ref a) (.int (i : Int) u)) Q E s :=
  at_sub N hM hs hi hn hg fun x ⟨t, e⟩ => e ▸ h t
theorem at_len {q : Nat → Value → Prop} (N : News h₀ L s.heap led) (hM : ListAt all a n q) (hs : Sub all led) (hn : n ≤ 1000)
    (h : ∀ t tk, Q (.int (n : Int) t) { s with toks := tk }) : wpAny (model prog w) A (call (.builtin "len") [.ref a]) Q E s := by
  obtain ⟨vs, c, hm, hl, hv⟩ := hM
  exact len_at N (hs _ hm) hl hn h
theorem mat_len {f : Nat → Nat → Int} (N : News h₀ L s.heap led) (hM : MatAt all a n f) (hs : Sub all led) (hn : n ≤ 1000)
    (h : ∀ t tk, Q (.int (n : Int) t) { s with toks := tk }) : wpAny (model prog w) A (call (.builtin "len") [.ref a]) Q E s := at_len N hM hs hn h
theorem row_len {f : Nat → Int} (N : News h₀ L s.heap led) (hM : IntRow all a n f) (hs : Sub all led) (hn : n ≤ 1000)
    (h : ∀ t tk, Q (.int (n : Int) t) { s with toks := tk }) : wpAny (model prog w) A (call (.builtin "len") [.ref a]) Q E s := at_len N hM hs hn h
end acc

theorem UnrEnd.mono {I : Addr} {it : Obj} {rest rest' : (Str → Option Value) → Ledger → Prop} {s₁ s₂ : Shared} (h : UnrEnd h₀ L s₁ I it rest s₂) (k : ∀ m l, rest m l → rest' m l) : UnrEnd h₀ L s₁ I it rest' s₂ := by
  obtain ⟨h', tk, m', news', e, F, N, O, r⟩ := h
  exact ⟨h', tk, m', news', e, F, N, O, k _ _ r⟩
theorem UnrPost.mono {I : Addr} {it : Obj} {rest rest' : (Str → Option Value) → Ledger → Prop} {Q : Flow → Shared → Prop} {f : Flow} {s₁ s₂ : Shared} (h : UnrPost h₀ L s₁ I it rest Q f s₂) (k : ∀ m l, rest m l → rest' m l) : UnrPost h₀ L s₁ I it rest' Q f s₂ := by
  cases f with
  | ret v => exact h
  | brk => exact h
  | next => exact UnrEnd.mono h k
  | cont => exact UnrEnd.mono h k
theorem RangeRest.inv {x : Str} {body : List Stmt} {Q : Flow → Shared → Prop} {I : Addr} {a : Int} {n : Nat} (Inv : Nat → (Str → Option Value) → Ledger → Prop)
    (step : ∀ i m news, i < n → Inv i m news → ∀ t h tk, Fr h₀ env.locals h (fun y => if y = x then some (.int (a + (i : Int)) t) else m y) → News h₀ env.locals h ((I, itR (a + ((i + 1 : Nat) : Int)) ((n : Int) - ((i + 1 : Nat) : Int))) :: news) →
      wpAny (model prog w) A (execs body env) (UnrPost h₀ env.locals { s with heap := h, toks := tk } I (itR (a + ((i + 1 : Nat) : Int)) ((n : Int) - ((i + 1 : Nat) : Int))) (Inv (i + 1)) Q) E { s with heap := h, toks := tk })
    (fin : ∀ m news, Inv n m news → ∀ h tk, Fr h₀ env.locals h m → News h₀ env.locals h news → Q .next { s with heap := h, toks := tk }) :
    ∀ k i m news, i + k = n → Inv i m news → RangeRest prog w A E h₀ env x body Q s I a n k i m news := by
  intro k
  induction k with
  | zero => intro i m news e h; exact RangeRest.zero (fin m news ((show i = n from e) ▸ h))
  | succ k ih =>
    intro i m news e h
    refine RangeRest.succ fun t g tk F N => ?_
    exact wpAny_mono (step i m news (by omega) h t g tk F N) (fun f s₂ p => UnrPost.mono p fun m l hI => ih (i + 1) m l (by omega) hI) fun _ _ e => e
end
end Mine
end
section
open PySem PySem.Spec PySem.Calls PySem.W PyProof.Rows PyProof.Rows.LCg
namespace Mine
def Stopped (P : Prop) : Prop := P
theorem stopK {P : Prop} (h : Stopped P) : P := h
theorem closeG {Q : Value → Shared → Prop} {post : Value → Ledger → Ledger → Prop} {h₀ h' : Heap} {L : Addr} {m : Str → Option Value} {s : Shared} {all new led : Ledger} {r : Value} {tk' : Nat}
    (ret : ∀ r new sub' h' tk', post r new sub' → Fr h₀ L h' m → News h₀ L h' (new ++ sub') → Ends all s.heap h' new → Q r { s with heap := h', toks := tk' })
    (kF : Fr h₀ L h' m) (kN : News h₀ L h' (new ++ led)) (kE : ∀ x, (∀ p ∈ x, p ∈ new ++ led) → Apart x all → Ends all s.heap h' x) (ap : Apart new led) (hs : Sub all led) (hp : post r new all) : Q r { s with heap := h', toks := tk' } :=
  ret r new all h' tk' hp kF (fun p hm => by
    rcases List.mem_append.mp hm with hm | hm
    · exact kN p (List.mem_append_left _ hm)
    · exact kN p (List.mem_append_right _ (hs p hm))) (kE new (fun p hp => List.mem_append_left _ hp) (fun p hp q hq => ap p hp q (hs q hq)))
theorem closeN {Q : Value → Shared → Prop} {post : Value → Ledger → Ledger → Prop} {h₀ h' : Heap} {L : Addr} {m : Str → Option Value} {s : Shared} {all led : Ledger} {r : Value} {tk' : Nat}
    (ret : ∀ r new sub' h' tk', post r new sub' → Fr h₀ L h' m → News h₀ L h' (new ++ sub') → Ends all s.heap h' new → Q r { s with heap := h', toks := tk' })
    (kF : Fr h₀ L h' m) (kN : News h₀ L h' led) (kE : ∀ x, (∀ p ∈ x, p ∈ led) → Apart x all → Ends all s.heap h' x) (hs : Sub all led) (hp : post r [] all) : Q r { s with heap := h', toks := tk' } :=
  ret r [] all h' tk' hp kF (fun p hm => kN p (hs p hm)) (kE [] (fun p hp => nomatch hp) apart_nil)
theorem closeU {Q : Value → Shared → Prop} {post : Value → Ledger → Ledger → Prop} {h₀ h' : Heap} {L : Addr} {m : Str → Option Value} {s : Shared} {sub sub' led : Ledger} {r : Value} {tk' : Nat}
    (ret : ∀ r new sub' h' tk', post r new sub' → Fr h₀ L h' m → News h₀ L h' (new ++ sub') → Ends sub s.heap h' new → Q r { s with heap := h', toks := tk' })
    (kF : Fr h₀ L h' m) (kN : News h₀ L h' led) (kE : ∀ x, (∀ p ∈ x, p ∈ led) → Apart x sub → Ends sub s.heap h' x) (hs : Sub sub' led) (hp : post r [] sub') : Q r { s with heap := h', toks := tk' } :=
  ret r [] sub' h' tk' hp kF (fun p hm => kN p (hs p hm)) (kE [] (fun p hp => nomatch hp) apart_nil)
def sumN (n : Nat) (g : Nat → Int) : Int := ((List.range n).map g).sum
def timesF (n : Nat) (f g : Nat → Nat → Int) : Nat → Nat → Int := fun i j => sumN n fun k => f i k * g k j
def Bd (k n : Nat) (f : Nat → Nat → Int) : Prop := ∀ i j, i < n → j < n → Sm k (f i j)
theorem intsAre_map : ∀ {vs : List Value} {g : Nat → Int}, (∀ i x, vs[i]? = some x → IntV (g i) x) → IntsAre vs ((List.range vs.length).map g) := by
  intro vs
  induction vs with
  | nil => intro g _; exact .nil
  | cons v r ih =>
    intro g h
    obtain ⟨t, rfl⟩ := h 0 v rfl
    rw [List.length_cons, List.range_succ_eq_map, List.map_cons, List.map_map]
    exact .cons _ _ (ih fun i x e => h (i + 1) x e)
section
variable {prog : Program} {w : World} {A : Around} {E : Value → Shared → Prop} {s : Shared} {h₀ : Heap} {L : Addr} {m : Str → Option Value}
theorem sum_row {a : Addr} {n : Nat} {g : Nat → Int} {Q : Value → Shared → Prop} {all led : Ledger} (F : Fr h₀ L s.heap m) (N : News h₀ L s.heap led) (hh : A.handled = none) (hR : IntRow all a n g) (hs : Sub all led)
    (h : ∀ h' tk t, Fr h₀ L h' m → News h₀ L h' led → Q (.int (sumN n g) t) { s with heap := h', toks := tk }) : wpAny (model prog w) A (call (.builtin "sum") [.ref a]) Q E s := by
  obtain ⟨vs, c, hm, hl, hv⟩ := hR
  have hi := intsAre_map hv
  rw [hl] at hi
  exact LSm.sum_ints F N hh ⟨_, (N _ (hs _ hm)).1, rfl, _, rfl⟩ hi h
end
end Mine
end
section
open PySem PySem.Spec PySem.Calls PySem.W PyProof.Rows PyProof.Rows.LCg
namespace Mine
def skip (p i : Nat) : Nat := if i < p then i else i + 1
section
variable {prog : Program} {w : World} {A : Around} {E : Value → Shared → Prop} {s : Shared} {h₀ : Heap} {L : Addr} {m : Str → Option Value} {env : Env}

theorem own_offs {ios cos : Ledger} {C D : Addr} {oC oD : Obj} {new rest : Ledger} (ap : Apart new (ios ++ (C, oC) :: (D, oD) :: (cos ++ rest))) (O : Offs (ios.map (·.1) ++ C :: D :: cos.map (·.1)) rest) : Offs (ios.map (·.1) ++ C :: D :: cos.map (·.1)) (new ++ rest) := by
  refine offs_append (offs_of (all := ios ++ (C, oC) :: (D, oD) :: (cos ++ rest)) (fun b hb => ?_) ap) O
  rcases List.mem_append.mp hb with hb | hb
  · obtain ⟨p, hp, rfl⟩ := List.mem_map.mp hb
    exact ⟨p.2, List.mem_append_left _ hp⟩
  · rcases List.mem_cons.mp hb with rfl | hb
    · exact ⟨oC, List.mem_append_right _ (List.mem_cons_self ..)⟩
    · rcases List.mem_cons.mp hb with rfl | hb
      · exact ⟨oD, List.mem_append_right _ (List.mem_cons_of_mem _ (List.mem_cons_self ..))⟩
      · obtain ⟨p, hp, rfl⟩ := List.mem_map.mp hb
        exact ⟨p.2, List.mem_append_right _ (List.mem_cons_of_mem _ (List.mem_cons_of_mem _ (List.mem_append_left _ hp)))⟩
theorem own_rest {ios cos : Ledger} {C D : Addr} {oC oD : Obj} {rest : Ledger} : Sub rest (ios ++ (C, oC) :: (D, oD) :: (cos ++ rest)) := fun _ hq => List.mem_append_right _ (List.mem_cons_of_mem _ (List.mem_cons_of_mem _ (List.mem_append_right _ hq)))

theorem endK_of_elem {ios cos : Ledger} {C D : Addr} {oC oD : Obj} {S : Ledger → Prop} {pre news₀ : Ledger} {v : Ledger → Value → Prop} {rest : Value → Ledger → Prop} {y : Value} {s₁ s₂ : Shared} (ap₀ : Apart pre news₀) (O : Offs (ios.map (·.1) ++ C :: D :: cos.map (·.1)) (pre ++ news₀)) (hS : ∀ l, Sub news₀ l → S l)
    (he : ElemE h₀ L m (ios ++ (C, oC) :: (D, oD) :: (cos ++ (pre ++ news₀))) v s₁ y s₂) (k : ∀ new, v new y → Apart (new ++ pre) news₀ → rest y ((new ++ pre) ++ news₀)) : EndK h₀ L m s₁ ios C oC D oD cos S rest y s₂ := by
  obtain ⟨h', tk', new, rfl, F', N', ap', hy⟩ := he
  refine EndK.pre new (pre ++ news₀) F' N' rfl (own_offs ap' O) (hS _ (Sub.app (Sub.app Sub.refl))) ?_
  rw [← List.append_assoc]
  refine k new hy fun p hp q hq => ?_
  rcases List.mem_append.mp hp with hp | hp
  · exact ap' p hp q (own_rest _ (List.mem_append_right _ hq))
  · exact ap₀ p hp q hq

theorem restF {cenv : Env} {elt ct : Expr} {iad : List Addr} {C D : Addr} {S : Ledger → Prop} {asg : Nat → (Str → Option Value) → Ledger → Prop} {Fin : List Value → Ledger → Prop} {n p : Nat} (hp : p < n) {news₀ : Ledger} (v : Ledger → Nat → Value → Prop)
    (mono : ∀ l l' i y, Sub l l' → v l i y → v l' i y) (hS : ∀ l, Sub news₀ l → S l)
    (step : ∀ i (ys : List Value) rest, i < n → Sub news₀ rest → ∀ ios oC cos m₂ h tk (E' : Value → Shared → Prop), asg i m₂ cos → ios.map (·.1) = iad → NsObj oC m₂ → Fr h₀ L h m → News h₀ L h (ios ++ (C, oC) :: (D, lst ys) :: (cos ++ rest)) →
      wpAny (model prog w) A (isTrue ct cenv (eval ct cenv)) (fun ok s' => if ok = true then wpAny (model prog w) A (eval elt cenv) (ElemE h₀ L m (ios ++ (C, oC) :: (D, lst ys) :: (cos ++ rest)) (fun l y => i ≠ p ∧ v l i y) { s with heap := h, toks := tk }) E' s'
        else ElemE h₀ L m (ios ++ (C, oC) :: (D, lst ys) :: (cos ++ rest)) (fun _ _ => i = p) { s with heap := h, toks := tk } .none s') E' { s with heap := h, toks := tk })
    (fin : ∀ (ys : List Value) new, Apart new news₀ → ys.length = n - 1 → (∀ j x, ys[j]? = some x → v new (skip p j) x) → Fin ys (new ++ news₀)) :
    RestK prog w A h₀ L m cenv [ct] elt iad C D s S asg Fin n 0 [] news₀ := by
  refine RestK.inv (fun i ys news => ∃ pre, news = pre ++ news₀ ∧ Apart pre news₀ ∧ ys.length = (if i ≤ p then i else i - 1) ∧ ∀ j x, ys[j]? = some x → v pre (skip p j) x) ?_ ?_ n 0 [] news₀ (Nat.zero_add n) ⟨[], rfl, apart_nil, by simp, fun j x e => by simp at e⟩
  · rintro i ys _ hi ⟨pre, rfl, ap, hl, hv⟩ ios oC cos m₂ h tk E' ha hios hC F N O
    refine wpAny_mono (step i ys (pre ++ news₀) hi (Sub.app Sub.refl) ios oC cos m₂ h tk E' ha hios hC F N) (fun ok s₁ hok => ?_) fun _ _ e => e
    by_cases ho : ok = true
    · rw [if_pos ho] at hok ⊢
      refine wpAny_mono hok (fun y s₂ he => ?_) fun _ _ e => e
      refine endK_of_elem ap O hS he fun new ⟨hne, hy⟩ ap' => ⟨new ++ pre, rfl, ap', ?_, ?_⟩
      · rw [List.length_append, hl]
        simp only [List.length_cons, List.length_nil]
        split <;> split <;> omega
      · intro j x e
        by_cases hj : j < ys.length
        · rw [List.getElem?_append_left hj] at e
          exact mono _ _ _ _ (Sub.app Sub.refl) (hv j x e)
        · rw [List.getElem?_append_right (by omega)] at e
          have hj' : j = ys.length := by
            cases q : j - ys.length with
            | zero => omega
            | succ k => rw [q] at e; simp at e
          subst hj'
          rw [Nat.sub_self] at e
          have e' : y = x := by simpa using e
          have e2 : skip p ys.length = i := by
            unfold skip
            by_cases hip : i ≤ p
            · rw [hl, if_pos hip, if_pos (by omega)]
            · rw [hl, if_neg hip, if_neg (by omega)]; omega
          rw [e2]
          exact e' ▸ mono _ _ _ _ (fun p hp => List.mem_append_left _ hp) hy
    · rw [if_neg ho] at hok ⊢
      refine endK_of_elem ap O hS hok fun new hip ap' => ⟨new ++ pre, rfl, ap', ?_, fun j x e => mono _ _ _ _ (Sub.app Sub.refl) (hv j x e)⟩
      rw [hl]; split <;> split <;> omega
  · rintro ys _ ⟨pre, rfl, ap, hl, hv⟩
    exact fin ys pre ap (by rw [hl]; split <;> omega) hv

section src
variable {elt ct : Expr} {scope : Scope} {cl : List (Str × Addr)} {a b : Str} {pa pb tp : Pos} {kk : Nat} {Q : Value → Shared → Prop}
theorem SrcF.enum_LL {l : Addr} {n p : Nat} {l₀ all : Ledger} {s₁ : Shared} {q : Nat → Value → Prop} (v : Ledger → Nat → Value → Prop) (mono : ∀ l l' i y, Sub l l' → v l i y → v l' i y) (hp : p < n)
    (hh : A.handled = none) (F : Fr h₀ L s₁.heap m) (N : News h₀ L s₁.heap all) (hM : ListAt l₀ l n q) (hs₀ : Sub l₀ all) (hsz : n ≤ 1000) (hkind : scope.kind = .function) (ha : scope.names.lookup a = some .local) (hb : scope.names.lookup b = some .local) (hab : a ≠ b)
    (step : ∀ (i : Nat) rest (I J C D : Addr) oI oJ oC oD t y m₂ h tk (E' : Value → Shared → Prop), i < n → Sub all rest → NsObj oC m₂ → q i y → m₂ a = some (.int (i : Int) t) → m₂ b = some y → Fr h₀ L h m → News h₀ L h ((I, oI) :: (J, oJ) :: (C, oC) :: (D, oD) :: rest) →
      wpAny (model prog w) A (isTrue ct (compEnvC scope cl C env) (eval ct (compEnvC scope cl C env))) (fun ok s' => if ok = true then wpAny (model prog w) A (eval elt (compEnvC scope cl C env)) (ElemE h₀ L m ((I, oI) :: (J, oJ) :: (C, oC) :: (D, oD) :: rest) (fun l y => i ≠ p ∧ v l i y) { s₁ with heap := h, toks := tk }) E' s'
        else ElemE h₀ L m ((I, oI) :: (J, oJ) :: (C, oC) :: (D, oD) :: rest) (fun _ _ => i = p) { s₁ with heap := h, toks := tk } .none s') E' { s₁ with heap := h, toks := tk })
    (fin : FinG h₀ L m all (n - 1) (fun l j y => v l (skip p j) y) Q s₁) : wpAny (model prog w) A (call (.type "enumerate") [.ref l]) (SrcK prog w A h₀ L m env (.Tuple [.Name a pa, .Name b pb] kk tp) [ct] elt scope cl none (fun s₂ => FinK h₀ L m s₂ Q)) E s₁ := by
  obtain ⟨vs, c, hm, hl, hv⟩ := hM
  subst hl
  refine SrcK.enum_LL hh F N (SrcAt_led (hs₀ _ hm)) (Nat.le_trans (by simpa using hsz) (show 1000 ≤ sizeLine by decide)) hkind ha hb hab fun g I D l1 l2 _ => ?_
  refine restF (n := vs.length) hp v mono (fun _ h => srcAt_sub (hs₀ _ hm) h) ?_ (finG_K (fun l l' i y hs h => mono l l' _ y hs h) (fun p hp => Nat.lt_trans (l1 p hp) (Nat.lt_of_succ_lt l2)) fin)
  intro i ys rest hi hs ios oC cos m₂ h tk E' ha hios hC F' N'
  obtain ⟨t, y, hy, hma, hmb, rfl⟩ := ha
  obtain ⟨oe, oi, rfl⟩ := map2 hios
  exact step i rest _ _ (D + 1) D oe oi oC (lst ys) t y m₂ h tk E' hi hs hC (hv i y (List.getElem?_toArray ▸ hy)) hma hmb F' N'
theorem SrcG.enum_LL {l : Addr} {n : Nat} {l₀ all : Ledger} {s₁ : Shared} {q : Nat → Value → Prop} (v : Ledger → Nat → Value → Prop) (mono : ∀ l l' i y, Sub l l' → v l i y → v l' i y)
    (hh : A.handled = none) (F : Fr h₀ L s₁.heap m) (N : News h₀ L s₁.heap all) (hM : ListAt l₀ l n q) (hs₀ : Sub l₀ all) (hsz : n ≤ 1000) (hkind : scope.kind = .function) (ha : scope.names.lookup a = some .local) (hb : scope.names.lookup b = some .local) (hab : a ≠ b)
    (step : ∀ (i : Nat) rest (I J C D : Addr) oI oJ oC oD t y m₂ h tk (E' : Value → Shared → Prop), i < n → Sub all rest → NsObj oC m₂ → q i y → m₂ a = some (.int (i : Int) t) → m₂ b = some y → Fr h₀ L h m → News h₀ L h ((I, oI) :: (J, oJ) :: (C, oC) :: (D, oD) :: rest) →
      wpAny (model prog w) A (eval elt (compEnvC scope cl C env)) (ElemE h₀ L m ((I, oI) :: (J, oJ) :: (C, oC) :: (D, oD) :: rest) (fun l y => v l i y) { s₁ with heap := h, toks := tk }) E' { s₁ with heap := h, toks := tk })
    (fin : FinG h₀ L m all n v Q s₁) : wpAny (model prog w) A (call (.type "enumerate") [.ref l]) (SrcK prog w A h₀ L m env (.Tuple [.Name a pa, .Name b pb] kk tp) [] elt scope cl none (fun s₂ => FinK h₀ L m s₂ Q)) E s₁ := by
  obtain ⟨vs, c, hm, hl, hv⟩ := hM
  subst hl
  refine SrcK.enum_LL hh F N (SrcAt_led (hs₀ _ hm)) (Nat.le_trans (by simpa using hsz) (show 1000 ≤ sizeLine by decide)) hkind ha hb hab fun g I D l1 l2 _ => ?_
  refine restG (n := vs.length) v mono (fun _ h => srcAt_sub (hs₀ _ hm) h) ?_ (finG_K mono (fun p hp => Nat.lt_trans (l1 p hp) (Nat.lt_of_succ_lt l2)) fin)
  intro i ys rest hi hs _ ios oC cos m₂ h tk E' ha hios hC F' N'
  obtain ⟨t, y, hy, hma, hmb, rfl⟩ := ha
  obtain ⟨oe, oi, rfl⟩ := map2 hios
  exact step i rest _ _ (D + 1) D oe oi oC (lst ys) t y m₂ h tk E' hi hs hC (hv i y (List.getElem?_toArray ▸ hy)) hma hmb F' N'
theorem SrcG.enum_CL {l : Addr} {n : Nat} {l₀ all : Ledger} {s₁ : Shared} {q : Nat → Value → Prop} (v : Ledger → Nat → Value → Prop) (mono : ∀ l l' i y, Sub l l' → v l i y → v l' i y)
    (hh : A.handled = none) (F : Fr h₀ L s₁.heap m) (N : News h₀ L s₁.heap all) (hM : ListAt l₀ l n q) (hs₀ : Sub l₀ all) (hsz : n ≤ 1000) (hkind : scope.kind = .function) (ha : scope.names.lookup a = some .cell) (hb : scope.names.lookup b = some .local) (hab : a ≠ b)
    (step : ∀ (i : Nat) rest (I J C D K : Addr) oI oJ oC oD oK t y m₂ h tk (E' : Value → Shared → Prop), i < n → Sub all rest → NsObj oC m₂ → q i y → oK.data = .cell (some (.int (i : Int) t)) → m₂ b = some y → Fr h₀ L h m → News h₀ L h ((I, oI) :: (J, oJ) :: (C, oC) :: (D, oD) :: (K, oK) :: rest) →
      wpAny (model prog w) A (eval elt (compEnvC scope ((a, K) :: cl) C env)) (ElemE h₀ L m ((I, oI) :: (J, oJ) :: (C, oC) :: (D, oD) :: (K, oK) :: rest) (fun l y => v l i y) { s₁ with heap := h, toks := tk }) E' { s₁ with heap := h, toks := tk })
    (fin : FinG h₀ L m all n v Q s₁) : wpAny (model prog w) A (call (.type "enumerate") [.ref l]) (SrcK prog w A h₀ L m env (.Tuple [.Name a pa, .Name b pb] kk tp) [] elt scope cl (some a) (fun s₂ => FinK h₀ L m s₂ Q)) E s₁ := by
  obtain ⟨vs, c, hm, hl, hv⟩ := hM
  subst hl
  refine SrcK.enum_CL hh F N (SrcAt_led (hs₀ _ hm)) (Nat.le_trans (by simpa using hsz) (show 1000 ≤ sizeLine by decide)) hkind ha hb hab fun g I D l1 l2 _ => ?_
  refine restG (n := vs.length) v mono (fun _ h => srcAt_sub (hs₀ _ hm) h) ?_ (finG_K mono (fun p hp => Nat.lt_trans (l1 p hp) (Nat.lt_of_succ_lt l2)) fin)
  intro i ys rest hi hs _ ios oC cos m₂ h tk E' ha hios hC F' N'
  obtain ⟨t, y, oK, hy, hmb, rfl, hd⟩ := ha
  obtain ⟨oe, oi, rfl⟩ := map2 hios
  exact step i rest _ _ (D + 1) D (D + 2) oe oi oC (lst ys) oK t y m₂ h tk E' hi hs hC (hv i y (List.getElem?_toArray ▸ hy)) hd hmb F' N'
end src

theorem RangeRest.invX {x : Str} {body : List Stmt} {Q : Flow → Shared → Prop} {I : Addr} {a : Int} {n : Nat} (Inv : Nat → (Str → Option Value) → Ledger → Prop) {m₀ : Str → Option Value} {news₀ : Ledger} (h0 : Inv 0 m₀ news₀)
    (step : ∀ i m₁ news, i < n → Inv i m₁ news → ∀ t h tk, Fr h₀ env.locals h (fun y => if y = x then some (.int (a + (i : Int)) t) else m₁ y) → News h₀ env.locals h ((I, itR (a + ((i + 1 : Nat) : Int)) ((n : Int) - ((i + 1 : Nat) : Int))) :: news) →
      wpAny (model prog w) A (execs body env) (UnrPost h₀ env.locals { s with heap := h, toks := tk } I (itR (a + ((i + 1 : Nat) : Int)) ((n : Int) - ((i + 1 : Nat) : Int))) (fun m' news' => ∃ v m₁, m' = (fun y => if y = x then v else m₁ y) ∧ Inv (i + 1) m₁ news') Q) E { s with heap := h, toks := tk })
    (fin : ∀ v m₁ news, Inv n m₁ news → ∀ h tk, Fr h₀ env.locals h (fun y => if y = x then v else m₁ y) → News h₀ env.locals h news → Q .next { s with heap := h, toks := tk }) :
    RangeRest prog w A E h₀ env x body Q s I a n n 0 m₀ news₀ := by
  refine RangeRest.inv (fun i m news => ∃ v m₁, m = (fun y => if y = x then v else m₁ y) ∧ Inv i m₁ news) ?_ ?_ n 0 m₀ news₀ (Nat.zero_add n) ⟨m₀ x, m₀, ?_, h0⟩
  · rintro i m news hi ⟨v, m₁, rfl, hI⟩ t h tk F N
    refine step i m₁ news hi hI t h tk ?_ N
    have e : (fun y => if y = x then some (Value.int (a + (i : Int)) t) else if y = x then v else m₁ y) = (fun y => if y = x then some (Value.int (a + (i : Int)) t) else m₁ y) := by
      funext y
      by_cases hy : y = x
      · simp [hy]
      · simp [hy]
    exact e ▸ F
  · rintro m news ⟨v, m₁, rfl, hI⟩ h tk F N
    exact fin v m₁ news hI h tk F N
  · funext y
    by_cases hy : y = x
    · simp [hy]
    · simp [hy]
theorem unrEnd_of {I : Addr} {it : Obj} {rest : (Str → Option Value) → Ledger → Prop} {s₁ : Shared} {h' : Heap} {tk : Nat} {m' : Str → Option Value} {news : Ledger} (F : Fr h₀ L h' m') (N : News h₀ L h' ((I, it) :: news)) (off : ∀ p ∈ news, p.1 ≠ I) (r : rest m' news) :
    UnrEnd h₀ L s₁ I it rest { s₁ with heap := h', toks := tk } := UnrEnd.intro F N news (fun _ h => h) off r
end
end Mine
end
section
open PySem PySem.Spec PySem.Calls PySem.W PyProof.Rows PyProof.Rows.LCg
namespace Mine
def keys (l : Ledger) : List Addr := l.map (·.1)
theorem key_of {l : Ledger} {p : Addr × Obj} (h : p ∈ l) : p.1 ∈ keys l := List.mem_map_of_mem h
def updL (led : Ledger) (r : Addr) (o : Obj) : Ledger := led.map fun p => if p.1 = r then (r, o) else p
theorem keys_upd {l : Ledger} {r : Addr} {o : Obj} : keys (updL l r o) = keys l := by
  unfold keys updL
  rw [List.map_map]
  refine List.map_congr_left fun p _ => ?_
  show (if p.1 = r then (r, o) else p).1 = p.1
  split
  · rename_i h; exact h.symm
  · rfl
theorem upd_off {l : Ledger} {r : Addr} {o : Obj} {p : Addr × Obj} (h : p ∈ l) (hn : p.1 ≠ r) : p ∈ updL l r o := List.mem_map.mpr ⟨p, h, by rw [if_neg hn]⟩
theorem upd_at {l : Ledger} {r : Addr} {o o' : Obj} (h : (r, o') ∈ l) : (r, o) ∈ updL l r o := List.mem_map.mpr ⟨_, h, by simp⟩
theorem updL_same {l : Ledger} {r : Addr} {o : Obj} (h : r ∉ keys l) : updL l r o = l := by
  unfold updL
  refine (List.map_congr_left fun p hp => ?_).trans (List.map_id _)
  exact if_neg fun e => h (by rw [← e]; exact key_of hp)
theorem updL_append {l l' : Ledger} {r : Addr} {o : Obj} : updL (l ++ l') r o = updL l r o ++ updL l' r o := List.map_append ..
theorem news_upd {h₀ h h' : Heap} {L : Addr} {led : Ledger} {r : Addr} {o : Obj} (N : News h₀ L h led) (hr : r ∈ keys led) (hs : Heap.SameBut r h h') (ho : h'.get? r = some o) : News h₀ L h' (updL led r o) := by
  intro q hq
  obtain ⟨p, hp, rfl⟩ := List.mem_map.mp hq
  obtain ⟨p0, hp0, e0⟩ := List.mem_map.mp hr
  by_cases h : p.1 = r
  · rw [if_pos h]
    exact ⟨ho, e0 ▸ (N p0 hp0).2⟩
  · rw [if_neg h]
    exact ⟨hs.extBut _ _ h (N p hp).1, (N p hp).2⟩

/-- the list a of the rows rr; the rows themselves stand at ra. -/
structure MatP (M : Ledger) (a : Addr) (n : Nat) (rr ra : Nat → Addr) (f : Nat → Nat → Int) : Prop where
  top : ∃ c, (a, listOf (((List.range n).map fun i => Value.ref (rr i))).toArray c) ∈ M
  off : ∀ i, i < n → ra i ≠ a
  inj : ∀ i j, i < n → j < n → ra i = ra j → i = j
  row : ∀ i, i < n → IntRow M (ra i) n (f i)
abbrev MatR (M : Ledger) (a : Addr) (n : Nat) (ra : Nat → Addr) (f : Nat → Nat → Int) : Prop := MatP M a n ra ra f
def setF (f : Nat → Nat → Int) (i j : Nat) (x : Int) : Nat → Nat → Int := fun i' j' => if i' = i ∧ j' = j then x else f i' j'
def setA (r : Nat → Addr) (i : Nat) (x : Addr) : Nat → Addr := fun i' => if i' = i then x else r i'
theorem IntRow.congr {M : Ledger} {r : Addr} {n : Nat} {f g : Nat → Int} (h : IntRow M r n f) (e : ∀ j, j < n → f j = g j) : IntRow M r n g := by
  obtain ⟨vs, c, hm, hl, hv⟩ := h
  refine ⟨vs, c, hm, hl, fun j x hx => ?_⟩
  have hj : j < n := by
    have := (List.getElem?_eq_some_iff.mp hx).1
    omega
  obtain ⟨t, ht⟩ := hv j x hx
  exact ⟨t, by rw [ht, e j hj]⟩
theorem MatP.congr {M : Ledger} {a : Addr} {n : Nat} {rr ra : Nat → Addr} {f g : Nat → Nat → Int} (h : MatP M a n rr ra f) (e : ∀ i j, i < n → j < n → f i j = g i j) : MatP M a n rr ra g :=
  ⟨h.top, h.off, h.inj, fun i hi => (h.row i hi).congr fun j hj => e i j hi hj⟩
theorem MatP.mat {M : Ledger} {a : Addr} {n : Nat} {ra : Nat → Addr} {f : Nat → Nat → Int} (h : MatR M a n ra f) : MatAt M a n f := by
  obtain ⟨c, hm⟩ := h.top
  refine ⟨_, c, hm, by simp, fun i x hx => ?_⟩
  have hi : i < n := by have := (List.getElem?_eq_some_iff.mp hx).1; simpa using this
  rw [List.getElem?_map, List.getElem?_range hi] at hx
  exact ⟨ra i, (Option.some.inj hx).symm, h.row i hi⟩

section
variable {prog : Program} {w : World} {A : Around} {E : Value → Shared → Prop} {s : Shared} {h₀ : Heap} {L : Addr} {m : Str → Option Value} {value slice : Expr} {a : Addr} {n : Nat} {u : Tok} {M X led : Ledger} {rr ra : Nat → Addr} {f : Nat → Nat → Int} {i j : Nat}
theorem matP_row {Q : Value → Shared → Prop} (N : News h₀ L s.heap led) (hM : MatP M a n rr ra f) (hs : Sub M led) (hi : i < n) (hn : n ≤ 1000)
    (hg : subscripted slice false (.ref a) (.int (i : Int) u) = operate [.ref a, .int (i : Int) u] (getItem (.ref a) (.int (i : Int) u))) (h : Q (.ref (rr i)) s) :
    wpAny (model prog w) A (subscriptTail value slice (.ref a) (.int (i : Int) u)) Q E s := by
  obtain ⟨c, hm⟩ := hM.top
  refine sub_at N (hs _ hm) (n := n) (by simp) rfl hi hn hg fun x e => ?_
  rw [List.getElem?_map, List.getElem?_range hi] at e
  exact Option.some.inj e ▸ h
theorem matP_item {Q : Value → Shared → Prop} (N : News h₀ L s.heap led) (hM : MatP M a n rr ra f) (hs : Sub M led) (hi : i < n) (hj : j < n) (hn : n ≤ 1000)
    (hg : subscripted slice false (.ref (ra i)) (.int (j : Int) u) = operate [.ref (ra i), .int (j : Int) u] (getItem (.ref (ra i)) (.int (j : Int) u))) (h : ∀ t, Q (.int (f i j) t) s) :
    wpAny (model prog w) A (subscriptTail value slice (.ref (ra i)) (.int (j : Int) u)) Q E s := row_int N (hM.row i hi) hs hj hn hg h
theorem matP_len {Q : Value → Shared → Prop} (N : News h₀ L s.heap led) (hM : MatP M a n rr ra f) (hs : Sub M led) (hn : n ≤ 1000)
    (h : ∀ t tk, Q (.int (n : Int) t) { s with toks := tk }) : wpAny (model prog w) A (call (.builtin "len") [.ref a]) Q E s := by
  obtain ⟨c, hm⟩ := hM.top
  exact len_at N (hs _ hm) (by simp) hn h

structure Tl (ks : List Addr) (X M led : Ledger) : Prop where
  sub : Sub (X ++ M) led
  off : ∀ p ∈ X, p.1 ∉ ks
theorem Tl.nil {ks : List Addr} {M : Ledger} : Tl ks [] M M := ⟨fun _ h => h, fun _ h => nomatch h⟩
theorem Tl.base {ks : List Addr} {X M : Ledger} (h : ∀ p ∈ X, p.1 ∉ ks) : Tl ks X M (X ++ M) := ⟨fun _ h => h, h⟩
theorem Tl.cons {ks : List Addr} {X M led : Ledger} {p : Addr × Obj} (h : p.1 ∉ ks) (k : Tl ks X M led) : Tl ks (p :: X) M (p :: led) := ⟨fun q hq => by
  rcases List.mem_cons.mp hq with rfl | hq
  · exact List.mem_cons_self ..
  · exact List.mem_cons_of_mem _ (k.sub q hq), fun q hq => by
  rcases List.mem_cons.mp hq with rfl | hq
  · exact h
  · exact k.off q hq⟩
theorem Tl.skip {ks : List Addr} {X M led : Ledger} {p : Addr × Obj} (k : Tl ks X M led) : Tl ks X M (p :: led) := ⟨fun q hq => List.mem_cons_of_mem _ (k.sub q hq), k.off⟩
theorem set_at {l : Addr} {vs : List Value} {c : Nat} {k : Nat} {v : Value} {Q : Unit → Shared → Prop} (F : Fr h₀ L s.heap m) (N : News h₀ L s.heap led) (hT : Tl (keys M) X M led) (hm : (l, listOf vs.toArray c) ∈ M) (hk : k < vs.length) (hn : vs.length ≤ 1000)
    (h : ∀ h' c', Fr h₀ L h' m → News h₀ L h' (X ++ updL M l (listOf (vs.set k v).toArray c')) → Q () { s with heap := h' }) : wpAny (model prog w) A (setItem (.ref l) (.int (k : Int) u) v) Q E s := by
  have hX := hT.off
  replace N : News h₀ L s.heap (X ++ M) := fun p hp => N p (hT.sub p hp)
  have hm' : (l, listOf vs.toArray c) ∈ X ++ M := List.mem_append_right _ hm
  have z := N _ hm'
  refine ki_setAt z.1 (by omega) (by omega) (by simp; omega) ?_
  have q := PySem.IsL.update z.1 (fun x => x.setIfInBounds (k : Int).toNat v)
  rw [show (vs.toArray.setIfInBounds (k : Int).toNat v) = (vs.set k v).toArray from by simp] at q
  refine h _ (if ((vs.set k v).toArray.size == vs.toArray.size) = true then c else c + 1) (F.change (Heap.SameBut.update ..) z.2.1 z.2.2) ?_
  have N' : News h₀ L (s.heap.update l (Obj.mapSeq fun x => x.setIfInBounds (k : Int).toNat v)) (updL (X ++ M) l (listOf (vs.set k v).toArray (if ((vs.set k v).toArray.size == vs.toArray.size) = true then c else c + 1))) := news_upd N (key_of hm') (Heap.SameBut.update ..) q
  rw [updL_append, updL_same (l := X) fun hx => by
    obtain ⟨p, hp, e⟩ := List.mem_map.mp hx
    exact hX p hp (by rw [e]; exact key_of hm)] at N'
  exact N'
theorem matP_set {ks : List Addr} {x : Int} {t : Tok} {Q : Unit → Shared → Prop} (F : Fr h₀ L s.heap m) (N : News h₀ L s.heap led) (hT : Tl ks X M led) (hK : keys M = ks) (hM : MatP M a n rr ra f) (hi : i < n) (hj : j < n) (hn : n ≤ 1000)
    (h : ∀ h' M', Fr h₀ L h' m → News h₀ L h' (X ++ M') → MatP M' a n rr ra (setF f i j x) → keys M' = ks → Q () { s with heap := h' }) : wpAny (model prog w) A (setItem (.ref (ra i)) (.int (j : Int) u) (.int x t)) Q E s := by
  subst hK
  obtain ⟨vs, c, hm, hl, hv⟩ := hM.row i hi
  refine set_at F N hT hm (by omega) (by omega) fun h' c' F' N' => h h' _ F' N' ⟨?_, hM.off, hM.inj, fun i' hi' => ?_⟩ keys_upd
  · obtain ⟨c, ht⟩ := hM.top
    exact ⟨c, upd_off ht (Ne.symm (hM.off i hi))⟩
  · by_cases e : i' = i
    · subst e
      refine ⟨_, c', upd_at hm, by simpa using hl, fun j' y hy => ?_⟩
      by_cases ej : j' = j
      · subst ej
        rw [List.getElem?_set_self (by omega)] at hy
        refine ⟨t, ?_⟩
        rw [← Option.some.inj hy]
        simp [setF]
      · rw [List.getElem?_set_ne (Ne.symm ej)] at hy
        have := hv j' y hy
        simpa [setF, ej] using this
    · obtain ⟨vs', c2, hm2, hl2, hv2⟩ := hM.row i' hi'
      refine ⟨vs', c2, upd_off hm2 fun q => e (hM.inj _ _ hi' hi q), hl2, fun j' y hy => ?_⟩
      have := hv2 j' y hy
      simpa [setF, e] using this
theorem matP_ref {ks : List Addr} {r : Addr} {Q : Unit → Shared → Prop} (F : Fr h₀ L s.heap m) (N : News h₀ L s.heap led) (hT : Tl ks X M led) (hK : keys M = ks) (hM : MatP M a n rr ra f) (hi : i < n) (hn : n ≤ 1000)
    (h : ∀ h' M', Fr h₀ L h' m → News h₀ L h' (X ++ M') → MatP M' a n (setA rr i r) ra f → keys M' = ks → Q () { s with heap := h' }) : wpAny (model prog w) A (setItem (.ref a) (.int (i : Int) u) (.ref r)) Q E s := by
  subst hK
  obtain ⟨c, ht⟩ := hM.top
  refine set_at F N hT ht (by simpa using hi) (by simpa using hn) fun h' c' F' N' => h h' _ F' N' ⟨⟨c', ?_⟩, hM.off, hM.inj, fun i' hi' => ?_⟩ keys_upd
  · have e : ((List.range n).map fun i => Value.ref (rr i)).set i (.ref r) = (List.range n).map fun i' => Value.ref (setA rr i r i') := by
      apply List.ext_getElem?
      intro k
      by_cases ek : k = i
      · subst ek
        rw [List.getElem?_set_self (by simpa using hi), List.getElem?_map, List.getElem?_range hi]
        simp [setA]
      · rw [List.getElem?_set_ne (Ne.symm ek), List.getElem?_map, List.getElem?_map]
        by_cases hk : k < n
        · rw [List.getElem?_range hk]; simp [setA, ek]
        · rw [List.getElem?_eq_none (by simpa using hk)]; rfl
    rw [← e]
    exact upd_at ht
  · obtain ⟨vs', c2, hm2, hl2, hv2⟩ := hM.row i' hi'
    exact ⟨vs', c2, upd_off hm2 (hM.off i' hi'), hl2, hv2⟩
def barF (p : Nat) (ah : Int) (f : Nat → Nat → Int) : Nat → Nat → Int := fun i j => if p < i then (if j = p then 0 else if p < j then (f i j * f p p - f i p * f p j).fdiv ah else f i j) else f i j
theorem key_lt {M : Ledger} {ks : List Addr} {I : Addr} (hK : keys M = ks) (l1 : ∀ p ∈ M, p.1 < I) : I ∉ ks := fun h => by
  subst hK
  obtain ⟨q, hq, e⟩ := List.mem_map.mp h
  have h1 := l1 q hq
  rw [e] at h1
  exact Nat.lt_irrefl _ h1
theorem off_key {M : Ledger} {ks : List Addr} {I : Addr} (hK : keys M = ks) (hI : I ∉ ks) : ∀ p ∈ M, p.1 ≠ I := fun p hp e => hI (by rw [← hK, ← e]; exact key_of hp)
end
end Mine
end
section
namespace Mine
def detF (n : Nat) (f : Nat → Nat → Int) : Int :=
  match n with
  | 0 => 1
  | 1 => f 0 0
  | 2 => f 0 0 * f 1 1 - f 0 1 * f 1 0
  | _ => f 0 0 * (f 1 1 * f 2 2 - f 1 2 * f 2 1) - f 0 1 * (f 1 0 * f 2 2 - f 1 2 * f 2 0) + f 0 2 * (f 1 0 * f 2 1 - f 1 1 * f 2 0)
def swapF (g : Nat → Nat → Int) (i s : Nat) : Nat → Nat → Int := fun r c => if r = i then g s c else if r = s then g i c else g r c
inductive DetR (n : Nat) (f : Nat → Nat → Int) : Nat → (Nat → Nat → Int) → Int → Int → Prop
  | zero : DetR n f 0 f 1 1
  | step {s i : Nat} {g : Nat → Nat → Int} {sg ah : Int} : DetR n f s g sg ah → s ≤ i → i < n → g i s ≠ 0 → (∀ q, s ≤ q → q < i → g q s = 0) → DetR n f (s + 1) (barF s ah (swapF g i s)) (if i = s then sg else -sg) (g i s)
theorem lt3 {i : Nat} (h : i < 3) : i = 0 ∨ i = 1 ∨ i = 2 := by omega
theorem lt2 {i : Nat} (h : i < 2) : i = 0 ∨ i = 1 := by omega
theorem detR0 {n : Nat} {f g : Nat → Nat → Int} {sg ah : Int} (h : DetR n f 0 g sg ah) : g = f ∧ sg = 1 ∧ ah = 1 := by
  cases h; exact ⟨rfl, rfl, rfl⟩
theorem detRs {n s : Nat} {f g : Nat → Nat → Int} {sg ah : Int} (h : DetR n f (s + 1) g sg ah) : ∃ i g₀ sg₀ ah₀, DetR n f s g₀ sg₀ ah₀ ∧ s ≤ i ∧ i < n ∧ g₀ i s ≠ 0 ∧ (∀ q, s ≤ q → q < i → g₀ q s = 0) ∧ g = barF s ah₀ (swapF g₀ i s) ∧ sg = (if i = s then sg₀ else -sg₀) ∧ ah = g₀ i s := by
  cases h with
  | step h a b c d => exact ⟨_, _, _, _, h, a, b, c, d, rfl, rfl, rfl⟩
theorem fdiv_ofn {e p d : Int} (hp : p ≠ 0) (h : e = p * -d) : -(e.fdiv p) = d := by rw [fdiv_of hp h, Int.neg_neg]
theorem det_done {n : Nat} {f g : Nat → Nat → Int} {sg ah : Int} (hn : n ≤ 3) (h : DetR n f n g sg ah) : sg * ah = detF n f := by
  rcases (show n = 0 ∨ n = 1 ∨ n = 2 ∨ n = 3 by omega) with rfl | rfl | rfl | rfl
  · obtain ⟨rfl, rfl, rfl⟩ := detR0 h; rfl
  · obtain ⟨i, g₀, sg₀, ah₀, k, a, b, c, d, rfl, rfl, rfl⟩ := detRs h
    obtain ⟨rfl, rfl, rfl⟩ := detR0 k
    obtain rfl : i = 0 := by omega
    simp [detF]
  · obtain ⟨i, g₀, sg₀, ah₀, k, a, b, c, d, rfl, rfl, rfl⟩ := detRs h
    obtain ⟨i', g₁, sg₁, ah₁, k', a', b', c', d', rfl, rfl, rfl⟩ := detRs k
    obtain ⟨rfl, rfl, rfl⟩ := detR0 k'
    obtain rfl : i = 1 := by omega
    rcases lt2 b' with rfl | rfl
    · simp [detF, barF, swapF]; grind
    · simp [detF, barF, swapF]; grind
  · obtain ⟨i, g₀, sg₀, ah₀, k, a, b, c, d, rfl, rfl, rfl⟩ := detRs h
    obtain ⟨i', g₁, sg₁, ah₁, k', a', b', c', d', rfl, rfl, rfl⟩ := detRs k
    obtain ⟨i'', g₂, sg₂, ah₂, k'', a'', b'', c'', d'', rfl, rfl, rfl⟩ := detRs k'
    obtain ⟨rfl, rfl, rfl⟩ := detR0 k''
    obtain rfl : i = 2 := by omega
    clear h k k' k'' c d c' d' d'' a a'' b
    rcases lt3 b'' with rfl | rfl | rfl <;> rcases (show i' = 1 ∨ i' = 2 by omega) with rfl | rfl <;> simp [barF, swapF, Int.fdiv_one, detF]
    all_goals first | exact fdiv_of c'' (by clear c''; grind) | exact fdiv_ofn c'' (by clear c''; grind)
theorem det_none {n s : Nat} {f g : Nat → Nat → Int} {sg ah : Int} (hn : n ≤ 3) (h : DetR n f s g sg ah) (hs : s < n) (hz : ∀ q, s ≤ q → q < n → g q s = 0) : 0 = detF n f := by
  rcases (show (n = 1 ∧ s = 0) ∨ (n = 2 ∧ s = 0) ∨ (n = 2 ∧ s = 1) ∨ (n = 3 ∧ s = 0) ∨ (n = 3 ∧ s = 1) ∨ (n = 3 ∧ s = 2) by omega) with ⟨rfl, rfl⟩ | ⟨rfl, rfl⟩ | ⟨rfl, rfl⟩ | ⟨rfl, rfl⟩ | ⟨rfl, rfl⟩ | ⟨rfl, rfl⟩
  · obtain ⟨rfl, rfl, rfl⟩ := detR0 h
    exact (hz 0 (by omega) (by omega)).symm
  · obtain ⟨rfl, rfl, rfl⟩ := detR0 h
    have h0 := hz 0 (by omega) (by omega)
    have h1 := hz 1 (by omega) (by omega)
    simp [detF, h0, h1]
  · obtain ⟨i, g₀, sg₀, ah₀, k, a, b, c, d, rfl, rfl, rfl⟩ := detRs h
    obtain ⟨rfl, rfl, rfl⟩ := detR0 k
    have h1 := hz 1 (by omega) (by omega)
    clear hz h k d
    rcases lt2 b with rfl | rfl <;> simp [barF, swapF, Int.fdiv_one] at h1 <;> simp only [detF] <;> clear a b c <;> grind
  · obtain ⟨rfl, rfl, rfl⟩ := detR0 h
    have h0 := hz 0 (by omega) (by omega)
    have h1 := hz 1 (by omega) (by omega)
    have h2 := hz 2 (by omega) (by omega)
    simp [detF, h0, h1, h2]
  · obtain ⟨i, g₀, sg₀, ah₀, k, a, b, c, d, rfl, rfl, rfl⟩ := detRs h
    obtain ⟨rfl, rfl, rfl⟩ := detR0 k
    have h1 := hz 1 (by omega) (by omega)
    have h2 := hz 2 (by omega) (by omega)
    clear hz h k d
    have fin : g₀ i 0 * detF 3 g₀ = 0 → 0 = detF 3 g₀ := fun e => (mul_left0 c e).symm
    apply fin
    rcases lt3 b with rfl | rfl | rfl <;> simp [barF, swapF, Int.fdiv_one] at h1 h2 <;> simp only [detF] <;> clear a b c fin <;> grind
  · obtain ⟨i', g₁, sg₁, ah₁, k', a', b', c', d', rfl, rfl, rfl⟩ := detRs h
    obtain ⟨i'', g₂, sg₂, ah₂, k'', a'', b'', c'', d'', rfl, rfl, rfl⟩ := detRs k'
    obtain ⟨rfl, rfl, rfl⟩ := detR0 k''
    have h2 := hz 2 (by omega) (by omega)
    clear hz h k' k'' c' d' d'' a''
    rcases lt3 b'' with rfl | rfl | rfl <;> rcases (show i' = 1 ∨ i' = 2 by omega) with rfl | rfl <;> simp [barF, swapF, Int.fdiv_one] at h2
    all_goals first
      | (rw [fdiv_of c'' (d := detF 3 g₂) (by clear h2 c''; simp only [detF]; grind)] at h2; exact h2.symm)
      | (rw [fdiv_of c'' (d := -detF 3 g₂) (by clear h2 c''; simp only [detF]; grind)] at h2; omega)
end Mine
end
section
open PySem PySem.Spec PySem.Calls PySem.W PyProof.Rows PyProof.Rows.LCg
namespace Mine
theorem apart_lt {D : Addr} {o : Obj} {led : Ledger} (h : ∀ q ∈ led, @LT.lt Nat _ q.1 D) : Apart [(D, o)] led := apart_new h apart_nil
section
variable {prog : Program} {w : World} {A : Around} {E : Value → Shared → Prop} {s : Shared} {h₀ : Heap} {L : Addr} {m : Str → Option Value} {env : Env}
theorem copy_row {a : Addr} {n : Nat} {g : Nat → Int} {Q : Value → Shared → Prop} {all led : Ledger} (F : Fr h₀ L s.heap m) (N : News h₀ L s.heap led) (hR : IntRow all a n g) (hs : Sub all led) (hn : n ≤ 1000)
    (h : ∀ D h' new, Fr h₀ L h' m → News h₀ L h' (new ++ led) → Apart new led → IntRow new D n g → Q (.ref D) { s with heap := h' }) : wpAny (model prog w) A (call (.type "list") [.ref a]) Q E s := by
  obtain ⟨vs, c, hm, hl, hv⟩ := hR
  refine list_copyK F N ⟨_, (N _ (hs _ hm)).1, rfl, _, rfl⟩ (fun D c' h' F' N' hlt => ?_) (Nat.le_trans (by simpa [hl] using hn) (show 1000 ≤ sizeLine by decide))
  exact h D h' [(D, listOf vs.toArray c')] F' N' (apart_lt hlt) ⟨vs, c', List.mem_cons_self .., hl, hv⟩

theorem restN {cenv : Env} {elt ct : Expr} {iad : List Addr} {C D : Addr} {S : Ledger → Prop} {asg : Nat → (Str → Option Value) → Ledger → Prop} {Fin : List Value → Ledger → Prop} {n : Nat} {news₀ : Ledger} (hS : ∀ l, Sub news₀ l → S l)
    (step : ∀ i, i < n → ∀ ios oC cos m₂ h tk (E' : Value → Shared → Prop), asg i m₂ cos → ios.map (·.1) = iad → NsObj oC m₂ → Fr h₀ L h m → News h₀ L h (ios ++ (C, oC) :: (D, lst []) :: (cos ++ news₀)) →
      wpAny (model prog w) A (isTrue ct cenv (eval ct cenv)) (fun ok s' => if ok = true then wpAny (model prog w) A (eval elt cenv) (fun _ _ => False) E' s'
        else ElemE h₀ L m (ios ++ (C, oC) :: (D, lst []) :: (cos ++ news₀)) (fun new _ => new = []) { s with heap := h, toks := tk } .none s') E' { s with heap := h, toks := tk })
    (fin : Fin [] news₀) : RestK prog w A h₀ L m cenv [ct] elt iad C D s S asg Fin n 0 [] news₀ := by
  refine RestK.inv (fun _ ys news => ys = [] ∧ news = news₀) ?_ ?_ n 0 [] news₀ (Nat.zero_add n) ⟨rfl, rfl⟩
  · rintro i _ _ hi ⟨rfl, rfl⟩ ios oC cos m₂ h tk E' ha hios hC F N O
    refine wpAny_mono (step i hi ios oC cos m₂ h tk E' ha hios hC F N) (fun ok s₁ hok => ?_) fun _ _ e => e
    by_cases ho : ok = true
    · rw [if_pos ho] at hok ⊢
      exact wpAny_mono hok (fun _ _ f => f.elim) fun _ _ e => e
    · rw [if_neg ho] at hok ⊢
      obtain ⟨h', tk', new, rfl, F', N', ap', rfl⟩ := hok
      exact EndK.pre (s₁ := { s with heap := h, toks := tk }) [] _ F' N' rfl O (hS _ Sub.refl) ⟨rfl, rfl⟩
  · rintro _ _ ⟨rfl, rfl⟩
    exact fin

theorem restD {cenv : Env} {elt : Expr} {iad : List Addr} {C D : Addr} {S : Ledger → Prop} {asg : Nat → (Str → Option Value) → Ledger → Prop} {Fin : List Value → Ledger → Prop} {n : Nat} {news₀ : Ledger} {f : Nat → Nat → Int} (hS : ∀ l, Sub news₀ l → S l)
    (step : ∀ i (ys : List Value) rest, i < n → Sub news₀ rest → ∀ ios oC cos m₂ h tk (E' : Value → Shared → Prop), asg i m₂ cos → ios.map (·.1) = iad → NsObj oC m₂ → Fr h₀ L h m → News h₀ L h (ios ++ (C, oC) :: (D, lst ys) :: (cos ++ rest)) →
      wpAny (model prog w) A (eval elt cenv) (ElemE h₀ L m (ios ++ (C, oC) :: (D, lst ys) :: (cos ++ rest)) (fun l y => RowV l n (f i) y) { s with heap := h, toks := tk }) E' { s with heap := h, toks := tk })
    (fin : ∀ (ra : Nat → Addr) pre, Apart pre news₀ → (∀ j, j < n → ra j ≠ D ∧ IntRow pre (ra j) n (f j)) → (∀ i j, i < n → j < n → ra i = ra j → i = j) → Fin ((List.range n).map fun j => Value.ref (ra j)) (pre ++ news₀)) :
    RestK prog w A h₀ L m cenv [] elt iad C D s S asg Fin n 0 [] news₀ := by
  refine RestK.inv (fun i ys news => ∃ pre ra, news = pre ++ news₀ ∧ Apart pre news₀ ∧ ys = ((List.range i).map fun j => Value.ref (ra j)) ∧ (∀ j, j < i → ra j ≠ D ∧ IntRow pre (ra j) n (f j)) ∧ (∀ j k, j < i → k < i → ra j = ra k → j = k)) ?_ ?_ n 0 [] news₀ (Nat.zero_add n)
    ⟨[], fun _ => 0, rfl, apart_nil, rfl, fun j hj => absurd hj (Nat.not_lt_zero _), fun j k hj => absurd hj (Nat.not_lt_zero _)⟩
  · rintro i _ _ hi ⟨pre, ra, rfl, ap, rfl, hr, inj⟩ ios oC cos m₂ h tk E' ha hios hC F N O
    refine wpAny_mono (step i _ (pre ++ news₀) hi (Sub.app Sub.refl) ios oC cos m₂ h tk E' ha hios hC F N) (fun y s₂ he => ?_) fun _ _ e => e
    obtain ⟨h', tk', new, rfl, F', N', ap', r, rfl, hrow⟩ := he
    have hin : ∃ o, (r, o) ∈ new := by
      obtain ⟨vs, c, hm, _⟩ := hrow
      exact ⟨_, hm⟩
    obtain ⟨o, hin⟩ := hin
    have hD : r ≠ D := ap' _ hin (D, _) (List.mem_append_right _ (List.mem_cons_of_mem _ (List.mem_cons_self ..)))
    have hpre : ∀ p ∈ pre, r ≠ p.1 := fun p hp => ap' _ hin p (own_rest _ (List.mem_append_left _ hp))
    have hold : ∀ j, j < i → r ≠ ra j := fun j hj => by
      obtain ⟨vs, c, hm, _⟩ := (hr j hj).2
      exact hpre _ hm
    refine EndK.pre (s₁ := { s with heap := h, toks := tk }) new (pre ++ news₀) F' N' rfl (own_offs ap' O) (hS _ (Sub.app (Sub.app Sub.refl))) ⟨new ++ pre, fun j => if j = i then r else ra j, (List.append_assoc ..).symm, ?_, ?_, ?_, ?_⟩
    · intro p hp q hq
      rcases List.mem_append.mp hp with hp | hp
      · exact ap' p hp q (own_rest _ (List.mem_append_right _ hq))
      · exact ap p hp q hq
    · rw [List.range_succ, List.map_append]
      congr 1
      · refine List.map_congr_left fun j hj => ?_
        have hj' : j < i := List.mem_range.mp hj
        show Value.ref (ra j) = Value.ref (if j = i then r else ra j)
        rw [if_neg (Nat.ne_of_lt hj')]
      · simp
    · intro j hj
      show (if j = i then r else ra j) ≠ D ∧ IntRow (new ++ pre) (if j = i then r else ra j) n (f j)
      by_cases e : j = i
      · subst e
        rw [if_pos rfl]
        exact ⟨hD, hrow.mono fun p hp => List.mem_append_left _ hp⟩
      · rw [if_neg e]
        have := hr j (by omega)
        exact ⟨this.1, this.2.mono fun p hp => List.mem_append_right _ hp⟩
    · intro j k hj hk e
      replace e : (if j = i then r else ra j) = (if k = i then r else ra k) := e
      by_cases e1 : j = i
      · by_cases e2 : k = i
        · omega
        · rw [if_pos e1, if_neg e2] at e
          exact absurd e (hold k (by omega))
      · by_cases e2 : k = i
        · rw [if_neg e1, if_pos e2] at e
          exact absurd e.symm (hold j (by omega))
        · rw [if_neg e1, if_neg e2] at e
          exact inj j k (by omega) (by omega) e
  · rintro _ _ ⟨pre, ra, rfl, ap, rfl, hr, inj⟩
    exact fin ra pre ap hr inj

section src
variable {elt ct : Expr} {scope : Scope} {cl : List (Str × Addr)} {x : Str} {px : Pos} {Q : Value → Shared → Prop}
theorem SrcN.at_L {ax : Addr} {n : Nat} {l₀ all : Ledger} {s₁ : Shared} {q : Nat → Value → Prop}
    (hh : A.handled = none) (F : Fr h₀ L s₁.heap m) (N : News h₀ L s₁.heap all) (hM : ListAt l₀ ax n q) (hs₀ : Sub l₀ all) (hsz : n ≤ 1000) (hkind : scope.kind = .function) (hx : scope.names.lookup x = some .local)
    (step : ∀ (i : Nat) (I C D : Addr) oI oC oD y m₂ h tk (E' : Value → Shared → Prop), i < n → NsObj oC m₂ → q i y → m₂ x = some y → Fr h₀ L h m → News h₀ L h ((I, oI) :: (C, oC) :: (D, oD) :: all) →
      wpAny (model prog w) A (isTrue ct (compEnvC scope cl C env) (eval ct (compEnvC scope cl C env))) (fun ok s' => if ok = true then wpAny (model prog w) A (eval elt (compEnvC scope cl C env)) (fun _ _ => False) E' s'
        else ElemE h₀ L m ((I, oI) :: (C, oC) :: (D, oD) :: all) (fun new _ => new = []) { s₁ with heap := h, toks := tk } .none s') E' { s₁ with heap := h, toks := tk })
    (fin : ∀ D h tk, (∀ p ∈ all, @LT.lt Nat _ p.1 D) → Fr h₀ L h m → News h₀ L h ((D, lst []) :: all) → Q (.ref D) { s₁ with heap := h, toks := tk }) : SrcK prog w A h₀ L m env (.Name x px) [ct] elt scope cl none (fun s₂ => FinK h₀ L m s₂ Q) (.ref ax) s₁ := by
  obtain ⟨vs, c, hm, hl, hv⟩ := hM
  subst hl
  refine SrcK.list_L hh F N (SrcAt_led (hs₀ _ hm)) (Nat.le_trans (by simpa using hsz) (show 1000 ≤ sizeLine by decide)) hkind hx fun g I D l1 l2 _ => ?_
  refine restN (n := vs.length) (fun _ h => srcAt_sub (hs₀ _ hm) h) ?_ fun h tk F' N' => fin D h tk (fun p hp => Nat.lt_trans (l1 p hp) l2) F' N'
  intro i hi ios oC cos m₂ h tk E' ha hios hC F' N'
  obtain ⟨y, hy, hma, rfl⟩ := ha
  obtain ⟨oI, rfl⟩ := map1 hios
  exact step i I (D + 1) D oI oC (lst []) y m₂ h tk E' hi hC (hv i y (List.getElem?_toArray ▸ hy)) hma F' N'
theorem SrcD.at_L {ax : Addr} {n : Nat} {l₀ all : Ledger} {s₁ : Shared} {q : Nat → Value → Prop} {f : Nat → Nat → Int}
    (hh : A.handled = none) (F : Fr h₀ L s₁.heap m) (N : News h₀ L s₁.heap all) (hM : ListAt l₀ ax n q) (hs₀ : Sub l₀ all) (hsz : n ≤ 1000) (hkind : scope.kind = .function) (hx : scope.names.lookup x = some .local)
    (step : ∀ (i : Nat) rest (I C D : Addr) oI oC oD y m₂ h tk (E' : Value → Shared → Prop), i < n → Sub all rest → NsObj oC m₂ → q i y → m₂ x = some y → Fr h₀ L h m → News h₀ L h ((I, oI) :: (C, oC) :: (D, oD) :: rest) →
      wpAny (model prog w) A (eval elt (compEnvC scope cl C env)) (ElemE h₀ L m ((I, oI) :: (C, oC) :: (D, oD) :: rest) (fun l y => RowV l n (f i) y) { s₁ with heap := h, toks := tk }) E' { s₁ with heap := h, toks := tk })
    (fin : ∀ D h tk ra M, Fr h₀ L h m → News h₀ L h (all ++ M) → Apart M all → MatR M D n ra f → Q (.ref D) { s₁ with heap := h, toks := tk }) : SrcK prog w A h₀ L m env (.Name x px) [] elt scope cl none (fun s₂ => FinK h₀ L m s₂ Q) (.ref ax) s₁ := by
  obtain ⟨vs, c, hm, hl, hv⟩ := hM
  subst hl
  refine SrcK.list_L hh F N (SrcAt_led (hs₀ _ hm)) (Nat.le_trans (by simpa using hsz) (show 1000 ≤ sizeLine by decide)) hkind hx fun g I D l1 l2 _ => ?_
  refine restD (n := vs.length) (f := f) (fun _ h => srcAt_sub (hs₀ _ hm) h) ?_ fun ra pre ap hr inj h tk F' N' => fin D h tk ra ((D, lst ((List.range vs.length).map fun j => Value.ref (ra j))) :: pre) F' (fun p hp => ?_) (apart_new (fun p hp => Nat.lt_trans (l1 p hp) l2) ap) ⟨⟨_, List.mem_cons_self ..⟩, fun i hi => (hr i hi).1, inj, fun i hi => (hr i hi).2.mono (Sub.cons Sub.refl)⟩
  · intro i ys rest hi hs ios oC cos m₂ h tk E' ha hios hC F' N'
    obtain ⟨y, hy, hma, rfl⟩ := ha
    obtain ⟨oI, rfl⟩ := map1 hios
    exact step i rest I (D + 1) D oI oC (lst ys) y m₂ h tk E' hi hs hC (hv i y (List.getElem?_toArray ▸ hy)) hma F' N'
  · rcases List.mem_append.mp hp with hp | hp
    · exact N' p (List.mem_cons_of_mem _ (List.mem_append_right _ hp))
    · rcases List.mem_cons.mp hp with rfl | hp
      · exact N' _ (List.mem_cons_self ..)
      · exact N' p (List.mem_cons_of_mem _ (List.mem_append_left _ hp))
end src
end
theorem name_two {h₀ h : Heap} {L : Addr} {led M all : Ledger} (N : News h₀ L h led) (h1 : Sub all led) (h2 : Sub M led) : News h₀ L h (all ++ M) := fun p hp => by
  rcases List.mem_append.mp hp with hp | hp
  · exact N p (h1 p hp)
  · exact N p (h2 p hp)
theorem off_app {X M : Ledger} {I : Addr} (h1 : ∀ p ∈ X, p.1 ≠ I) (h2 : ∀ p ∈ M, p.1 ≠ I) : ∀ p ∈ X ++ M, p.1 ≠ I := fun p hp => by
  rcases List.mem_append.mp hp with hp | hp
  · exact h1 p hp
  · exact h2 p hp
theorem apart_keys {M X Z : Ledger} (h : Apart M X) (hs : Sub Z X) : ∀ p ∈ Z, p.1 ∉ keys M := fun p hp hk => by
  obtain ⟨q, hq, e⟩ := List.mem_map.mp hk
  exact h q hq p (hs p hp) e
def bnd : Nat → Nat
  | 0 => 60
  | 1 => 121
  | 2 => 243
  | _ => 487
theorem bnd_step {i : Nat} (h : i < 3) : 2 * bnd i + 1 ≤ bnd (i + 1) := by
  rcases (show i = 0 ∨ i = 1 ∨ i = 2 by omega) with rfl | rfl | rfl <;> decide
theorem bnd_le {i : Nat} (h : i ≤ 3) : bnd i ≤ 1000 := by
  rcases (show i = 0 ∨ i = 1 ∨ i = 2 ∨ i = 3 by omega) with rfl | rfl | rfl | rfl <;> decide
theorem Bd.mono {j k n : Nat} {f : Nat → Nat → Int} (h : Bd j n f) (e : j ≤ k) : Bd k n f := fun a b ha hb => (h a b ha hb).mono e
theorem Bd.swap {k n i s : Nat} {f : Nat → Nat → Int} (h : Bd k n f) (hi : i < n) (hs : s < n) : Bd k n (swapF f i s) := fun r c hr hc => by
  unfold swapF
  split
  · exact h _ _ hs hc
  · split
    · exact h _ _ hi hc
    · exact h _ _ hr hc
theorem Bd.bar {k n p : Nat} {ah : Int} {f : Nat → Nat → Int} (h : Bd k n f) (hp : p < n) : Bd (2 * k + 1) n (barF p ah f) := fun r c hr hc => by
  unfold barF
  split
  · split
    · exact Nat.two_pow_pos _
    · split
      · exact (Sm.fdiv ((h r c hr hc).mul (h p p hp hp) |>.sub ((h r p hr hp).mul (h p c hp hc)))).mono (by omega)
      · exact (h r c hr hc).mono (by omega)
  · exact (h r c hr hc).mono (by omega)
theorem bar_self {p : Nat} {ah : Int} {g : Nat → Nat → Int} {i : Nat} : barF p ah (swapF g i p) p p = g i p := by
  unfold barF swapF
  rw [if_neg (Nat.lt_irrefl p)]
  split
  · rename_i h; rw [h]
  · rw [if_pos rfl]
theorem MatP.swap {M : Ledger} {a : Addr} {n : Nat} {ra : Nat → Addr} {g : Nat → Nat → Int} {i s : Nat} (h : MatP M a n (setA (setA ra i (ra s)) s (ra i)) ra g) (hi : i < n) (hs : s < n) : MatR M a n (fun r => if r = i then ra s else if r = s then ra i else ra r) (swapF g i s) := by
  obtain ⟨⟨c, ht⟩, off, inj, row⟩ := h
  refine ⟨⟨c, ?_⟩, fun r hr => ?_, fun r r' hr hr' e => ?_, fun r hr => ?_⟩
  · have e : (fun r => Value.ref (setA (setA ra i (ra s)) s (ra i) r)) = fun r => Value.ref (if r = i then ra s else if r = s then ra i else ra r) := by
      funext r
      unfold setA
      by_cases h1 : r = s
      · by_cases h2 : r = i
        · rw [if_pos h1, if_pos h2, ← h1, h2]
        · rw [if_pos h1, if_neg h2, if_pos h1]
      · by_cases h2 : r = i
        · rw [if_neg h1, if_pos h2, if_pos h2]
        · rw [if_neg h1, if_neg h2, if_neg h2, if_neg h1]
    rw [← e]; exact ht
  · show (if r = i then ra s else if r = s then ra i else ra r) ≠ a
    split
    · exact off _ hs
    · split
      · exact off _ hi
      · exact off _ hr
  · replace e : (if r = i then ra s else if r = s then ra i else ra r) = (if r' = i then ra s else if r' = s then ra i else ra r') := e
    have key : ∀ x, x < n → ∃ y, y < n ∧ (if x = i then ra s else if x = s then ra i else ra x) = ra y ∧ ((x = i ∧ y = s) ∨ (x ≠ i ∧ x = s ∧ y = i) ∨ (x ≠ i ∧ x ≠ s ∧ y = x)) := fun x hx => by
      by_cases h1 : x = i
      · exact ⟨s, hs, by rw [if_pos h1], .inl ⟨h1, rfl⟩⟩
      · by_cases h2 : x = s
        · exact ⟨i, hi, by rw [if_neg h1, if_pos h2], .inr (.inl ⟨h1, h2, rfl⟩)⟩
        · exact ⟨x, hx, by rw [if_neg h1, if_neg h2], .inr (.inr ⟨h1, h2, rfl⟩)⟩
    obtain ⟨y, hy, e1, c1⟩ := key r hr
    obtain ⟨y', hy', e2, c2⟩ := key r' hr'
    rw [e1, e2] at e
    have := inj y y' hy hy' e
    omega
  · show IntRow M (if r = i then ra s else if r = s then ra i else ra r) n (swapF g i s r)
    unfold swapF
    split
    · exact row _ hs
    · split
      · exact row _ hi
      · exact row _ hr
theorem MatP.hide {M : Ledger} {a : Addr} {n : Nat} {ra : Nat → Addr} {f : Nat → Nat → Int} (h : MatR M a n ra f) : ∃ ra', MatR M a n ra' f := ⟨_, h⟩
theorem swap_same {g : Nat → Nat → Int} {i r c : Nat} : g r c = swapF g i i r c := by
  unfold swapF
  split
  · rename_i h; rw [h]
  · rfl
theorem says_readG {w : World} {A₀ : Around} {E : Value → Shared → Prop} {s : Shared} {L : Addr} {h₀ base : Heap} {m mg mb : Str → Option Value} {mean : ExcName → Option Value} {Q : Value → Shared → Prop} {lv : Nat} {f : Addr} {sub all : Ledger} {vs : List Value} {post : Value → Ledger → Ledger → Prop} {dp un : Nat} {gd : Option (List Code)} {cn : Str} {cs : Scope} {a : Addr} {ccd : Value} {cl : List (Str × Addr)} {outer : List Env}
    (F : Fr h₀ L s.heap m) (N : News h₀ L s.heap all) (H : Says lv w mean mg mb f sub vs post) (hs : Sub sub all) (B : Below A₀ base outer h₀) (X : (kk.heap_39 w.params).In h₀) (T : Top vw (looseW vw []) mean mg mb h₀)
    (hk : cs.kind = .function) (hd : dp + 20 * (lv + 1) < 1000) (hu : un + 200 * (lv + 1) < 9900) (hp : ∀ r new sub', post r new sub' → sub' = sub)
    (ret : ∀ r new h' tk', post r new sub → Fr h₀ L h' m → News h₀ L h' (new ++ all) → Apart new all → Q r { s with heap := h', toks := tk' }) :
    wpAny (model PySem.Challenge.rw_sa0092_01.row.prog w) (ktrTop dp un gd cn cs L a ccd cl outer) (call (.ref f) vs) Q E s := says_read H B F X N T hk hd hu hs hp ret
theorem says_tail {w : World} {A₀ : Around} {E : Value → Shared → Prop} {s : Shared} {L : Addr} {h₀ base : Heap} {m mg mb : Str → Option Value} {mean : ExcName → Option Value} {Q : Value → Shared → Prop} {lv : Nat} {f : Addr} {ks : List Addr} {M X all : Ledger} {vs : List Value} {post : Value → Ledger → Ledger → Prop} {dp un : Nat} {gd : Option (List Code)} {cn : Str} {cs : Scope} {a : Addr} {ccd : Value} {cl : List (Str × Addr)} {outer : List Env}
    (F : Fr h₀ L s.heap m) (N : News h₀ L s.heap all) (H : Says lv w mean mg mb f M vs post) (hT : Tl ks X M all) (hK : keys M = ks) (B : Below A₀ base outer h₀) (Xh : (kk.heap_39 w.params).In h₀) (T : Top vw (looseW vw []) mean mg mb h₀)
    (hk : cs.kind = .function) (hd : dp + 20 * (lv + 1) < 1000) (hu : un + 200 * (lv + 1) < 9900)
    (ret : ∀ r new sub' h' tk', post r new sub' → Fr h₀ L h' m → News h₀ L h' (new ++ (X ++ sub')) → Apart new all → Q r { s with heap := h', toks := tk' }) :
    wpAny (model PySem.Challenge.rw_sa0092_01.row.prog w) (ktrTop dp un gd cn cs L a ccd cl outer) (call (.ref f) vs) Q E s := by
  subst hK
  refine says_use (rest := X) H B F Xh N T hk hd hu (fun p hp => hT.sub p (List.mem_append_right _ hp)) (fun p hp => hT.sub p (List.mem_append_left _ hp)) (fun p hp q hq e => hT.off p hp (by rw [show p.1 = q.1 from e]; exact key_of hq)) fun r new sub' h' tk' hp F' N' ap => ret r new sub' h' tk' hp F' (fun p hp => ?_) ap
  rcases List.mem_append.mp hp with hp | hp
  · exact N' p (List.mem_append_left _ hp)
  · rcases List.mem_append.mp hp with hp | hp
    · exact N' p (List.mem_append_right _ (List.mem_append_right _ hp))
    · exact N' p (List.mem_append_right _ (List.mem_append_left _ hp))
end Mine
end
section
open PySem PySem.Spec PySem.Calls PySem.W PyProof.Rows PyProof.Rows.LCg
namespace Mine
def minF (f : Nat → Nat → Int) (p q : Nat) : Nat → Nat → Int := fun i j => f (skip p i) (skip q j)
def adjF (n : Nat) (f : Nat → Nat → Int) : Nat → Nat → Int := fun r c => (1 - 2 * ((r : Int) + (c : Int)).fmod 2) * detF (n - 1) (minF f c r)
theorem skip_lt {p i n : Nat} (h : i < n - 1) : skip p i < n := by
  unfold skip
  split <;> omega
theorem Bd.minor {k n p q : Nat} {f : Nat → Nat → Int} (h : Bd k n f) : Bd k (n - 1) (minF f p q) := fun i j hi hj => h _ _ (skip_lt hi) (skip_lt hj)
theorem fmod2_sm {x : Int} : Sm 1 (x.fmod 2) := by
  unfold Sm
  have h1 := Int.fmod_nonneg_of_pos x (show (0 : Int) < 2 by decide)
  have h2 := Int.fmod_lt_of_pos x (show (0 : Int) < 2 by decide)
  omega
theorem detF_sm {k n : Nat} {f : Nat → Nat → Int} (hn : n ≤ 3) (h : Bd k n f) : Sm (3 * k + 10) (detF n f) := by
  rcases (show n = 0 ∨ n = 1 ∨ n = 2 ∨ n = 3 by omega) with rfl | rfl | rfl | rfl
  · exact (show Sm 10 1 by unfold Sm; decide).mono (by omega)
  · exact (h 0 0 (by omega) (by omega)).mono (by omega)
  · have b := fun i j (hi : i < 2) (hj : j < 2) => h i j hi hj
    refine Sm.mono (((b 0 0 (by omega) (by omega)).mul (b 1 1 (by omega) (by omega))).sub ((b 0 1 (by omega) (by omega)).mul (b 1 0 (by omega) (by omega)))) ?_
    omega
  · have b := fun i j (hi : i < 3) (hj : j < 3) => h i j hi hj
    have m2 : ∀ i j i' j' i2 j2 i3 j3, i < 3 → j < 3 → i' < 3 → j' < 3 → i2 < 3 → j2 < 3 → i3 < 3 → j3 < 3 → Sm (2 * k + 1) (f i j * f i' j' - f i2 j2 * f i3 j3) := fun i j i' j' i2 j2 i3 j3 a1 a2 a3 a4 a5 a6 a7 a8 =>
      Sm.mono (((b i j a1 a2).mul (b i' j' a3 a4)).sub ((b i2 j2 a5 a6).mul (b i3 j3 a7 a8))) (by omega)
    refine Sm.mono ((((b 0 0 (by omega) (by omega)).mul (m2 1 1 2 2 1 2 2 1 (by omega) (by omega) (by omega) (by omega) (by omega) (by omega) (by omega) (by omega))).sub
      ((b 0 1 (by omega) (by omega)).mul (m2 1 0 2 2 1 2 2 0 (by omega) (by omega) (by omega) (by omega) (by omega) (by omega) (by omega) (by omega)))).add
      ((b 0 2 (by omega) (by omega)).mul (m2 1 0 2 1 1 1 2 0 (by omega) (by omega) (by omega) (by omega) (by omega) (by omega) (by omega) (by omega)))) ?_
    omega
theorem adjF_bd {k n : Nat} {f : Nat → Nat → Int} (hn : n ≤ 3) (h : Bd k n f) : Bd (3 * k + 20) n (adjF n f) := fun r c _ _ => by
  unfold adjF
  refine Sm.mono (Sm.mul (Sm.sub (Sm.of8 (by decide)) (Sm.mul (Sm.of8 (by decide)) fmod2_sm)) (detF_sm (by omega) (h.minor (p := c) (q := r)))) ?_
  omega
theorem memL {p : Addr × Obj} {a b : Ledger} (h : List.Mem p a) : List.Mem p (a ++ b) := List.mem_append_left _ h
theorem memR {p : Addr × Obj} {a b : Ledger} (h : List.Mem p b) : List.Mem p (a ++ b) := List.mem_append_right _ h
section
variable {prog : Program} {w : World} {A : Around} {E : Value → Shared → Prop} {s : Shared} {h₀ : Heap} {L : Addr} {m : Str → Option Value} {env : Env}
theorem CRest.invH {K I : Addr} {body : List Stmt} {Q : Flow → Shared → Prop} {a : Int} {n : Nat} (Inv : Nat → Ledger → Prop) {o : Obj} {r : Ledger} {v₀ : Option Value} (hd : o.data = .cell v₀) (off : ∀ p ∈ r, p.1 ≠ K) (h0 : Inv 0 r)
    (step : ∀ i r, i < n → Inv i r → (∀ p ∈ r, p.1 ≠ K) → ∀ t h tk o', o'.data = .cell (some (.int (a + (i : Int)) t)) → Fr h₀ env.locals h m → News h₀ env.locals h ((I, itR (a + ((i + 1 : Nat) : Int)) ((n : Int) - ((i + 1 : Nat) : Int))) :: (K, o') :: r) →
      wpAny (model prog w) A (execs body env) (UnrPost h₀ env.locals { s with heap := h, toks := tk } I (itR (a + ((i + 1 : Nat) : Int)) ((n : Int) - ((i + 1 : Nat) : Int))) (fun m' news' => m' = m ∧ ∃ r' v, news' = (K, o') :: r' ∧ o'.data = .cell v ∧ (∀ p ∈ r', p.1 ≠ K) ∧ Inv (i + 1) r') Q) E { s with heap := h, toks := tk })
    (fin : ∀ o r, Inv n r → (∀ p ∈ r, p.1 ≠ K) → ∀ h tk, Fr h₀ env.locals h m → News h₀ env.locals h ((K, o) :: r) → Q .next { s with heap := h, toks := tk }) :
    CRest prog w A E h₀ env K body Q s I a n n 0 m ((K, o) :: r) := by
  suffices H : ∀ k i o r v₀, i + k = n → o.data = .cell v₀ → (∀ p ∈ r, p.1 ≠ K) → Inv i r → CRest prog w A E h₀ env K body Q s I a n k i m ((K, o) :: r) from H n 0 o r v₀ (Nat.zero_add n) hd off h0
  intro k
  induction k with
  | zero => intro i o r v₀ e hd off h; exact CRest.zero (fin o r ((show i = n from e) ▸ h) off)
  | succ k ih =>
    intro i o r v₀ e hd off h
    refine CRest.succ (.head off) hd fun t g tk o' hd' F N => ?_
    refine wpAny_mono (step i r (by omega) h off t g tk o' hd' F N) (fun f s₂ p => UnrPost.mono p ?_) fun _ _ e => e
    rintro m' _ ⟨rfl, r', v, rfl, hv, off', hI⟩
    exact ih (i + 1) o' r' v (by omega) hv off' hI

theorem name_adj {h : Heap} {led base : Ledger} {K F : Addr} {o x : Obj} (N : News h₀ L h led) (h1 : (K, o) ∈ led) (h2 : Sub base led) (h3 : (F, x) ∈ led) : News h₀ L h ((K, o) :: (base ++ [(F, x)])) := fun p hp => by
  rcases List.mem_cons.mp hp with rfl | hp
  · exact N _ h1
  · rcases List.mem_append.mp hp with hp | hp
    · exact N p (h2 p hp)
    · rw [List.mem_singleton.mp hp]; exact N _ h3
theorem closeH {Q : Value → Shared → Prop} {post : Value → Ledger → Ledger → Prop} {h' : Heap} {all new l2 : Ledger} {r : Value} {tk' : Nat}
    (ret : ∀ r new sub' h' tk', post r new sub' → Fr h₀ L h' m → News h₀ L h' (new ++ sub') → Ends all s.heap h' new → Q r { s with heap := h', toks := tk' })
    (kF : Fr h₀ L h' m) (kN : News h₀ L h' l2) (kE : ∀ x, (∀ p ∈ x, p ∈ l2) → Apart x all → Ends all s.heap h' x) (hn : Sub new l2) (hs : Sub all l2) (ap : Apart new all) (hp : post r new all) : Q r { s with heap := h', toks := tk' } :=
  ret r new all h' tk' hp kF (fun p hm => by
    rcases List.mem_append.mp hm with hm | hm
    · exact kN p (hn p hm)
    · exact kN p (hs p hm)) (kE new hn ap)
theorem name_app {h : Heap} {new base : Ledger} {p q x : Addr × Obj} (N : News h₀ L h (new ++ (p :: q :: (base ++ [x])))) : News h₀ L h ((new ++ (p :: q :: base)) ++ [x]) := by rw [List.append_assoc]; exact N
theorem name_turn {h : Heap} {new pre base : Ledger} {p q x : Addr × Obj} (N : News h₀ L h ((new ++ (p :: q :: (pre ++ base))) ++ [x])) : News h₀ L h (p :: q :: (((new ++ pre) ++ base) ++ [x])) := fun y hy => N y (by
  simp only [List.mem_append, List.mem_cons, List.not_mem_nil, or_false] at hy ⊢
  rcases hy with h | h | ((h | h) | h) | h
  · exact .inl (.inr (.inl h))
  · exact .inl (.inr (.inr (.inl h)))
  · exact .inl (.inl h)
  · exact .inl (.inr (.inr (.inr (.inl h))))
  · exact .inl (.inr (.inr (.inr (.inr h))))
  · exact .inr h)
theorem off_cons {X : Ledger} {p : Addr × Obj} {I : Addr} (h : p.1 ≠ I) (k : ∀ q ∈ X, q.1 ≠ I) : ∀ q ∈ p :: X, q.1 ≠ I := fun q hq => by
  rcases List.mem_cons.mp hq with rfl | hq
  · exact h
  · exact k q hq
theorem off_one {p : Addr × Obj} {I : Addr} (h : p.1 ≠ I) : ∀ q ∈ [p], q.1 ≠ I := fun q hq => by rw [List.mem_singleton.mp hq]; exact h
theorem apart_app {a b l : Ledger} (h : Apart a l) (k : Apart b l) : Apart (a ++ b) l := fun p hp q hq => by
  rcases List.mem_append.mp hp with hp | hp
  · exact h p hp q hq
  · exact k p hp q hq
theorem snoc_vals {ys : List Value} {i : Nat} {y : Value} {v : Nat → Value → Prop} (hl : ys.length = i) (hv : ∀ j x, ys[j]? = some x → v j x) (hy : v i y) : ∀ j x, (ys ++ [y])[j]? = some x → v j x := fun j x e => by
  by_cases hj : j < ys.length
  · rw [List.getElem?_append_left hj] at e
    exact hv j x e
  · rw [List.getElem?_append_right (by omega)] at e
    have hj' : j = ys.length := by
      cases q : j - ys.length with
      | zero => omega
      | succ k => rw [q] at e; simp at e
    subst hj'
    rw [Nat.sub_self] at e
    have e' : y = x := by simpa using e
    rw [← e', hl]; exact hy
theorem upd_last {F : Addr} {o o' : Obj} : ∀ {X : Ledger}, (∀ p ∈ X, p.1 ≠ F) → Upd F o o' (X ++ [(F, o)]) (X ++ [(F, o')])
  | [], _ => .head fun _ h => nomatch h
  | p :: X, h => .tail (h p (List.mem_cons_self ..)) (upd_last fun q hq => h q (List.mem_cons_of_mem _ hq))
theorem push_at {F : Addr} {ys : List Value} {c : Nat} {x : Value} {X led : Ledger} {Q : Value → Shared → Prop} (Fm : Fr h₀ L s.heap m) (N : News h₀ L s.heap led) (hT : Tl [F] X [(F, listOf ys.toArray c)] led) (hz : ys.length ≤ 1000)
    (h : ∀ h' c', Fr h₀ L h' m → News h₀ L h' (X ++ [(F, listOf (ys ++ [x]).toArray c')]) → Q .none { s with heap := h' }) : wpAny (model prog w) A (call (.builtin "list.append") [.ref F, x]) Q E s := by
  replace N : News h₀ L s.heap (X ++ [(F, listOf ys.toArray c)]) := fun p hp => N p (hT.sub p hp)
  refine append_K (its := ys.toArray) (n := c) Fm N (upd_last fun p hp e => hT.off p hp (by rw [e]; exact List.mem_singleton.mpr rfl)) (fun h' F' N' => ?_) (Nat.le_trans (by simpa using hz) (show 1000 ≤ sizeLine by decide))
  exact h h' (c + 1) F' (by simpa using N')
end
end Mine
end
section
open PySem PySem.Spec PySem.Calls PySem.W PyProof.Rows PyProof.Rows.LCg
namespace Mine
abbrev Bx (bx sc : Addr) (bn cn : Nat) (vs : List Value) (p : Int) (u : Tok) : Ledger := [(bx, listOf #[.ref sc, .int p u] bn), (sc, listOf vs.toArray cn)]
theorem apart_off {new M : Ledger} (ap : Apart new M) : ∀ q ∈ new, q.1 ∉ keys M := fun q hq hk => by
  obtain ⟨b, hb, e⟩ := List.mem_map.mp hk
  exact ap q hq b hb e.symm
theorem apart_of_off {new M : Ledger} (h : ∀ q ∈ new, q.1 ∉ keys M) : Apart new M := fun p hp q hq e => h p hp (by rw [show p.1 = q.1 from e]; exact key_of hq)
theorem Sub.cons2 {l l' : Ledger} {p : Addr × Obj} (h : Sub l l') : Sub (p :: l) (p :: l') := fun q hq => by
  rcases List.mem_cons.mp hq with rfl | hq
  · exact List.mem_cons_self ..
  · exact List.mem_cons_of_mem _ (h q hq)
theorem off_mem {ks : List Addr} {X : Ledger} {p : Addr × Obj} (h : p.1 ∉ ks) (k : ∀ q ∈ X, q.1 ∉ ks) : ∀ q ∈ p :: X, q.1 ∉ ks := fun q hq => by
  rcases List.mem_cons.mp hq with rfl | hq
  · exact h
  · exact k q hq
theorem off_of {M : Ledger} {D : Addr} (h : D ∉ keys M) : ∀ q ∈ M, q.1 ≠ D := fun q hq e => h (by rw [← e]; exact key_of hq)
def SomeInt (k : Nat) (y : Value) : Prop := ∃ x, Sm k x ∧ IntV x y
def SomeRow (k n : Nat) (l : Ledger) (y : Value) : Prop := ∃ r, y = .ref r ∧ ListAt l r n fun _ y => SomeInt k y
theorem SomeRow.mono {k n : Nat} {l l' : Ledger} {y : Value} (h : SomeRow k n l y) (hs : Sub l l') : SomeRow k n l' y := by
  obtain ⟨r, e, h⟩ := h
  exact ⟨r, e, h.mono hs fun _ _ e => e⟩
theorem someRow_int {k n : Nat} {l : Ledger} {y : Value} (h : SomeRow k n l y) : ∃ g : Nat → Int, RowV l n g y ∧ ∀ j, j < n → Sm k (g j) := by
  obtain ⟨r, e, vs, c, hm, hl, hv⟩ := h
  have z : ∀ j : Nat, ∃ x, ∀ y, vs[j]? = some y → Sm k x ∧ IntV x y := fun j => by
    cases q : vs[j]? with
    | none => exact ⟨0, fun y e => by cases e⟩
    | some y =>
      obtain ⟨x, h1, h2⟩ := hv j y q
      exact ⟨x, fun y' e => by cases e; exact ⟨h1, h2⟩⟩
  refine ⟨fun j => Classical.choose (z j), ⟨r, e, vs, c, hm, hl, fun j y hy => (Classical.choose_spec (z j) y hy).2⟩, fun j hj => ?_⟩
  exact (Classical.choose_spec (z j) _ (List.getElem?_eq_getElem (by omega))).1
theorem someMat {k n : Nat} {l : Ledger} {vs : List Value} (hl : vs.length = n) (hv : ∀ (j : Nat) x, vs[j]? = some x → SomeRow k n l x) : ∃ f : Nat → Nat → Int, (∀ (j : Nat) x, vs[j]? = some x → RowV l n (f j) x) ∧ Bd k n f := by
  have z : ∀ i : Nat, ∃ g : Nat → Int, ∀ y, vs[i]? = some y → RowV l n g y ∧ ∀ j, j < n → Sm k (g j) := fun i => by
    cases q : vs[i]? with
    | none => exact ⟨fun _ => 0, fun y e => by cases e⟩
    | some y =>
      obtain ⟨g, h⟩ := someRow_int (hv i y q)
      exact ⟨g, fun y' e => by cases e; exact h⟩
  refine ⟨fun i => Classical.choose (z i), fun j x hx => (Classical.choose_spec (z j) x hx).1, fun i j hi hj => ?_⟩
  exact (Classical.choose_spec (z i) _ (List.getElem?_eq_getElem (by omega))).2 j hj

def ElemB (h₀ : Heap) (L : Addr) (m : Str → Option Value) (all : Ledger) (B : Int → Tok → Ledger) (w : Nat) (p : Int) (v : Ledger → Value → Prop) (s₁ : Shared) (y : Value) (s₂ : Shared) : Prop :=
  ∃ h' tk new p' u, s₂ = { s₁ with heap := h', toks := tk } ∧ Fr h₀ L h' m ∧ News h₀ L h' ((new ++ all) ++ B p' u) ∧ p ≤ p' ∧ p' ≤ p + w ∧ Apart new all ∧ (∀ q ∈ new, q.1 ∉ keys (B p' u)) ∧ v new y
section
variable {prog : Program} {w : World} {A : Around} {E : Value → Shared → Prop} {s : Shared} {h₀ : Heap} {L : Addr} {m : Str → Option Value} {env : Env}
theorem restB {cenv : Env} {elt : Expr} {iad : List Addr} {C D : Addr} {asg : Nat → (Str → Option Value) → Ledger → Prop} {Fin : List Value → Ledger → Prop} {n wd : Nat} {X : Ledger} {B : Int → Tok → Ledger} {ks : List Addr} {p₀ : Int} {u₀ : Tok} (hB : ∀ p u, keys (B p u) = ks) (hX : ∀ q ∈ X, q.1 ∉ ks) (v : Ledger → Value → Prop)
    (mono : ∀ l l' y, Sub l l' → v l y → v l' y)
    (step : ∀ i (ys : List Value) rest p u, i < n → Sub X rest → (∀ q ∈ rest, q.1 ∉ ks) → p₀ ≤ p → p ≤ p₀ + (i : Int) * wd → ∀ ios oC cos m₂ h tk (E' : Value → Shared → Prop), asg i m₂ cos → ios.map (·.1) = iad → NsObj oC m₂ → Fr h₀ L h m → News h₀ L h ((ios ++ (C, oC) :: (D, lst ys) :: (cos ++ rest)) ++ B p u) →
      (∀ q ∈ ios ++ (C, oC) :: (D, lst ys) :: (cos ++ []), q.1 ∉ ks) →
      wpAny (model prog w) A (eval elt cenv) (ElemB h₀ L m (ios ++ (C, oC) :: (D, lst ys) :: (cos ++ rest)) B wd p v { s with heap := h, toks := tk }) E' { s with heap := h, toks := tk })
    (fin : ∀ (ys : List Value) pre p u, p₀ ≤ p → p ≤ p₀ + (n : Int) * wd → Apart pre X → (∀ q ∈ pre, q.1 ∉ ks) → (∀ q ∈ pre, q.1 ≠ D) → ys.length = n → (∀ (j : Nat) x, ys[j]? = some x → v pre x) → Fin ys ((pre ++ X) ++ B p u)) :
    RestK prog w A h₀ L m cenv [] elt iad C D s (fun _ => True) asg Fin n 0 [] (X ++ B p₀ u₀) := by
  refine RestK.inv (fun i ys news => ∃ pre p u, news = (pre ++ X) ++ B p u ∧ p₀ ≤ p ∧ p ≤ p₀ + (i : Int) * wd ∧ Apart pre X ∧ (∀ q ∈ pre, q.1 ∉ ks) ∧ (∀ q ∈ pre, q.1 ≠ D) ∧ ys.length = i ∧ ∀ (j : Nat) x, ys[j]? = some x → v pre x) ?_ ?_ n 0 [] _ (Nat.zero_add n)
    ⟨[], p₀, u₀, rfl, Int.le_refl _, by simp, apart_nil, (fun _ h => nomatch h), (fun _ h => nomatch h), rfl, fun j x e => nomatch e⟩
  · rintro i ys _ hi ⟨pre, p, u, rfl, h1, h2, ap, ho, hoD, hl, hv⟩ ios oC cos m₂ h tk E' ha hios hC F N O
    have hoff : ∀ q ∈ ios ++ (C, oC) :: (D, lst ys) :: (cos ++ []), q.1 ∉ ks := fun q hq hk => by
      rw [← hB p u] at hk
      obtain ⟨b, hb, e⟩ := List.mem_map.mp hk
      have z := O.mem b (List.mem_append_right _ hb) q.1 (by
        rw [List.append_nil] at hq
        rcases List.mem_append.mp hq with hq | hq
        · exact List.mem_append_left _ (List.mem_map_of_mem hq)
        · refine List.mem_append_right _ ?_
          rcases List.mem_cons.mp hq with rfl | hq
          · exact List.mem_cons_self ..
          · refine List.mem_cons_of_mem _ ?_
            rcases List.mem_cons.mp hq with rfl | hq
            · exact List.mem_cons_self ..
            · exact List.mem_cons_of_mem _ (List.mem_map_of_mem hq))
      exact z e
    have N1 : News h₀ L h ((ios ++ (C, oC) :: (D, lst ys) :: (cos ++ (pre ++ X))) ++ B p u) := fun q hq => N q (by simpa [List.append_assoc] using hq)
    refine wpAny_mono (step i ys (pre ++ X) p u hi (Sub.app Sub.refl) (fun q hq => by
      rcases List.mem_append.mp hq with hq | hq
      · exact ho q hq
      · exact hX q hq) h1 h2 ios oC cos m₂ h tk E' ha hios hC F N1 hoff) (fun y s₂ he => ?_) fun _ _ e => e
    obtain ⟨h', tk', new, p', u', rfl, F', N', g1, g2, ap', ho', hy⟩ := he
    have O' := own_offs ap' (Offs.of fun q hq b hb => O.mem q (List.mem_append_left _ hq) b hb)
    refine EndK.intro (s₁ := { s with heap := h, toks := tk }) F' N' ((new ++ (pre ++ X)) ++ B p' u') (fun q hq => ?_) ?_ trivial ⟨new ++ pre, p', u', by simp only [List.append_assoc], by omega, ?_, ?_, ?_, ?_, ?_, ?_⟩
    · simp only [List.mem_append, List.mem_cons] at hq ⊢
      rcases hq with h | h | h | h | (h | h | h) | h
      · exact .inl (.inr (.inl h))
      · exact .inl (.inr (.inr (.inl h)))
      · exact .inl (.inr (.inr (.inr (.inl h))))
      · exact .inl (.inr (.inr (.inr (.inr (.inl h)))))
      · exact .inl (.inl h)
      · exact .inl (.inr (.inr (.inr (.inr (.inr (.inl h))))))
      · exact .inl (.inr (.inr (.inr (.inr (.inr (.inr h))))))
      · exact .inr h
    · refine offs_append O' (Offs.of fun q hq b hb e => ?_)
      have hk : b ∈ keys (B p u) := by rw [hB, ← hB p' u', ← e]; exact key_of hq
      obtain ⟨q', hq', e'⟩ := List.mem_map.mp hk
      exact O.mem q' (List.mem_append_right _ hq') b hb e'
    · have : ((i + 1 : Nat) : Int) * wd = (i : Int) * wd + wd := by rw [Int.natCast_add, Int.add_mul]; simp
      omega
    · exact apart_app (fun q hq x hx => ap' q hq x (own_rest _ (List.mem_append_right _ hx))) ap
    · intro q hq
      rcases List.mem_append.mp hq with hq | hq
      · have := ho' q hq
        rwa [hB] at this
      · exact ho q hq
    · exact off_app (fun q hq => ap' q hq (D, lst ys) (List.mem_append_right _ (List.mem_cons_of_mem _ (List.mem_cons_self ..)))) hoD
    · simp [hl]
    · intro j x e
      by_cases hj : j < ys.length
      · rw [List.getElem?_append_left hj] at e
        exact mono _ _ _ (Sub.app Sub.refl) (hv j x e)
      · rw [List.getElem?_append_right (by omega)] at e
        cases q : j - ys.length with
        | zero =>
          rw [q] at e
          have e' : y = x := by simpa using e
          exact e' ▸ mono _ _ _ Sub.left hy
        | succ k => rw [q] at e; simp at e
  · rintro ys _ ⟨pre, p, u, rfl, h1, h2, ap, ho, hoD, hl, hv⟩
    exact fin ys pre p u h1 h2 ap ho hoD hl hv
section src
variable {elt : Expr} {scope : Scope} {cl : List (Str × Addr)} {x : Str} {px : Pos}
theorem SrcB.range0_L {r : Addr} {t u' t' : Tok} {n wd : Nat} {led X : Ledger} {s₁ : Shared} {B : Int → Tok → Ledger} {ks : List Addr} {p₀ : Int} {u₀ : Tok} {Fin : Shared → Addr → List Value → Ledger → Prop} (v : Ledger → Value → Prop) (mono : ∀ l l' y, Sub l l' → v l y → v l' y)
    (hh : A.handled = none) (F : Fr h₀ L s₁.heap m) (N : News h₀ L s₁.heap led) (hB : ∀ p u, keys (B p u) = ks) (hT : Tl ks X (B p₀ u₀) led) (hr : IsRange s₁.heap r 0 (n : Int) 1 t u' t') (hsz : n ≤ 1000) (hkind : scope.kind = .function) (hx : scope.names.lookup x = some .local)
    (step : ∀ (i : Nat) rest p u (I C D : Addr) oI oC oD t m₂ h tk (E' : Value → Shared → Prop), i < n → Sub X rest → (∀ q ∈ rest, q.1 ∉ ks) → p₀ ≤ p → p ≤ p₀ + (i : Int) * wd → I ∉ ks → C ∉ ks → D ∉ ks → NsObj oC m₂ → m₂ x = some (.int (i : Int) t) → Fr h₀ L h m → News h₀ L h ((I, oI) :: (C, oC) :: (D, oD) :: (rest ++ B p u)) →
      wpAny (model prog w) A (eval elt (compEnvC scope cl C env)) (ElemB h₀ L m ((I, oI) :: (C, oC) :: (D, oD) :: rest) B wd p v { s₁ with heap := h, toks := tk }) E' { s₁ with heap := h, toks := tk })
    (fin : ∀ g D (ys : List Value) pre p u, p₀ ≤ p → p ≤ p₀ + (n : Int) * wd → Apart pre X → (∀ q ∈ pre, q.1 ∉ ks) → (∀ q ∈ pre, q.1 ≠ D) → (∀ q ∈ X, @LT.lt Nat _ q.1 D) → D ∉ ks → ys.length = n → (∀ (j : Nat) x, ys[j]? = some x → v pre x) → Fin { s₁ with heap := g } D ys ((pre ++ X) ++ B p u)) :
    SrcK prog w A h₀ L m env (.Name x px) [] elt scope cl none Fin (.ref r) s₁ := by
  refine SrcK.range_L hh F (fun p hp => N p (hT.sub p hp)) hr (range_small (by omega)) (range_size (by omega)) (Nat.le_trans hsz (by decide)) hkind hx fun g I D l1 l2 _ => ?_
  have hD : D ∉ ks := fun hk => by
    rw [← hB p₀ u₀] at hk
    obtain ⟨b, hb, e⟩ := List.mem_map.mp hk
    have := Nat.lt_trans (l1 b (List.mem_append_right _ hb)) l2
    rw [e] at this
    exact Nat.lt_irrefl _ this
  refine restB hB hT.off v mono ?_ fun ys pre p u h1 h2 ap ho hoD hl hv => fin g D ys pre p u h1 h2 ap ho hoD (fun q hq => Nat.lt_trans (l1 q (List.mem_append_left _ hq)) l2) hD hl hv
  intro i ys rest p u hi hs hro h1 h2 ios oC cos m₂ h tk E' ha hios hC F' N' hoff
  obtain ⟨_, ⟨t, rfl⟩, hm, rfl⟩ := ha
  obtain ⟨oI, rfl⟩ := map1 hios
  exact step i rest p u I (D + 1) D oI oC (lst ys) t m₂ h tk E' hi hs hro h1 h2 (hoff _ (List.mem_cons_self ..)) (hoff _ (List.mem_cons_of_mem _ (List.mem_cons_self ..))) (hoff _ (List.mem_cons_of_mem _ (List.mem_cons_of_mem _ (List.mem_cons_self ..)))) hC (by rw [hm, Int.zero_add]) F' N'
end src
theorem mat_row0 {value slice : Expr} {a : Addr} {n : Nat} {u : Tok} {Q : Value → Shared → Prop} {all led : Ledger} {f : Nat → Nat → Int} (N : News h₀ L s.heap led) (hM : MatAt all a n f) (hs : Sub all led) (hi : 0 < n) (hn : n ≤ 1000)
    (hg : subscripted slice false (.ref a) (.int ((0 : Nat) : Int) u) = operate [.ref a, .int ((0 : Nat) : Int) u] (getItem (.ref a) (.int ((0 : Nat) : Int) u))) (h : ∀ r, IntRow all r n (f 0) → Q (.ref r) s) :
    wpAny (model prog w) A (subscriptTail value slice (.ref a) (.int 0 u)) Q E s := mat_row (i := 0) N hM hs hi hn hg h
theorem set_last {l : Addr} {ys : List Value} {n c : Nat} {v : Value} {u : Tok} {X led : Ledger} {Q : Unit → Shared → Prop} (F : Fr h₀ L s.heap m) (N : News h₀ L s.heap led) (hT : Tl [l] X [(l, listOf ys.toArray c)] led) (hl : ys.length = n) (hn : 1 ≤ n) (hn3 : n ≤ 1000)
    (h : ∀ h' c', Fr h₀ L h' m → News h₀ L h' (X ++ [(l, listOf (ys.set (n - 1) v).toArray c')]) → Q () { s with heap := h' }) : wpAny (model prog w) A (setItem (.ref l) (.int ((n : Int) - 1) u) v) Q E s := by
  have e : (n : Int) - 1 = ((n - 1 : Nat) : Int) := by omega
  rw [e]
  refine set_at (M := [(l, listOf ys.toArray c)]) F N hT (List.mem_singleton.mpr rfl) (by omega) (by omega) fun h' c' F' N' => h h' c' F' ?_
  simpa [updL] using N'
end
theorem matLast {ys : List Value} {n : Nat} {pre new3 T : Ledger} {D3 : Addr} {f : Nat → Nat → Int} (hl : ys.length = n) (hf : ∀ (j : Nat) x, ys[j]? = some x → RowV pre n (f j) x) (hr : IntRow new3 D3 n (fun j => 2 * f 0 j)) :
    ∀ (j : Nat) x, (ys.set (n - 1) (.ref D3))[j]? = some x → RowV (new3 ++ (pre ++ T)) n (fun j' => if j = n - 1 then 2 * f 0 j' else f j j') x := fun j x e => by
  by_cases h : j = n - 1
  · subst h
    by_cases hn : n - 1 < ys.length
    · rw [List.getElem?_set_self hn] at e
      cases e
      refine ⟨D3, rfl, (hr.congr fun j hj => ?_).mono Sub.left⟩
      rw [if_pos rfl]
    · rw [List.getElem?_eq_none (by simpa using hn)] at e
      cases e
  · rw [List.getElem?_set_ne (Ne.symm h)] at e
    obtain ⟨r, rfl, hR⟩ := hf j x e
    refine ⟨r, rfl, (hR.congr fun j hj => ?_).mono (Sub.app Sub.left)⟩
    rw [if_neg h]
theorem last_bd {n : Nat} {f : Nat → Nat → Int} (h : Bd 2 n f) : Bd 4 n (fun i j => if i = n - 1 then 2 * f 0 j else f i j) := fun i j hi hj => by
  show Sm 4 (if i = n - 1 then 2 * f 0 j else f i j)
  split
  · have := h 0 j (by omega) hj
    unfold Sm at *
    omega
  · exact (h i j hi hj).mono (by decide)
end Mine
end
section
open PySem PySem.Spec PySem.Calls PySem.W PyProof.Rows PyProof.Rows.LCg
namespace Mine
def PairAt (l : Ledger) (q : Addr) (x : Int) : Prop := (∃ t u c, (q, tupOf #[.int x t, .int 1 u] c) ∈ l) ∨ (q = 72 ∧ x = 1) ∨ (q = 71 ∧ x = 0)
def PairV (l : Ledger) (x : Int) (y : Value) : Prop := ∃ q, y = .ref q ∧ PairAt l q x
theorem PairAt.mono {l l' : Ledger} {q : Addr} {x : Int} (h : PairAt l q x) (hs : Sub l l') : PairAt l' q x := by
  rcases h with ⟨t, u, c, h⟩ | h
  · exact .inl ⟨t, u, c, hs _ h⟩
  · exact .inr h
theorem PairV.mono {l l' : Ledger} {x : Int} {y : Value} (h : PairV l x y) (hs : Sub l l') : PairV l' x y := by
  obtain ⟨q, e, h⟩ := h
  exact ⟨q, e, h.mono hs⟩
def PRow (l : Ledger) (a : Addr) (n : Nat) (f : Nat → Int) : Prop := ListAt l a n fun i y => PairV l (f i) y
def PRowV (l : Ledger) (n : Nat) (f : Nat → Int) (y : Value) : Prop := ∃ r, y = .ref r ∧ PRow l r n f
def PMat (l : Ledger) (a : Addr) (n : Nat) (f : Nat → Nat → Int) : Prop := ListAt l a n fun i y => PRowV l n (f i) y
theorem PRow.mono {l l' : Ledger} {a : Addr} {n : Nat} {f : Nat → Int} (h : PRow l a n f) (hs : Sub l l') : PRow l' a n f := ListAt.mono h hs fun _ _ e => e.mono hs
theorem PRowV.mono {l l' : Ledger} {y : Value} {n : Nat} {f : Nat → Int} (h : PRowV l n f y) (hs : Sub l l') : PRowV l' n f y := by
  obtain ⟨r, e, h⟩ := h
  exact ⟨r, e, h.mono hs⟩
theorem PMat.mono {l l' : Ledger} {a : Addr} {n : Nat} {f : Nat → Nat → Int} (h : PMat l a n f) (hs : Sub l l') : PMat l' a n f := ListAt.mono h hs fun _ _ e => e.mono hs
theorem pair_new {q : Addr} {x y z : Int} {ty tz : Tok} {k : Nat} {l : Ledger} (hy : y = x) (hz : z = 1) : PairAt ((q, tupOf #[.int y ty, .int z tz] k) :: l) q x := by
  subst hy; subst hz
  exact .inl ⟨_, _, _, List.mem_cons_self ..⟩
section
variable {prog : Program} {w : World} {A : Around} {E : Value → Shared → Prop} {s : Shared} {h₀ : Heap} {L : Addr} {m : Str → Option Value}
theorem pair_get {l led : Ledger} {q : Addr} {x : Int} (F : Fr h₀ L s.heap m) (N : News h₀ L s.heap led) (X : (kk.heap_39 w.params).In h₀) (hP : PairAt l q x) (hs : Sub l led) : IsTup s.heap q #[.int x 0, .int 1 0] ∨ ∃ t u, IsTup s.heap q #[.int x t, .int 1 u] := by
  rcases hP with ⟨t, u, c, h⟩ | ⟨rfl, rfl⟩ | ⟨rfl, rfl⟩
  · exact .inr ⟨t, u, _, (N _ (hs _ h)).1, rfl, _, rfl⟩
  · exact .inr ⟨_, _, _, kin_get X F rfl, rfl, _, rfl⟩
  · exact .inr ⟨_, _, _, kin_get X F rfl, rfl, _, rfl⟩
theorem pair_tup {l led : Ledger} {q : Addr} {x : Int} (F : Fr h₀ L s.heap m) (N : News h₀ L s.heap led) (X : (kk.heap_39 w.params).In h₀) (hP : PairAt l q x) (hs : Sub l led) : ∃ t u, IsTup s.heap q #[.int x t, .int 1 u] := by
  rcases pair_get F N X hP hs with h | h
  · exact ⟨_, _, h⟩
  · exact h
theorem pair_0 {value slice : Expr} {l led : Ledger} {q : Addr} {x : Int} {u : Tok} {Q : Value → Shared → Prop} (F : Fr h₀ L s.heap m) (N : News h₀ L s.heap led) (X : (kk.heap_39 w.params).In h₀) (hP : PairAt l q x) (hs : Sub l led)
    (hg : subscripted slice false (.ref q) (.int 0 u) = operate [.ref q, .int 0 u] (getItem (.ref q) (.int 0 u))) (h : ∀ t, Q (.int x t) s) : wpAny (model prog w) A (subscriptTail value slice (.ref q) (.int 0 u)) Q E s := by
  obtain ⟨t, u', ht⟩ := pair_tup F N X hP hs
  exact tail_any ht.typeIs slot_tuple_getitem.lookup (getItem_tuple ht (by decide) (by decide) (j := 0) (by rfl) (by rfl) (h t)) hg
theorem pair_1 {value slice : Expr} {l led : Ledger} {q : Addr} {x : Int} {u : Tok} {Q : Value → Shared → Prop} (F : Fr h₀ L s.heap m) (N : News h₀ L s.heap led) (X : (kk.heap_39 w.params).In h₀) (hP : PairAt l q x) (hs : Sub l led)
    (hg : subscripted slice false (.ref q) (.int 1 u) = operate [.ref q, .int 1 u] (getItem (.ref q) (.int 1 u))) (h : ∀ t, Q (.int 1 t) s) : wpAny (model prog w) A (subscriptTail value slice (.ref q) (.int 1 u)) Q E s := by
  obtain ⟨t, u', ht⟩ := pair_tup F N X hP hs
  exact tail_any ht.typeIs slot_tuple_getitem.lookup (getItem_tuple ht (by decide) (by decide) (j := 1) (by rfl) (by rfl) (h u')) hg
end
end Mine
end
section
open PySem PySem.Spec PySem.Calls PySem.W PyProof.Rows PyProof.Rows.LCg
namespace Mine
section
variable {prog : Program} {w : World} {A : Around} {E : Value → Shared → Prop} {s : Shared} {h₀ : Heap} {L : Addr} {m : Str → Option Value} {value slice : Expr} {a : Addr} {n : Nat} {u : Tok} {Q : Value → Shared → Prop} {all led : Ledger}
theorem pmat_row {f : Nat → Nat → Int} {i : Nat} (N : News h₀ L s.heap led) (hM : PMat all a n f) (hs : Sub all led) (hi : i < n) (hn : n ≤ 1000)
    (hg : subscripted slice false (.ref a) (.int (i : Int) u) = operate [.ref a, .int (i : Int) u] (getItem (.ref a) (.int (i : Int) u))) (h : ∀ r, PRow all r n (f i) → Q (.ref r) s) :
    wpAny (model prog w) A (subscriptTail value slice (.ref a) (.int (i : Int) u)) Q E s :=
  at_sub N hM hs hi hn hg fun x ⟨r, e, hr⟩ => e ▸ h r hr
theorem prow_pair {f : Nat → Int} {i : Nat} (N : News h₀ L s.heap led) (hM : PRow all a n f) (hs : Sub all led) (hi : i < n) (hn : n ≤ 1000)
    (hg : subscripted slice false (.ref a) (.int (i : Int) u) = operate [.ref a, .int (i : Int) u] (getItem (.ref a) (.int (i : Int) u))) (h : ∀ q, PairAt all q (f i) → Q (.ref q) s) :
    wpAny (model prog w) A (subscriptTail value slice (.ref a) (.int (i : Int) u)) Q E s :=
  at_sub N hM hs hi hn hg fun x ⟨q, e, hq⟩ => e ▸ h q hq
theorem pmat_row0 {f : Nat → Nat → Int} (N : News h₀ L s.heap led) (hM : PMat all a n f) (hs : Sub all led) (hi : 0 < n) (hn : n ≤ 1000)
    (hg : subscripted slice false (.ref a) (.int ((0 : Nat) : Int) u) = operate [.ref a, .int ((0 : Nat) : Int) u] (getItem (.ref a) (.int ((0 : Nat) : Int) u))) (h : ∀ r, PRow all r n (f 0) → Q (.ref r) s) :
    wpAny (model prog w) A (subscriptTail value slice (.ref a) (.int 0 u)) Q E s := pmat_row (i := 0) N hM hs hi hn hg h
theorem pmat_len {f : Nat → Nat → Int} (N : News h₀ L s.heap led) (hM : PMat all a n f) (hs : Sub all led) (hn : n ≤ 1000)
    (h : ∀ t tk, Q (.int (n : Int) t) { s with toks := tk }) : wpAny (model prog w) A (call (.builtin "len") [.ref a]) Q E s := at_len N hM hs hn h
theorem prow_len {f : Nat → Int} (N : News h₀ L s.heap led) (hM : PRow all a n f) (hs : Sub all led) (hn : n ≤ 1000)
    (h : ∀ t tk, Q (.int (n : Int) t) { s with toks := tk }) : wpAny (model prog w) A (call (.builtin "len") [.ref a]) Q E s := at_len N hM hs hn h
end
theorem allLt_all {d : Addr} : ∀ {l : Ledger}, AllLt d l → ∀ p ∈ l, @LT.lt Nat _ p.1 d
  | [], _, _, h => nomatch h
  | q :: r, h, p, hp => by
    rcases List.mem_cons.mp hp with rfl | hp
    · exact h.1
    · exact allLt_all h.2 p hp
theorem name_sub {h₀ h : Heap} {L : Addr} {led all : Ledger} (N : News h₀ L h led) (hs : Sub all led) : News h₀ L h all := fun p hp => N p (hs p hp)
theorem trans_pmat {l l' l'' : Ledger} {c : Addr} {n : Nat} {f : Nat → Nat → Int} (h : ListAt l c n (fun i y => ∃ r, y = .ref r ∧ ListAt l r n (fun j y => PairV l' (f j i) y))) (h1 : Sub l l'') (h2 : Sub l' l'') : PMat l'' c n (fun i j => f j i) :=
  h.mono h1 fun i y ⟨r, e, hr⟩ => ⟨r, e, hr.mono h1 fun j y hy => hy.mono h2⟩
theorem name_loop {h₀ h : Heap} {L : Addr} {new pre all : Ledger} {p : Addr × Obj} (N : News h₀ L h (new ++ (p :: (pre ++ all)))) : News h₀ L h (p :: ((new ++ pre) ++ all)) := fun x hx => N x (by
  simp only [List.mem_append, List.mem_cons] at hx ⊢
  rcases hx with h | (h | h) | h
  · exact .inr (.inl h)
  · exact .inl h
  · exact .inr (.inr (.inl h))
  · exact .inr (.inr (.inr h)))
def unitF : Nat → Nat → Int := fun i j => if i = j then 1 else 0
theorem row_pairs {l : Ledger} {a : Addr} {n : Nat} {f : Nat → Int} (h : PRow l a n f) : ListAt l a n fun i y => PairV l (f i) y := h
def dotN (f g : Nat → Int) : Nat → Int
  | 0 => 0
  | i + 1 => dotN f g i + f i * g i
def sumTo (f : Nat → Int) : Nat → Int
  | 0 => 0
  | i + 1 => sumTo f i + f i
theorem sumTo_sm {k n : Nat} {f : Nat → Int} (h : ∀ i, i < n → Sm k (f i)) : ∀ i, i ≤ n → Sm (k + i) (sumTo f i) := by
  intro i
  induction i with
  | zero => intro _; exact (show Sm 0 0 by unfold Sm; decide).mono (Nat.zero_le _)
  | succ i ih => intro hi; exact Sm.mono ((ih (by omega)).add (h i (by omega))) (by omega)
theorem dotN_eq {f g : Nat → Int} : ∀ i, dotN f g i = sumTo (fun i => f i * g i) i := by
  intro i
  induction i with
  | zero => rfl
  | succ i ih => rw [dotN, sumTo, ih]
theorem dotN_sm {k n : Nat} {f g : Nat → Int} (h : ∀ i, i < n → Sm k (f i)) (h' : ∀ i, i < n → Sm k (g i)) (i : Nat) (hi : i ≤ n) : Sm (k + k + i) (dotN f g i) := by
  rw [dotN_eq]
  exact sumTo_sm (fun i hi => (h i hi).mul (h' i hi)) i hi
section
variable {prog : Program} {w : World} {A : Around} {E : Value → Shared → Prop} {s : Shared} {h₀ : Heap} {env : Env}
theorem UnrPostW.mono {L : Addr} {its : Ledger} {rest rest' : (Str → Option Value) → Ledger → Prop} {Q : Flow → Shared → Prop} {f : Flow} {s₁ s₂ : Shared} (h : UnrPostW h₀ L s₁ its rest Q f s₂) (k : ∀ m l, rest m l → rest' m l) : UnrPostW h₀ L s₁ its rest' Q f s₂ := by
  have key : UnrEndW h₀ L s₁ its rest s₂ → UnrEndW h₀ L s₁ its rest' s₂ := fun ⟨h', tk, m', news', e, F, N, O, r⟩ => ⟨h', tk, m', news', e, F, N, O, k _ _ r⟩
  cases f with
  | ret v => exact h
  | brk => exact h
  | next => exact key h
  | cont => exact key h
theorem items_inv {target : Expr} {body : List Stmt} {Q : Flow → Shared → Prop} {I : Addr} {lp : Addr × Obj} {vs : List Value} (Inv : Nat → (Str → Option Value) → Ledger → Prop)
    (step : ∀ (i : Nat) v m news, vs[i]? = some v → Inv i m news → ∀ T t h tk oe oi, IsTup h T #[.int (i : Int) t, v] → Fr h₀ env.locals h m → News h₀ env.locals h ((I + 1, oe) :: (I, oi) :: news) →
      wpAny (model prog w) A (assign target env (.ref T)) (fun _ s₂ => wpAny (model prog w) A (execs body env) (UnrPostW h₀ env.locals { s with heap := h, toks := tk } [(I + 1, oe), (I, oi)] (fun m' n' => SubL [lp] n' ∧ Inv (i + 1) m' n') Q) E s₂) E { s with heap := h, toks := tk })
    (fin : ∀ m news, Inv vs.length m news → ∀ h tk, Fr h₀ env.locals h m → News h₀ env.locals h news → Q .next { s with heap := h, toks := tk }) :
    ∀ (ws : List Value) (i : Nat) m news, vs.drop i = ws → i + ws.length = vs.length → Inv i m news → ItemsRest prog w A E h₀ env target body Q s [(I + 1, "enumerate"), (I, "list_iterator")] [lp] (enumItems i ws) m news := by
  intro ws
  induction ws with
  | nil => intro i m news e hl h; exact ItemsRest.zero (fin m news ((show i = vs.length by simpa using hl) ▸ h))
  | cons v r ih =>
    intro i m news e hl h
    have hv : vs[i]? = some v := by rw [← List.head?_drop, e]; rfl
    have he : vs.drop (i + 1) = r := by rw [← List.tail_drop, e]; rfl
    refine ItemsRest.pair fun T t g tk hT F => ?_
    refine AllObj.cons fun oe _ => AllObj.cons fun oi _ => AllObj.nil fun N => ?_
    exact wpAny_mono (step i v m news hv h T t g tk oe oi hT F N) (fun _ s₂ h₂ => wpAny_mono h₂ (fun f s₃ p => UnrPostW.mono p fun m' l ⟨k1, k2⟩ => ⟨k1, ih (i + 1) m' l he (by simp at hl; omega) k2⟩) fun _ _ e => e) fun _ _ e => e
theorem endW {L : Addr} {h' : Heap} {tk : Nat} {m' : Str → Option Value} {rest : (Str → Option Value) → Ledger → Prop} {s₁ : Shared} {e d : Addr × Obj} {n6 n5 pre all : Ledger} (F : Fr h₀ L h' m') (N : News h₀ L h' (n6 ++ (n5 ++ (e :: d :: (pre ++ all))))) (off : ∀ p ∈ (n6 ++ (n5 ++ pre)) ++ all, p.1 ≠ d.1 ∧ p.1 ≠ e.1)
    (r : rest m' ((n6 ++ (n5 ++ pre)) ++ all)) : UnrEndW h₀ L s₁ [e, d] rest { s₁ with heap := h', toks := tk } :=
  ⟨h', tk, m', _, rfl, F, fun p hp => N p (by
    simp only [List.mem_append, List.mem_cons, List.not_mem_nil, or_false] at hp ⊢
    rcases hp with (h | h) | (h | h | h) | h
    · exact .inr (.inr (.inl h))
    · exact .inr (.inr (.inr (.inl h)))
    · exact .inl h
    · exact .inr (.inl h)
    · exact .inr (.inr (.inr (.inr (.inl h))))
    · exact .inr (.inr (.inr (.inr (.inr h))))), fun p hp q hq => by
    rcases List.mem_cons.mp hq with rfl | hq
    · exact (off p hp).2
    · rw [List.mem_singleton.mp hq]; exact (off p hp).1, r⟩
theorem off2 {X Y : Ledger} {d e : Addr} (h : ∀ p ∈ X, p.1 ≠ d ∧ p.1 ≠ e) (k : ∀ p ∈ Y, p.1 ≠ d ∧ p.1 ≠ e) : ∀ p ∈ X ++ Y, p.1 ≠ d ∧ p.1 ≠ e := fun p hp => by
  rcases List.mem_append.mp hp with hp | hp
  · exact h p hp
  · exact k p hp
theorem apart_two {new all : Ledger} {e d : Addr × Obj} (h : Apart new (e :: d :: all)) : ∀ p ∈ new, p.1 ≠ d.1 ∧ p.1 ≠ e.1 := fun p hp => ⟨h p hp d (List.mem_cons_of_mem _ (List.mem_cons_self ..)), h p hp e (List.mem_cons_self ..)⟩
end
section
variable {prog : Program} {w : World} {A : Around} {E : Value → Shared → Prop} {s : Shared} {x y : Int} {t u : Tok} {Q : Value → Shared → Prop}
theorem eq_int_same (e : x = y) (h : Q (.bool true) s) : wpAny (model prog w) A (compareOp .Eq (.int x t) (.int y u)) Q E s := by
  refine eq_int ?_
  rw [e, beq_self_eq_true]; exact h
end
end Mine
end
section
open PySem PySem.Spec PySem.Calls PySem.W PyProof.Rows PyProof.Rows.LCg
namespace Mine
theorem PMat.congr {l : Ledger} {a : Addr} {n : Nat} {f g : Nat → Nat → Int} (h : PMat l a n f) (e : ∀ i j, i < n → j < n → f i j = g i j) : PMat l a n g := by
  obtain ⟨vs, c, hm, hl, hv⟩ := h
  refine ⟨vs, c, hm, hl, fun i x hx => ?_⟩
  have hi : i < n := by
    have := (List.getElem?_eq_some_iff.mp hx).1
    omega
  obtain ⟨r, e', vs', c', hm', hl', hv'⟩ := hv i x hx
  refine ⟨r, e', vs', c', hm', hl', fun j y hy => ?_⟩
  have hj : j < n := by
    have := (List.getElem?_eq_some_iff.mp hy).1
    omega
  show PairV l (g i j) y
  rw [← e i j hi hj]
  exact hv' j y hy
def pmulF (n : Nat) (f g : Nat → Nat → Int) : Nat → Nat → Int := fun i j => dotN (f i) (fun k => g k j) n
def dvF (n : Nat) (f : Nat → Nat → Int) (i : Nat) : Int := if i = 0 then sumTo (fun k => f k k) n else f 0 1 * f 1 0 - f 0 0 * f 1 1
def cpP (n : Nat) (f : Nat → Nat → Int) : Nat → Nat → Nat → Int
  | 0 => unitF
  | i + 1 => fun r c => pmulF n f (cpP n f i) r c + unitF r c * (0 - dvF n f i)
def cfF (n : Nat) (f : Nat → Nat → Int) : Nat → Int
  | 0 => 1
  | j + 1 => 0 - dvF n f j
theorem dv_eq {n i : Nat} {f : Nat → Nat → Int} (hn : n ≤ 2) (hi : i < n) : (i = 0 ∧ sumTo (fun k => pmulF n f (cpP n f i) k k) n = dvF n f i) ∨ (i = 1 ∧ sumTo (fun k => pmulF n f (cpP n f i) k k) n = 2 * dvF n f i) := by
  rcases (show (n = 1 ∧ i = 0) ∨ (n = 2 ∧ i = 0) ∨ (n = 2 ∧ i = 1) by omega) with ⟨rfl, rfl⟩ | ⟨rfl, rfl⟩ | ⟨rfl, rfl⟩
  · exact .inl ⟨rfl, by simp [sumTo, pmulF, cpP, dotN, unitF, dvF]⟩
  · exact .inl ⟨rfl, by simp [sumTo, pmulF, cpP, dotN, unitF, dvF]⟩
  · refine .inr ⟨rfl, ?_⟩
    simp [sumTo, pmulF, cpP, dotN, unitF, dvF]
    grind
theorem unit_bd {n : Nat} : Bd 1 n unitF := fun i j _ _ => by
  unfold unitF Sm
  split <;> decide
theorem pmul_bd {k n : Nat} {f g : Nat → Nat → Int} (h : Bd k n f) (h' : Bd k n g) : Bd (k + k + n) n (pmulF n f g) := fun i j hi hj => dotN_sm (fun k hk => h i k hi hk) (fun k hk => h' k j hk hj) n (Nat.le_refl _)
theorem dv_sm {n i : Nat} {f : Nat → Nat → Int} (hn : n ≤ 2) (hi : i < n) (h : Bd 30 n f) : Sm 61 (dvF n f i) := by
  unfold dvF
  split
  · exact (sumTo_sm (f := fun k => f k k) (fun i hi => h i i hi hi) n (Nat.le_refl _)).mono (by omega)
  · obtain rfl : n = 2 := by omega
    exact ((h 0 1 (by omega) (by omega)).mul (h 1 0 (by omega) (by omega))).sub ((h 0 0 (by omega) (by omega)).mul (h 1 1 (by omega) (by omega)))
theorem cpP_bd {n : Nat} {f : Nat → Nat → Int} (hn : n ≤ 2) (h : Bd 30 n f) {i : Nat} (hi : i < n) : Bd 80 n (cpP n f i) := by
  rcases (show i = 0 ∨ i = 1 by omega) with rfl | rfl
  · exact unit_bd.mono (by omega)
  · intro r c hr hc
    have h1 := pmul_bd h (unit_bd.mono (show 1 ≤ 30 by omega)) r c hr hc
    have h2 := dv_sm hn (show 0 < n by omega) h
    exact Sm.mono (h1.add ((unit_bd r c hr hc).mul ((show Sm 1 0 by unfold Sm; decide).sub h2))) (by omega)

theorem one_val {y : Value} {v : Nat → Value → Prop} (h : v 0 y) : ∀ (j : Nat) x, [y][j]? = some x → v j x := fun j x e => by
  cases j with
  | zero => cases e; exact h
  | succ j => cases e
theorem off_memS {X : Ledger} {D : Addr} (h : ∀ p ∈ X, p.1 ≠ D) : ∀ p ∈ X, p.1 ∉ [D] := fun p hp q => h p hp (List.mem_singleton.mp q)
theorem off_memL {X : Ledger} {p : Addr × Obj} {D : Addr} (h : p.1 ≠ D) (k : ∀ p ∈ X, p.1 ≠ D) : ∀ q ∈ p :: X, q.1 ∉ [D] := off_memS (off_cons h k)
theorem rev_val {ys : List Value} {n : Nat} {v : Nat → Value → Prop} (hl : ys.length = n + 1) (hv : ∀ (j : Nat) x, ys[j]? = some x → v j x) : ∀ (i : Nat) x, ys.reverse[i]? = some x → v (n - i) x := fun i x e => by
  have hi : i < ys.length := by
    have := (List.getElem?_eq_some_iff.mp e).1
    simpa using this
  rw [List.getElem?_reverse hi] at e
  have e2 : ys.length - 1 - i = n - i := by omega
  rw [e2] at e
  exact hv _ _ e
structure Good (pre all : Ledger) (I Fd : Addr) : Prop where
  ap : Apart pre all
  oI : ∀ p ∈ pre, p.1 ≠ I
  oF : ∀ p ∈ pre, p.1 ≠ Fd
section
variable {h₀ : Heap} {L : Addr}
theorem name_three {h : Heap} {led new all : Ledger} {x : Addr × Obj} (N : News h₀ L h led) (h1 : Sub new led) (h2 : Sub all led) (h3 : x ∈ led) : News h₀ L h ((new ++ all) ++ [x]) := fun q hq => N q (by
  rcases List.mem_append.mp hq with hq | hq
  · rcases List.mem_append.mp hq with hq | hq
    · exact h1 q hq
    · exact h2 q hq
  · rw [List.mem_singleton.mp hq]; exact h3)
theorem cp_next {h : Heap} {new pre all : Ledger} {p x : Addr × Obj} {led : Ledger} (N : News h₀ L h (new ++ led)) (ap : Apart new led) (hG : Good pre all p.1 x.1) (hs : Sub (p :: ((pre ++ all) ++ [x])) led) :
    ∃ pre', Good pre' all p.1 x.1 ∧ News h₀ L h (p :: ((pre' ++ all) ++ [x])) ∧ Sub new pre' ∧ Sub pre pre' := by
  have ap' : Apart new (p :: ((pre ++ all) ++ [x])) := fun a ha b hb => ap a ha b (hs b hb)
  refine ⟨new ++ pre, ⟨apart_app (fun a ha b hb => ap' a ha b (List.mem_cons_of_mem _ (List.mem_append_left _ (List.mem_append_right _ hb)))) hG.ap, off_app (fun a ha => ap' a ha p (List.mem_cons_self ..)) hG.oI,
    off_app (fun a ha => ap' a ha x (List.mem_cons_of_mem _ (List.mem_append_right _ (List.mem_cons_self ..)))) hG.oF⟩, fun q hq => N q ?_, Sub.left, Sub.app Sub.refl⟩
  rcases List.mem_cons.mp hq with rfl | hq
  · exact List.mem_append_right _ (hs _ (List.mem_cons_self ..))
  · rcases List.mem_append.mp hq with hq | hq
    · rcases List.mem_append.mp hq with hq | hq
      · rcases List.mem_append.mp hq with hq | hq
        · exact List.mem_append_left _ hq
        · exact List.mem_append_right _ (hs _ (List.mem_cons_of_mem _ (List.mem_append_left _ (List.mem_append_left _ hq))))
      · exact List.mem_append_right _ (hs _ (List.mem_cons_of_mem _ (List.mem_append_left _ (List.mem_append_right _ hq))))
    · exact List.mem_append_right _ (hs _ (List.mem_cons_of_mem _ (List.mem_append_right _ hq)))
end
section
variable {prog : Program} {w : World} {A : Around} {E : Value → Shared → Prop} {s : Shared} {h₀ : Heap} {L : Addr} {m : Str → Option Value}
theorem rev_at {D : Addr} {ys : List Value} {c : Nat} {X led : Ledger} {Q : Value → Shared → Prop} (Fm : Fr h₀ L s.heap m) (N : News h₀ L s.heap led) (hT : Tl [D] X [(D, listOf ys.toArray c)] led) (hz : ys.length ≤ 1000)
    (h : ∀ h' c', Fr h₀ L h' m → News h₀ L h' (X ++ [(D, listOf ys.reverse.toArray c')]) → Q .none { s with heap := h' }) : wpAny (model prog w) A (call (.builtin "list.reverse") [.ref D]) Q E s := by
  replace N : News h₀ L s.heap (X ++ [(D, listOf ys.toArray c)]) := fun p hp => N p (hT.sub p hp)
  exact kl_reverse (its := ys.toArray) (n := c) (l := ys.reverse) Fm N (by simp) (upd_last fun p hp e => hT.off p hp (by rw [e]; exact List.mem_singleton.mpr rfl)) (Nat.le_trans (by simpa using hz) (show 1000 ≤ sizeLine by decide)) fun h' F' N' => h h' c F' N'
end
end Mine
end
section
namespace Mine
theorem sum1 {g : Nat → Int} : sumN 1 g = g 0 + 0 := rfl
theorem sum2 {g : Nat → Int} : sumN 2 g = g 0 + (g 1 + 0) := rfl
theorem sum3 {g : Nat → Int} : sumN 3 g = g 0 + (g 1 + (g 2 + 0)) := rfl
theorem f00 : (((0 : Nat) : Int) + ((0 : Nat) : Int)).fmod 2 = 0 := by decide
theorem f01 : (((0 : Nat) : Int) + ((1 : Nat) : Int)).fmod 2 = 1 := by decide
theorem f02 : (((0 : Nat) : Int) + ((2 : Nat) : Int)).fmod 2 = 0 := by decide
theorem f10 : (((1 : Nat) : Int) + ((0 : Nat) : Int)).fmod 2 = 1 := by decide
theorem f11 : (((1 : Nat) : Int) + ((1 : Nat) : Int)).fmod 2 = 0 := by decide
theorem f12 : (((1 : Nat) : Int) + ((2 : Nat) : Int)).fmod 2 = 1 := by decide
theorem f20 : (((2 : Nat) : Int) + ((0 : Nat) : Int)).fmod 2 = 0 := by decide
theorem f21 : (((2 : Nat) : Int) + ((1 : Nat) : Int)).fmod 2 = 1 := by decide
theorem f22 : (((2 : Nat) : Int) + ((2 : Nat) : Int)).fmod 2 = 0 := by decide
theorem adjF1 {f : Nat → Nat → Int} : adjF 1 f 0 0 = 1 := rfl
theorem adjF2 {f : Nat → Nat → Int} : adjF 2 f 0 0 = f 1 1 ∧ adjF 2 f 0 1 = -f 0 1 ∧ adjF 2 f 1 0 = -f 1 0 ∧ adjF 2 f 1 1 = f 0 0 := by
  simp only [adjF, f00, f01, f10, f11, minF, skip, detF]
  simp
theorem adjF3 {f : Nat → Nat → Int} : adjF 3 f 0 0 = f 1 1 * f 2 2 - f 1 2 * f 2 1 ∧ adjF 3 f 0 1 = -(f 0 1 * f 2 2 - f 0 2 * f 2 1) ∧ adjF 3 f 0 2 = f 0 1 * f 1 2 - f 0 2 * f 1 1 ∧
    adjF 3 f 1 0 = -(f 1 0 * f 2 2 - f 1 2 * f 2 0) ∧ adjF 3 f 1 1 = f 0 0 * f 2 2 - f 0 2 * f 2 0 ∧ adjF 3 f 1 2 = -(f 0 0 * f 1 2 - f 0 2 * f 1 0) ∧
    adjF 3 f 2 0 = f 1 0 * f 2 1 - f 1 1 * f 2 0 ∧ adjF 3 f 2 1 = -(f 0 0 * f 2 1 - f 0 1 * f 2 0) ∧ adjF 3 f 2 2 = f 0 0 * f 1 1 - f 0 1 * f 1 0 := by
  simp only [adjF, f00, f01, f02, f10, f11, f12, f20, f21, f22, minF, skip, detF]
  simp
theorem nn3 {n : Nat} (h1 : 1 ≤ n) (h3 : n ≤ 3) : n = 1 ∨ n = 2 ∨ n = 3 := by omega
theorem detF_times {n : Nat} {f g : Nat → Nat → Int} (h1 : 1 ≤ n) (h3 : n ≤ 3) : detF n (timesF n f g) = detF n f * detF n g := by
  rcases nn3 h1 h3 with rfl | rfl | rfl
  · simp [detF, timesF, sum1]
  · simp only [detF, timesF, sum2]; grind
  · simp only [detF, timesF, sum3]; grind
theorem detF_T {n : Nat} {f : Nat → Nat → Int} (h1 : 1 ≤ n) (h3 : n ≤ 3) : detF n (fun i j => f j i) = detF n f := by
  rcases nn3 h1 h3 with rfl | rfl | rfl
  · rfl
  · simp only [detF]; grind
  · simp only [detF]; grind
theorem adjF_times {n : Nat} {f g : Nat → Nat → Int} (h1 : 1 ≤ n) (h3 : n ≤ 3) (i j : Nat) (hi : i < n) (hj : j < n) : adjF n (timesF n f g) i j = timesF n (adjF n g) (adjF n f) i j := by
  rcases nn3 h1 h3 with rfl | rfl | rfl
  · obtain rfl : i = 0 := by omega
    obtain rfl : j = 0 := by omega
    rfl
  · obtain ⟨a1, a2, a3, a4⟩ := adjF2 (f := timesF 2 f g)
    obtain ⟨b1, b2, b3, b4⟩ := adjF2 (f := f)
    obtain ⟨c1, c2, c3, c4⟩ := adjF2 (f := g)
    rcases lt2 hi with rfl | rfl <;> rcases lt2 hj with rfl | rfl <;> simp only [a1, a2, a3, a4] <;> simp only [timesF, sum2, b1, b2, b3, b4, c1, c2, c3, c4] <;> clear a1 a2 a3 a4 b1 b2 b3 b4 c1 c2 c3 c4 <;> grind
  · obtain ⟨a1, a2, a3, a4, a5, a6, a7, a8, a9⟩ := adjF3 (f := timesF 3 f g)
    obtain ⟨b1, b2, b3, b4, b5, b6, b7, b8, b9⟩ := adjF3 (f := f)
    obtain ⟨c1, c2, c3, c4, c5, c6, c7, c8, c9⟩ := adjF3 (f := g)
    rcases lt3 hi with rfl | rfl | rfl <;> rcases lt3 hj with rfl | rfl | rfl <;> simp only [a1, a2, a3, a4, a5, a6, a7, a8, a9] <;> simp only [timesF, sum3, b1, b2, b3, b4, b5, b6, b7, b8, b9, c1, c2, c3, c4, c5, c6, c7, c8, c9] <;> clear a1 a2 a3 a4 a5 a6 a7 a8 a9 b1 b2 b3 b4 b5 b6 b7 b8 b9 c1 c2 c3 c4 c5 c6 c7 c8 c9 <;> grind
theorem adjF_T {n : Nat} {f : Nat → Nat → Int} (h1 : 1 ≤ n) (h3 : n ≤ 3) (i j : Nat) (hi : i < n) (hj : j < n) : adjF n (fun i j => f j i) i j = adjF n f j i := by
  rcases nn3 h1 h3 with rfl | rfl | rfl
  · obtain rfl : i = 0 := by omega
    obtain rfl : j = 0 := by omega
    rfl
  · obtain ⟨a1, a2, a3, a4⟩ := adjF2 (f := fun i j => f j i)
    obtain ⟨b1, b2, b3, b4⟩ := adjF2 (f := f)
    rcases lt2 hi with rfl | rfl <;> rcases lt2 hj with rfl | rfl <;> simp only [a1, a2, a3, a4, b1, b2, b3, b4]
  · obtain ⟨a1, a2, a3, a4, a5, a6, a7, a8, a9⟩ := adjF3 (f := fun i j => f j i)
    obtain ⟨b1, b2, b3, b4, b5, b6, b7, b8, b9⟩ := adjF3 (f := f)
    rcases lt3 hi with rfl | rfl | rfl <;> rcases lt3 hj with rfl | rfl | rfl <;> simp only [a1, a2, a3, a4, a5, a6, a7, a8, a9, b1, b2, b3, b4, b5, b6, b7, b8, b9] <;> clear a1 a2 a3 a4 a5 a6 a7 a8 a9 b1 b2 b3 b4 b5 b6 b7 b8 b9 <;> grind
theorem adjF_adj {n : Nat} {f : Nat → Nat → Int} (h1 : 1 < n) (h3 : n ≤ 3) (i j : Nat) (hi : i < n) (hj : j < n) : adjF n (adjF n f) i j = (if n = 2 then 1 else detF n f) * f i j := by
  rcases (show n = 2 ∨ n = 3 by omega) with rfl | rfl
  · obtain ⟨a1, a2, a3, a4⟩ := adjF2 (f := adjF 2 f)
    obtain ⟨b1, b2, b3, b4⟩ := adjF2 (f := f)
    rw [if_pos rfl]
    rcases lt2 hi with rfl | rfl <;> rcases lt2 hj with rfl | rfl <;> simp only [a1, a2, a3, a4, b1, b2, b3, b4] <;> simp
  · obtain ⟨a1, a2, a3, a4, a5, a6, a7, a8, a9⟩ := adjF3 (f := adjF 3 f)
    obtain ⟨b1, b2, b3, b4, b5, b6, b7, b8, b9⟩ := adjF3 (f := f)
    rw [if_neg (by decide)]
    rcases lt3 hi with rfl | rfl | rfl <;> rcases lt3 hj with rfl | rfl | rfl <;> simp only [a1, a2, a3, a4, a5, a6, a7, a8, a9, b1, b2, b3, b4, b5, b6, b7, b8, b9, detF] <;> clear a1 a2 a3 a4 a5 a6 a7 a8 a9 b1 b2 b3 b4 b5 b6 b7 b8 b9 <;> grind
theorem cf_eq {n i : Nat} {f g : Nat → Nat → Int} (h1 : 1 ≤ n) (h2 : n ≤ 2) (e1 : sumTo (fun k => f k k) n = sumTo (fun k => g k k) n) (e2 : n = 2 → f 0 1 * f 1 0 - f 0 0 * f 1 1 = g 0 1 * g 1 0 - g 0 0 * g 1 1) (hi : i < n + 1) : cfF n f (n - i) = cfF n g (n - i) := by
  cases h : n - i with
  | zero => rfl
  | succ j =>
    show 0 - dvF n f j = 0 - dvF n g j
    unfold dvF
    by_cases hj : j = 0
    · rw [if_pos hj, if_pos hj, e1]
    · rw [if_neg hj, if_neg hj, e2 (by omega)]
theorem cf_times {n i : Nat} {f g : Nat → Nat → Int} (h1 : 1 ≤ n) (h2 : n ≤ 2) (hi : i < n + 1) : cfF n (timesF n f g) (n - i) = cfF n (timesF n g f) (n - i) := by
  refine cf_eq h1 h2 ?_ (fun h => ?_) hi
  · rcases (show n = 1 ∨ n = 2 by omega) with rfl | rfl
    · simp only [sumTo, timesF, sum1]; grind
    · simp only [sumTo, timesF, sum2]; grind
  · subst h
    simp only [timesF, sum2]; grind
theorem cf_T {n i : Nat} {f : Nat → Nat → Int} (h1 : 1 ≤ n) (h2 : n ≤ 2) (hi : i < n + 1) : cfF n (fun i j => f j i) (n - i) = cfF n f (n - i) := by
  refine cf_eq h1 h2 rfl (fun h => ?_) hi
  grind
theorem times_bd {k n : Nat} {f g : Nat → Nat → Int} (hn : n ≤ 3) (h : Bd k n f) (h' : Bd k n g) : Bd (2 * k + 4) n (timesF n f g) := fun i j hi hj => by
  have z : ∀ l, l < n → Sm (k + k) (f i l * g l j) := fun l hl => (h i l hi hl).mul (h' l j hl hj)
  have s0 : Sm 0 0 := by unfold Sm; decide
  rcases (show n = 0 ∨ n = 1 ∨ n = 2 ∨ n = 3 by omega) with rfl | rfl | rfl | rfl
  · omega
  · exact Sm.mono ((z 0 (by omega)).add s0) (by omega)
  · exact Sm.mono ((z 0 (by omega)).add ((z 1 (by omega)).add s0)) (by omega)
  · exact Sm.mono ((z 0 (by omega)).add ((z 1 (by omega)).add ((z 2 (by omega)).add s0))) (by omega)
end Mine
end
section
open PySem PySem.Spec PySem.Calls PySem.W PyProof.Rows PyProof.Rows.LCg
namespace Mine
def rowD (n : Nat) (f : Nat → Int) : PyData := .list ((List.range n).map fun j => .int (f j))
def matD (n : Nat) (f : Nat → Nat → Int) : PyData := .list ((List.range n).map fun i => rowD n (f i))
def pairsD (n : Nat) (f : Nat → Int) : PyData := .list ((List.range n).map fun i => .tuple [.int (f i), .int 1])
theorem nin2 {x a b : Addr} (h : @LT.lt Nat _ x a) (k : @LT.lt Nat _ x b) : x ∉ [a, b] := fun q => by
  rcases List.mem_cons.mp q with rfl | q
  · exact Nat.lt_irrefl _ h
  · rw [List.mem_singleton.mp q] at k; exact Nat.lt_irrefl _ k
theorem readsAll_of {h : Heap} : ∀ {vs : List Value} {d : Nat → PyData}, (∀ (i : Nat) x, vs[i]? = some x → ∃ as, Reads h x (d i) as) → ∃ as, ReadsAll h vs ((List.range vs.length).map d) as := by
  intro vs
  induction vs with
  | nil => intro d _; exact ⟨_, ReadsAll.nil⟩
  | cons v r ih =>
    intro d hv
    obtain ⟨as, ha⟩ := hv 0 v rfl
    obtain ⟨bs, hb⟩ := ih (d := fun i => d (i + 1)) fun i x e => hv (i + 1) x e
    rw [List.length_cons, List.range_succ_eq_map, List.map_cons, List.map_map]
    exact ⟨_, ReadsAll.cons ha hb⟩
section
variable {prog : Program} {w : World} {A : Around} {E : Value → Shared → Prop} {s : Shared} {h₀ : Heap} {L : Addr} {m : Str → Option Value} {l l' led : Ledger} {a b : Addr} {n : Nat} {Q : Value → Shared → Prop}
theorem reads_at {q : Nat → Value → Prop} {d : Nat → PyData} (N : News h₀ L s.heap led) (hM : ListAt l a n q) (hs : Sub l led) (hq : ∀ i x, q i x → ∃ as, Reads s.heap x (d i) as) : ∃ as, Reads s.heap (.ref a) (.list ((List.range n).map d)) as := by
  obtain ⟨vs, c, hm, hl, hv⟩ := hM
  obtain ⟨as, ha⟩ := readsAll_of (vs := vs) (d := d) fun i x e => hq i x (hv i x e)
  rw [hl] at ha
  exact ⟨_, reads_list_at (N.get (hs _ hm)) rfl rfl (by simpa using ha)⟩
theorem reads_mat {f : Nat → Nat → Int} (N : News h₀ L s.heap led) (hM : MatAt l a n f) (hs : Sub l led) : ∃ as, Reads s.heap (.ref a) (matD n f) as := by
  refine reads_at N hM hs fun i x ⟨r, e, hr⟩ => ?_
  subst e
  exact reads_at N hr hs fun j y ⟨t, e⟩ => ⟨_, e ▸ Reads.int _ _⟩
theorem reads_pairs {f : Nat → Int} (F : Fr h₀ L s.heap m) (N : News h₀ L s.heap led) (X : (kk.heap_39 w.params).In h₀) (hM : ListAt l a n fun i y => PairV l (f i) y) (hs : Sub l led) : ∃ as, Reads s.heap (.ref a) (pairsD n f) as := by
  refine reads_at N hM hs fun i x ⟨q, e, hq⟩ => ?_
  subst e
  obtain ⟨t, u, o, ho, hc, k, hd⟩ := pair_tup F N X hq hs
  exact ⟨_, reads_tuple_at ho hc hd (ReadsAll.cons (Reads.int _ _) (ReadsAll.cons (Reads.int _ _) ReadsAll.nil))⟩
theorem matD_congr {f g : Nat → Nat → Int} (e : ∀ i j, i < n → j < n → f i j = g i j) : matD n f = matD n g := by
  unfold matD rowD
  refine congrArg PyData.list (List.map_congr_left fun i hi => congrArg PyData.list (List.map_congr_left fun j hj => ?_))
  rw [e i j (List.mem_range.mp hi) (List.mem_range.mp hj)]
theorem pairsD_congr {f g : Nat → Int} (e : ∀ i, i < n → f i = g i) : pairsD n f = pairsD n g := by
  unfold pairsD
  refine congrArg PyData.list (List.map_congr_left fun i hi => ?_)
  rw [e i (List.mem_range.mp hi)]
theorem matD_ok (hn : n ≤ 3) {f : Nat → Nat → Int} : plain (matD n f) = true ∧ SeqAt.shaped (matD n f) = true := by
  rcases (show n = 0 ∨ n = 1 ∨ n = 2 ∨ n = 3 by omega) with rfl | rfl | rfl | rfl <;> exact ⟨rfl, rfl⟩
theorem pairsD_ok (hn : n ≤ 3) {f : Nat → Int} : plain (pairsD n f) = true ∧ SeqAt.shaped (pairsD n f) = true := by
  rcases (show n = 0 ∨ n = 1 ∨ n = 2 ∨ n = 3 by omega) with rfl | rfl | rfl | rfl <;> exact ⟨rfl, rfl⟩
theorem ne_mat {f g : Nat → Nat → Int} (N : News h₀ L s.heap led) (hA : MatAt l a n f) (hB : MatAt l' b n g) (h1 : Sub l led) (h2 : Sub l' led) (hn : n ≤ 3) (e : ∀ i j, i < n → j < n → f i j = g i j) (hu : A.units + 64 < cLine) (h : Q (.bool false) s) :
    wpAny (model prog w) A (compareOp .NotEq (.ref a) (.ref b)) Q E s := by
  obtain ⟨as, ra⟩ := reads_mat N hA h1
  obtain ⟨bs, rb⟩ := reads_mat N hB h2
  exact ne_same ra rb (matD_congr e) (matD_ok hn).1 (matD_ok hn).2 hu h
theorem eq_pairs {f g : Nat → Int} (F : Fr h₀ L s.heap m) (N : News h₀ L s.heap led) (X : (kk.heap_39 w.params).In h₀) (hA : ListAt l a n fun i y => PairV l (f i) y) (hB : ListAt l' b n fun i y => PairV l' (g i) y) (h1 : Sub l led) (h2 : Sub l' led) (hn : n ≤ 3) (e : ∀ i, i < n → f i = g i) (hu : A.units + 64 < cLine) (h : Q (.bool true) s) :
    wpAny (model prog w) A (compareOp .Eq (.ref a) (.ref b)) Q E s := by
  obtain ⟨as, ra⟩ := reads_pairs F N X hA h1
  obtain ⟨bs, rb⟩ := reads_pairs F N X hB h2
  exact eq_same ra rb (pairsD_congr e) (pairsD_ok hn).1 (pairsD_ok hn).2 hu h
theorem pow_law {x y : Int} {t u : Tok} {k : Nat} (hs : Sm k x) (hk : k ≤ 64) (hy : y = (n : Int) - 2) (h1 : 1 < n) (h3 : n ≤ 3) (h : Q (.int (if n = 2 then 1 else x) s.toks) { s with toks := s.toks + 1 }) : wpAny (model prog w) A (binaryOp .Pow (.int x t) (.int y u)) Q E s := by
  rcases (show n = 2 ∨ n = 3 by omega) with rfl | rfl
  · exact pow0 hs hk (by omega) h
  · exact pow1 hs hk (by omega) h
end
theorem law_rest {h₀ h : Heap} {L : Addr} {K1 Kn : Addr} {oA oN : Obj} {new8 new7 led : Ledger} (N : News h₀ L h led) (h1 : (K1, oA) ∈ led) (h2 : (Kn, oN) ∈ led) (h3 : Sub new8 led) (h4 : Sub new7 led) (o8 : ∀ p ∈ new8, p.1 ≠ K1) (o7 : ∀ p ∈ new7, p.1 ≠ K1) (hne : @Ne Nat Kn K1) :
    ∃ rest, News h₀ L h ((K1, oA) :: rest) ∧ (∀ p ∈ rest, p.1 ≠ K1) ∧ Sub new8 rest ∧ Sub new7 rest ∧ (Kn, oN) ∈ rest := by
  refine ⟨(Kn, oN) :: (new8 ++ new7), fun p hp => ?_, off_cons hne (off_app o8 o7), Sub.cons Sub.left, Sub.cons (Sub.app Sub.refl), List.mem_cons_self ..⟩
  rcases List.mem_cons.mp hp with rfl | hp
  · exact N _ h1
  · rcases List.mem_cons.mp hp with rfl | hp
    · exact N _ h2
    · rcases List.mem_append.mp hp with hp | hp
      · exact N p (h3 p hp)
      · exact N p (h4 p hp)
theorem law_pool {h₀ h : Heap} {L : Addr} {p : Addr × Obj} {rest : Ledger} (N : News h₀ L h (p :: rest)) : ∃ led, News h₀ L h led ∧ p ∈ led ∧ Sub rest led := ⟨_, N, List.mem_cons_self .., Sub.cons Sub.refl⟩
theorem next_led {h₀ h : Heap} {L : Addr} {new led : Ledger} (N : News h₀ L h (new ++ led)) : ∃ led', News h₀ L h led' ∧ Sub new led' ∧ Sub led led' := ⟨_, N, Sub.left, Sub.app Sub.refl⟩
theorem Tl.app {ks : List Addr} {X M led new : Ledger} (h : ∀ q ∈ new, q.1 ∉ ks) (k : Tl ks X M led) : Tl ks (new ++ X) M (new ++ led) := ⟨fun q hq => by
  rw [List.append_assoc] at hq
  rcases List.mem_append.mp hq with hq | hq
  · exact List.mem_append_left _ hq
  · exact List.mem_append_right _ (k.sub q hq), fun q hq => by
  rcases List.mem_append.mp hq with hq | hq
  · exact h q hq
  · exact k.off q hq⟩
end Mine
end
section
open PySem PySem.Spec PySem.Calls PySem.W PyProof.Rows PyProof.Rows.LCg
namespace Mine
section
variable {w : World} {A₀ : Around} {E : Value → Shared → Prop} {s : Shared} {L : Addr} {h₀ base : Heap} {m mg mb : Str → Option Value} {mean : ExcName → Option Value} {Q : Value → Shared → Prop} {lv : Nat} {f : Addr} {led all : Ledger} {vs : List Value} {dp un : Nat} {gd : Option (List Code)} {cn : Str} {cs : Scope} {a : Addr} {ccd : Value} {cl : List (Str × Addr)} {outer : List Env}
theorem step_int {x : Int} (F : Fr h₀ L s.heap m) (N : News h₀ L s.heap all) (H : Says lv w mean mg mb f led vs (fun r new sub' => sub' = led ∧ new = [] ∧ ∃ t, r = .int x t)) (hs : Sub led all) (B : Below A₀ base outer h₀) (X : (kk.heap_39 w.params).In h₀) (T : Top vw (looseW vw []) mean mg mb h₀)
    (hk : cs.kind = .function) (hd : dp + 20 * (lv + 1) < 1000) (hu : un + 200 * (lv + 1) < 9900)
    (ret : ∀ t h' tk', Fr h₀ L h' m → News h₀ L h' all → Q (.int x t) { s with heap := h', toks := tk' }) :
    wpAny (model PySem.Challenge.rw_sa0092_01.row.prog w) (ktrTop dp un gd cn cs L a ccd cl outer) (call (.ref f) vs) Q E s :=
  says_readG F N H hs B X T hk hd hu (fun _ _ _ h => h.1) fun r new h' tk' ⟨_, e, t, er⟩ F' N' _ => by
    subst e; subst er; exact ret t h' tk' F' N'
theorem step_ref {V : Ledger → Addr → Prop} (F : Fr h₀ L s.heap m) (N : News h₀ L s.heap all) (H : Says lv w mean mg mb f led vs (fun r new sub' => sub' = led ∧ ∃ c, r = .ref c ∧ V new c)) (mono : ∀ l l' c, Sub l l' → V l c → V l' c) (hs : Sub led all) (B : Below A₀ base outer h₀) (X : (kk.heap_39 w.params).In h₀) (T : Top vw (looseW vw []) mean mg mb h₀)
    (hk : cs.kind = .function) (hd : dp + 20 * (lv + 1) < 1000) (hu : un + 200 * (lv + 1) < 9900)
    (ret : ∀ c h' tk' led', Fr h₀ L h' m → News h₀ L h' led' → Sub all led' → V led' c → Q (.ref c) { s with heap := h', toks := tk' }) :
    wpAny (model PySem.Challenge.rw_sa0092_01.row.prog w) (ktrTop dp un gd cn cs L a ccd cl outer) (call (.ref f) vs) Q E s :=
  says_readG F N H hs B X T hk hd hu (fun _ _ _ h => h.1) fun r new h' tk' ⟨_, c, er, v⟩ F' N' _ => by
    subst er; exact ret c h' tk' _ F' N' (Sub.app Sub.refl) (mono _ _ _ Sub.left v)
end
end Mine
end
section
open PySem PySem.Spec PySem.Calls PySem.W PyProof.Rows PyProof.Rows.LCg
namespace Mine
local macro_rules | `(tactic| walk_at "Z sm") => `(tactic| (repeat' (first | ((with_reducible show Sm _ _); with_reducible assumption) | exact Sm.of8 (by decide) | with_reducible refine' Sm.mul ?_ ?_ | with_reducible refine' Sm.add ?_ ?_ | with_reducible refine' Sm.sub ?_ ?_ | with_reducible refine' Sm.neg ?_ | with_reducible refine' Sm.fdiv ?_)))
local macro_rules | `(tactic| walk_at "Z ep") => `(tactic| (refine' enter_plain ?k1 ?k2 ?k3 ?k4 ?k5 ?kA ?kF ?kK ?k6 ?k7 ?k8 ?k9 ?kB ?_ ?c2 ?c3 ?c4 ?c5; (case kA => exact rfl); (case kF => exact rfl); (case kK => first | assumption | exact rfl); (case k1 => k_asm); (case k2 => k_asm); (case k3 => k_asm); (case k4 => k_asm); (case k5 => k_asm); (case k6 => k_is); (case k7 => k_is); (case k8 => ktr_room); (case k9 => exact BindsTo.of_eq rfl); (case c5 => decide); (case kB => exact locs rfl); (case c2 => exact rfl); (case c3 => exact rfl); (case c4 => exact rfl); k_whole; intro g' L' h' FG' F' N' B' X' T' KG' l1; (try k_lt l1); (try dsimp only); (try k_lift B'); (try k_fold)))
local macro_rules | `(tactic| k_enter) => `(tactic| walk_at "Z ep")
local macro_rules | `(tactic| walk_at "call ref") => `(tactic| (k_here; refine stopK ?_))
local macro_rules | `(tactic| ktr_room) => `(tactic| ((simp only [depth_under_make, depth_under_kw, depth_in1, depth_deeper, depth_caller, recursionLimit] at *); omega))
local macro_rules | `(tactic| lcg_calm) => `(tactic| skip)
local macro_rules | `(tactic| walk_at "LeaveK") => `(tactic| ((with_reducible refine leave_own (by assumption) (by assumption) (by assumption) ?_); intro kF kN kE; (try ground_anew kF); (try (have kX := kFor kF (by k_asm))); (try dsimp only)))
local macro_rules | `(tactic| mul_fits) => `(tactic| (refine' Mine.IntMulOk.of_sm ?h1 ?h2 ?l1 ?l2; (case h1 => walk_at "Z sm"); (case h2 => walk_at "Z sm"); (case l1 => decide); (case l2 => decide)))
local macro_rules | `(tactic| walk_at "binaryOp Mult int int") => `(tactic| (refine' mul_int ?_ ?h; (case h => mul_fits)))
local macro_rules | `(tactic| walk_at "binaryOp FloorDiv int int") => `(tactic| ((refine' floordiv_int ?n ?_ (Or.inl (PyProof.noPylong_of_log2 (Sm.log2 ?h ?l))); (case n => first | with_reducible assumption | decide); (case h => walk_at "Z sm"); (case l => decide))))
local macro_rules | `(tactic| walk_at "eval Call") => `(tactic| (k_here; k_dflt (refine Call_ ?_)))
local macro_rules | `(tactic| walk_at "Z room") => `(tactic| first | omega | (simp only [depth_under_make, depth_under_kw, depth_in1, depth_deeper, depth_caller, units_in1, units_deeper, units_caller] at *; omega))
local macro_rules | `(tactic| walk_at "Z sub") => `(tactic| first | exact Sub.refl | exact Sub.left | with_reducible assumption | (refine Sub.cons ?_; walk_at "Z sub") | (refine Sub.app ?_; walk_at "Z sub") | (refine Sub.appL ?_; walk_at "Z sub"))

section
local macro_rules | `(tactic| walk_at "subscriptTail Name Constant ref int") => `(tactic| (k_here; k_dflt (refine' sub_led ?N ?m ?a ?b ?x ?s ?_; (case N => k_asm); (case m => k_mem); (case a => decide); (case b => decide); (case x => exact Nat.le_of_ble_eq_true rfl); (case s => with_unfolding_all rfl)); intro v' hv'; lcg_open hv'))
local macro_rules | `(tactic| k_ne) => `(tactic| (refine neN ?_; (try dsimp only); first | omega | (refine' ne_of_neL ?h ?m; (case h => with_reducible assumption); (case m => k_mem)) | (refine' ne_of_neL' ?h ?m; (case h => with_reducible assumption); (case m => k_mem))))

section
theorem take (w : World) (mean : ExcName → Option Value) (mg mb : Str → Option Value) (bx sc : Addr) (bn cn' : Nat) (vs : List Value) (ns : List Int) (hi : IntsAre vs ns) (hle : ns.length ≤ 30) (p : Int) (hp0 : 0 ≤ p) (hp1 : p < 100) (tp tm : Tok) (k : Int) (hk0 : 0 < k) (hk1 : k < 10) (hne : @Ne Nat bx sc) :
    Says 0 w mean mg mb 179 [(bx, listOf #[.ref sc, .int p tp] bn), (sc, listOf vs.toArray cn')] [.ref bx, .int k tm]
      (fun r new sub' => new = [] ∧ ∃ v t u, r = .int v t ∧ 0 ≤ v ∧ v < k ∧ sub' = [(bx, listOf #[.ref sc, .int (p + 1) u] bn), (sc, listOf vs.toArray cn')]) := by
  unfold Says
  k_fill
  intro dp un gd cn cs ca ccd cl outer A₀ base h₀ L m s Q E B F X N T hk hd hu ret
  refine wpAny_call ?_
  k_dflt (first | k_enter | fail "the helper is not entered")
  k_steps
  all_goals (
    refine' close_ret ret ?kF ?kN (by assumption) ⟨rfl, _, _, _, rfl, ?v0, ?v1, rfl⟩ ?h1 ?h2 ?h3
    (case kF => with_reducible assumption)
    (case kN => with_reducible assumption)
    (case h1 => exact sub_nil)
    (case h2 => ((repeat (refine' sub_cons ?m ?_; (case m => k_mem))); exact sub_nil))
    (case h3 => exact apart_nil)
    (case v0 => exact fmod_lo (by assumption))
    (case v1 => exact fmod_hi (by assumption)))

end
local macro_rules | `(tactic| walk_at "WhlIf") => `(tactic| (first | (refine WhlIf.no fm1 ?_) | (refine WhlIf.no (fm2 (by assumption)) ?_)))

section
theorem gcdA (w : World) (mean : ExcName → Option Value) (mg mb : Str → Option Value) (all : Ledger) (x : Int)  (tx t1 : Tok) :
    Says 0 w mean mg mb 70 all [.int x tx, .int 1 t1] (fun r new sub' => sub' = all ∧ new = [] ∧ ∃ t, r = .int 1 t) := by
  unfold Says
  k_fill
  intro dp un gd cn cs ca ccd cl outer A₀ base h₀ L m s Q E B F X N T hk hd hu ret
  refine wpAny_call ?_
  k_dflt (first | k_enter | fail "the helper is not entered")
  k_steps
  all_goals exact closeN ret (by k_asm) (by k_asm) (by k_asm) (by repeat first | exact Sub.refl | refine Sub.cons ?_) ⟨rfl, rfl, _, rfl⟩
theorem gcdB (w : World) (mean : ExcName → Option Value) (mg mb : Str → Option Value) (all : Ledger) (x : Int) (q : Int) (hx : x = 2 * q) (tx t1 : Tok) :
    Says 0 w mean mg mb 70 all [.int x tx, .int 2 t1] (fun r new sub' => sub' = all ∧ new = [] ∧ ∃ t, r = .int 2 t) := by
  unfold Says
  k_fill
  intro dp un gd cn cs ca ccd cl outer A₀ base h₀ L m s Q E B F X N T hk hd hu ret
  refine wpAny_call ?_
  k_dflt (first | k_enter | fail "the helper is not entered")
  k_steps
  all_goals exact closeN ret (by k_asm) (by k_asm) (by k_asm) (by repeat first | exact Sub.refl | refine Sub.cons ?_) ⟨rfl, rfl, _, rfl⟩
theorem ratA (w : World) (mean : ExcName → Option Value) (mg mb : Str → Option Value) (all : Ledger) (x : Int)  (tx t1 : Tok) (hs : Sm 1000 x) :
    Says 1 w mean mg mb 79 all [.int x tx, .int 1 t1] (fun r new sub' => sub' = all ∧ ∃ p, r = .ref p ∧ PairAt new p x) := by
  unfold Says
  k_fill
  intro dp un gd cn cs ca ccd cl outer A₀ base h₀ L m s Q E B F X N T hk hd hu ret
  refine wpAny_call ?_
  k_dflt (first | k_enter | fail "the helper is not entered")
  k_steps
  unfold Stopped
  refine says_readG (lv := 0) (by k_asm) (by k_asm) (gcdA w mean mg mb all x _ _) Sub.refl (by k_asm) (by k_asm) (by k_asm) rfl (by walk_at "Z room") (by walk_at "Z room") (fun _ _ _ h => h.1) ?_
  rintro r5 new5 h5 tk5 ⟨_, rfl, t5, rfl⟩ F5 N5 _
  replace N5 : News _ _ h5 all := N5
  k_steps
  refine closeG (new := [_]) ret (by k_asm) (by k_asm) (by k_asm) (apart_lt ?_) Sub.refl ⟨rfl, _, rfl, pair_new (fd1) (fd1)⟩
  assumption
theorem ratB (w : World) (mean : ExcName → Option Value) (mg mb : Str → Option Value) (all : Ledger) (x : Int) (q : Int) (hx : x = 2 * q) (tx t1 : Tok) (hs : Sm 1000 x) :
    Says 1 w mean mg mb 79 all [.int x tx, .int 2 t1] (fun r new sub' => sub' = all ∧ ∃ p, r = .ref p ∧ PairAt new p q) := by
  unfold Says
  k_fill
  intro dp un gd cn cs ca ccd cl outer A₀ base h₀ L m s Q E B F X N T hk hd hu ret
  refine wpAny_call ?_
  k_dflt (first | k_enter | fail "the helper is not entered")
  k_steps
  unfold Stopped
  refine says_readG (lv := 0) (by k_asm) (by k_asm) (gcdB w mean mg mb all x q hx _ _) Sub.refl (by k_asm) (by k_asm) (by k_asm) rfl (by walk_at "Z room") (by walk_at "Z room") (fun _ _ _ h => h.1) ?_
  rintro r5 new5 h5 tk5 ⟨_, rfl, t5, rfl⟩ F5 N5 _
  replace N5 : News _ _ h5 all := N5
  k_steps
  refine closeG (new := [_]) ret (by k_asm) (by k_asm) (by k_asm) (apart_lt ?_) Sub.refl ⟨rfl, _, rfl, pair_new (fd2 hx) (fd2 (q := 1) (by decide))⟩
  assumption

end
section
local macro_rules | `(tactic| walk_at "subscriptTail Name Constant ref int") => `(tactic| (k_here; k_dflt (first | ((with_reducible show wpAny _ _ (subscriptTail _ _ (Value.ref _) (Value.int 0 _)) _ _ _); refine pair_0 (by k_asm) (by k_asm) (by k_asm) (by with_reducible assumption) (by walk_at "Z sub") (by with_unfolding_all rfl) ?_; intro t') | ((with_reducible show wpAny _ _ (subscriptTail _ _ (Value.ref _) (Value.int 1 _)) _ _ _); refine pair_1 (by k_asm) (by k_asm) (by k_asm) (by with_reducible assumption) (by walk_at "Z sub") (by with_unfolding_all rfl) ?_; intro t'))))
local macro_rules | `(tactic| walk_at "Z sub") => `(tactic| first | exact Sub.refl | exact Sub.left | with_reducible assumption | (refine Sub.cons ?_; walk_at "Z sub") | (refine Sub.app ?_; walk_at "Z sub"))
theorem raddG (w : World) (mean : ExcName → Option Value) (mg mb : Str → Option Value) (all : Ledger) (a b : Addr) (x y : Int) (hx : Sm 400 x) (hy : Sm 400 y) (hA : PairAt all a x) (hB : PairAt all b y) :
    Says 2 w mean mg mb 86 all [.ref a, .ref b] (fun r new sub' => sub' = all ∧ ∃ q, r = .ref q ∧ PairAt new q (x + y)) := by
  unfold Says
  k_fill
  intro dp un gd cn cs ca ccd cl outer A₀ base h₀ L m s Q E B F X N T hk hd hu ret
  refine wpAny_call ?_
  k_dflt (first | k_enter | fail "the helper is not entered")
  k_steps
  unfold Stopped
  refine says_readG (lv := 1) (by k_asm) (by k_asm) (ratA w mean mg mb [] (x * 1 + y * 1) _ _ (Sm.mono (Sm.add (hx.mul (Sm.of8 (by decide))) (hy.mul (Sm.of8 (by decide)))) (by decide))) (fun _ h => nomatch h) (by k_asm) (by k_asm) (by k_asm) rfl (by walk_at "Z room") (by walk_at "Z room") (fun _ _ _ h => h.1) ?_
  rintro r5 new5 h5 tk5 ⟨_, q5, rfl, hP5⟩ F5 N5 ap5
  k_steps
  exact closeG (new := new5) (led := all) ret (by k_asm) (by k_asm) (by k_asm) ap5 Sub.refl ⟨rfl, _, rfl, by simpa using hP5⟩
theorem rmulG (w : World) (mean : ExcName → Option Value) (mg mb : Str → Option Value) (all : Ledger) (a b : Addr) (x y : Int) (hx : Sm 400 x) (hy : Sm 400 y) (hA : PairAt all a x) (hB : PairAt all b y) :
    Says 2 w mean mg mb 93 all [.ref a, .ref b] (fun r new sub' => sub' = all ∧ ∃ q, r = .ref q ∧ PairAt new q (x * y)) := by
  unfold Says
  k_fill
  intro dp un gd cn cs ca ccd cl outer A₀ base h₀ L m s Q E B F X N T hk hd hu ret
  refine wpAny_call ?_
  k_dflt (first | k_enter | fail "the helper is not entered")
  k_steps
  unfold Stopped
  refine says_readG (lv := 1) (by k_asm) (by k_asm) (ratA w mean mg mb [] (x * y) _ _ (Sm.mono (hx.mul hy) (by decide))) (fun _ h => nomatch h) (by k_asm) (by k_asm) (by k_asm) rfl (by walk_at "Z room") (by walk_at "Z room") (fun _ _ _ h => h.1) ?_
  rintro r5 new5 h5 tk5 ⟨_, q5, rfl, hP5⟩ F5 N5 ap5
  k_steps
  exact closeG (new := new5) (led := all) ret (by k_asm) (by k_asm) (by k_asm) ap5 Sub.refl ⟨rfl, _, rfl, by simpa using hP5⟩
theorem rdivA (w : World) (mean : ExcName → Option Value) (mg mb : Str → Option Value) (all : Ledger) (a b : Addr) (x : Int)  (hs : Sm 400 x) (hA : PairAt all a x) (hB : PairAt all b 1) :
    Says 2 w mean mg mb 100 all [.ref a, .ref b] (fun r new sub' => sub' = all ∧ ∃ p, r = .ref p ∧ PairAt new p x) := by
  unfold Says
  k_fill
  intro dp un gd cn cs ca ccd cl outer A₀ base h₀ L m s Q E B F X N T hk hd hu ret
  refine wpAny_call ?_
  k_dflt (first | k_enter | fail "the helper is not entered")
  k_steps
  unfold Stopped
  refine says_readG (lv := 1) (by k_asm) (by k_asm) (ratA w mean mg mb [] (x * 1) _ _ (Sm.mono (hs.mul (Sm.of8 (by decide))) (by decide))) (fun _ h => nomatch h) (by k_asm) (by k_asm) (by k_asm) rfl (by walk_at "Z room") (by walk_at "Z room") (fun _ _ _ h => h.1) ?_
  rintro r5 new5 h5 tk5 ⟨_, q5, rfl, hP5⟩ F5 N5 ap5
  k_steps
  exact closeG (new := new5) (led := all) ret (by k_asm) (by k_asm) (by k_asm) ap5 Sub.refl ⟨rfl, _, rfl, by simpa using hP5⟩
theorem rdivB (w : World) (mean : ExcName → Option Value) (mg mb : Str → Option Value) (all : Ledger) (a b : Addr) (x : Int) (q : Int) (hq : x = 2 * q) (hs : Sm 400 x) (hA : PairAt all a x) (hB : PairAt all b 2) :
    Says 2 w mean mg mb 100 all [.ref a, .ref b] (fun r new sub' => sub' = all ∧ ∃ p, r = .ref p ∧ PairAt new p q) := by
  unfold Says
  k_fill
  intro dp un gd cn cs ca ccd cl outer A₀ base h₀ L m s Q E B F X N T hk hd hu ret
  refine wpAny_call ?_
  k_dflt (first | k_enter | fail "the helper is not entered")
  k_steps
  unfold Stopped
  refine says_readG (lv := 1) (by k_asm) (by k_asm) (ratB w mean mg mb [] (x * 1) q (by rw [Int.mul_one]; exact hq) _ _ (Sm.mono (hs.mul (Sm.of8 (by decide))) (by decide))) (fun _ h => nomatch h) (by k_asm) (by k_asm) (by k_asm) rfl (by walk_at "Z room") (by walk_at "Z room") (fun _ _ _ h => h.1) ?_
  rintro r5 new5 h5 tk5 ⟨_, q5, rfl, hP5⟩ F5 N5 ap5
  k_steps
  exact closeG (new := new5) (led := all) ret (by k_asm) (by k_asm) (by k_asm) ap5 Sub.refl ⟨rfl, _, rfl, by simpa using hP5⟩
theorem rnegG (w : World) (mean : ExcName → Option Value) (mg mb : Str → Option Value) (all : Ledger) (a : Addr) (x : Int) (hA : PairAt all a x) :
    Says 0 w mean mg mb 107 all [.ref a] (fun r new sub' => sub' = all ∧ ∃ p, r = .ref p ∧ PairAt new p (0 - x)) := by
  unfold Says
  k_fill
  intro dp un gd cn cs ca ccd cl outer A₀ base h₀ L m s Q E B F X N T hk hd hu ret
  refine wpAny_call ?_
  k_dflt (first | k_enter | fail "the helper is not entered")
  k_steps
  refine closeG (new := [_]) ret (by k_asm) (by k_asm) (by k_asm) (apart_lt ?_) Sub.refl ⟨rfl, _, rfl, pair_new rfl rfl⟩
  assumption

theorem rdivG (w : World) (mean : ExcName → Option Value) (mg mb : Str → Option Value) (all : Ledger) (a b : Addr) (x d q : Int) (hs : Sm 400 x) (hA : PairAt all a x) (hB : PairAt all b d) (h : (d = 1 ∧ x = q) ∨ (d = 2 ∧ x = 2 * q)) :
    Says 2 w mean mg mb 100 all [.ref a, .ref b] (fun r new sub' => sub' = all ∧ ∃ p, r = .ref p ∧ PairAt new p q) := by
  rcases h with ⟨rfl, rfl⟩ | ⟨rfl, h⟩
  · exact rdivA w mean mg mb all a b x hs hA hB
  · exact rdivB w mean mg mb all a b x q h hs hA hB

end
end
section
local macro_rules | `(tactic| k_enter) => `(tactic| first
  | walk_at "Z ep"
  | (refine' enter_cells ?k1 ?k2 ?k3 ?k4 ?k5 ?kA ?kF ?kK ?k6 ?k7 ?k8 ?k9 ?kB ?kD ?_ ?c2 ?c3 ?c4; (case kA => exact rfl); (case kF => exact rfl); (case kK => first | assumption | exact rfl); (case k1 => k_asm); (case k2 => k_asm); (case k3 => k_asm); (case k4 => k_asm); (case k5 => k_asm); (case k6 => k_is); (case k7 => k_is); (case k8 => ktr_room); (case k9 => exact BindsTo.of_eq rfl); (case kB => exact rfl); (case kD => decide +kernel); (case c2 => exact rfl); (case c3 => exact rfl); (case c4 => exact rfl); k_whole; intro g' L' h' tk' cells' FG' F' N' Y' ap' B' X' T' KG' l1; (try k_lt l1); k_cells Y'; (try simp only [List.cons_append, List.nil_append] at N'); (try dsimp only); (try k_lift B'); (try k_fold)))
local macro_rules | `(tactic| walk_at "eval ListComp") => `(tactic| (k_here; k_dflt (first
  | (refine' ListCompK (cx := none) ?k0 ?k1 ?k2 ?k3 ?k4 ?k5 ?k6 ?_; (case k0 => k_asm); (case k4 => (intro _ _; exact rfl)); (case k5 => (intro _; exact rfl)); (case k1 => with_unfolding_all rfl); (case k2 => exact rfl); (case k3 => decide); (case k6 => (intro _; exact rfl)))
  | ((with_reducible show wpAny _ _ (eval (Expr.ListComp _ [PySem.Comprehension.mk (Expr.Name _ _) _ _ _] _ _) _) _ _ _); refine' ListCompK_N ?k0 ?k1 ?k2 ?k3 ?k4 ?k5 ?k6 ?_; (case k0 => k_asm); (case k4 => (intro _ _; exact rfl)); (case k5 => (intro _; exact rfl)); (case k1 => with_unfolding_all rfl); (case k2 => exact rfl); (case k3 => decide); (case k6 => (intro _; exact rfl)))
  | ((with_reducible show wpAny _ _ (eval (Expr.ListComp _ [PySem.Comprehension.mk (Expr.Tuple _ _ _) _ _ _] _ _) _) _ _ _); refine' ListCompK_T ?k0 ?k1 ?k2 ?k3 ?k4 ?k5 ?k6 ?_; (case k0 => k_asm); (case k4 => (intro _ _; exact rfl)); (case k5 => (intro _; exact rfl)); (case k1 => with_unfolding_all rfl); (case k2 => exact rfl); (case k3 => decide); (case k6 => (intro _; exact rfl))))))
local macro_rules | `(tactic| walk_at "FinK") => `(tactic| ((unfold FinK); intro h' tk' F' N'; (try simp only [List.nil_append, List.cons_append] at N'); (try dsimp only)))
local macro_rules | `(tactic| walk_at "eval Name") => `(tactic| (k_here; (with_reducible show wpAny _ _ (eval (Expr.Name _ _) (compEnvC _ _ _ _)) _ _ _); k_dflt (first
  | (refine' LCgL.ld_own ?N ?m ?h1 ?h2 ?_ ?hk ?hl ?hd; (case hl => exact rfl); (case hk => exact rfl); (case hd => decide); (case N => with_reducible assumption); (case m => k_mem); (case h1 => with_reducible assumption); (case h2 => with_reducible assumption))
  | (refine' lcf_cell ?N ?c ?m ?d ?_ ?a ?b; (case b => exact rfl); (case a => exact rfl); (case N => with_reducible assumption); (case c => exact rfl); (case m => k_mem); (case d => with_reducible assumption))
  | (refine' lcf_free ?N ?c ?m ?d ?_ ?a ?b; (case b => exact rfl); (case a => exact rfl); (case N => with_reducible assumption); (case c => exact rfl); (case m => k_mem); (case d => with_reducible assumption))
  | refine LCgL.ld_global (by with_reducible assumption) (by k_asm) (by k_asm) (by k_is) ?_
  | refine LCgL.ld_built (by with_reducible assumption) (by k_asm) (by k_asm) (by k_is) (by boot_by_name) (by decide) ?_)))
local macro_rules | `(tactic| walk_at "exec Assign cons ListComp") => `(tactic| (k_here; k_dflt (refine' AssignK (cx := none) ?k0 ?kl ?kw ?k1 ?k2 ?k3 ?k4 ?k5 ?k6 ?ky ?kp ?_; (case k0 => k_asm); (case kl => exact rfl); (case k4 => (intro _ _; exact rfl)); (case k5 => (intro _; exact rfl)); (case kw => with_unfolding_all rfl); (case k1 => with_unfolding_all rfl); (case k2 => exact rfl); (case k3 => decide); (case k6 => (intro _; exact rfl)); (case ky => exact rfl); (case kp => exact rfl))))
local macro_rules | `(tactic| walk_at "FinAK") => `(tactic| ((unfold FinAK); intro h' tk' F' N'; (try simp only [List.nil_append, List.cons_append] at N'); (try dsimp only)))
local macro_rules | `(tactic| walk_at "SrcK") => `(tactic| refine stopK ?_)
local macro_rules | `(tactic| walk_at "ElemE") => `(tactic| refine stopK ?_)
local macro_rules | `(tactic| walk_at "FinG") => `(tactic| refine stopK ?_)
local macro_rules | `(tactic| walk_at "RangeRest") => `(tactic| refine stopK ?_)
local macro_rules | `(tactic| walk_at "Z item") => `(tactic| (k_here; (with_reducible show wpAny _ _ (subscriptTail _ _ (Value.ref _) (Value.int _ _)) _ _ _); k_dflt (first
  | (refine' matP_row ?N ?M ?s ?i ?n ?g ?_; (case N => k_asm); (case M => with_reducible assumption); (case s => walk_at "Z sub"); (case i => first | with_reducible assumption | omega); (case n => omega); (case g => with_unfolding_all rfl))
  | (refine' matP_item ?N ?M ?s ?i ?j ?n ?g ?_; (case N => k_asm); (case M => with_reducible assumption); (case s => walk_at "Z sub"); (case i => first | with_reducible assumption | omega); (case j => first | with_reducible assumption | omega); (case n => omega); (case g => with_unfolding_all rfl); intro t')
  | (refine' mat_row ?N ?M ?s ?i ?n ?g ?_; (case N => k_asm); (case M => with_reducible assumption); (case s => walk_at "Z sub"); (case i => first | with_reducible assumption | omega); (case n => omega); (case g => with_unfolding_all rfl); intro r' hr')
  | (refine' row_int ?N ?M ?s ?i ?n ?g ?_; (case N => k_asm); (case M => with_reducible assumption); (case s => walk_at "Z sub"); (case i => first | with_reducible assumption | omega); (case n => omega); (case g => with_unfolding_all rfl); intro t'))))
local macro_rules | `(tactic| walk_at "subscriptTail Name Name ref int") => `(tactic| walk_at "Z item")
local macro_rules | `(tactic| walk_at "subscriptTail Subscript Name ref int") => `(tactic| walk_at "Z item")
local macro_rules | `(tactic| walk_at "subscriptTail Name") => `(tactic| walk_at "Z item")
local macro_rules | `(tactic| walk_at "subscriptTail Subscript") => `(tactic| walk_at "Z item")
local macro_rules | `(tactic| walk_at "call builtin:len") => `(tactic| (k_here; k_dflt (first
  | (refine' mat_len ?N ?M ?s ?n ?_; (case N => k_asm); (case M => with_reducible assumption); (case s => walk_at "Z sub"); (case n => omega); intro t' tk')
  | (refine' matP_len ?N ?M ?s ?n ?_; (case N => k_asm); (case M => with_reducible assumption); (case s => walk_at "Z sub"); (case n => omega); intro t' tk')
  | (refine' row_len ?N ?M ?s ?n ?_; (case N => k_asm); (case M => with_reducible assumption); (case s => walk_at "Z sub"); (case n => omega); intro t' tk'))))
local macro_rules | `(tactic| k_mem) => `(tactic| first | with_reducible assumption | exact List.Mem.head _ | (refine' List.Mem.tail _ ?_; k_mem) | assumption | (refine' Sub.mem ?h ?m; (case h => with_reducible assumption); (case m => k_mem)) | (refine memL ?_; k_mem) | (refine memR ?_; k_mem))
local macro_rules | `(tactic| walk_at "call builtin:sum") => `(tactic| (k_here; k_dflt (refine' sum_row ?F ?N ?h ?M ?s ?_; (case h => exact rfl); (case F => k_asm); (case N => k_asm); (case M => with_reducible assumption); (case s => walk_at "Z sub"); intro h' tk' t' F' N')))
local macro_rules | `(tactic| walk_at "call type:enumerate") => `(tactic| ((with_reducible show wpAny _ _ (call _ _) (SrcK _ _ _ _ _ _ _ _ _ _ _ _ _ _) _ _); refine stopK ?_))
local macro_rules | `(tactic| walk_at "call type:enumerate") => `(tactic| ((with_reducible show wpAny _ _ (call _ _) (fun _ _ => SrcK _ _ _ _ _ _ _ _ _ _ _ _ _ _ _ _) _ _); refine stopK ?_))
local macro_rules | `(tactic| walk_at "pyIter ref") => `(tactic| refine stopK ?_)
local macro_rules | `(tactic| walk_at "UnrEnd") => `(tactic| refine stopK ?_)
local macro_rules | `(tactic| walk_at "call type:range") => `(tactic| (k_here; (rename Fr _ _ _ _ => F'); (rename News _ _ _ _ => N'); first
  | (with_unfolding_all refine range1_rows F' N' ?_; intro _ _ _ _ _ _ _ _ _)
  | (with_unfolding_all refine range2_rows F' N' ?_; intro _ _ _ _ _ _ _ _ _)))
local macro_rules | `(tactic| walk_at "eval Name") => `(tactic| (k_here; k_dflt (refine' nameX_L ?F ?v ?_ ?a ?b; (case F => k_asm); (case a => rfl); (case b => rfl); (case v => first | rfl | assumption); k_whole)))
local macro_rules | `(tactic| walk_at "setItem ref int") => `(tactic| (k_here; k_dflt (first
  | (refine' matP_set ?F ?N ?T ?K ?M ?i ?j ?n ?_; (case F => k_asm); (case N => k_asm); (case M => with_reducible assumption); (case K => with_reducible assumption); (case T => walk_at "Z tl"); (case i => first | with_reducible assumption | omega); (case j => first | with_reducible assumption | omega); (case n => omega))
  | (refine' matP_ref ?F ?N ?T ?K ?M ?i ?n ?_; (case F => k_asm); (case N => k_asm); (case M => with_reducible assumption); (case K => with_reducible assumption); (case T => walk_at "Z tl"); (case i => first | with_reducible assumption | omega); (case n => omega))); intro h' M' F' N' hM' hK'; (try dsimp only [List.cons_append, List.nil_append] at N')))
local macro_rules | `(tactic| walk_at "call type:list") => `(tactic| (k_here; k_dflt (refine copy_row (by k_asm) (by k_asm) (by with_reducible assumption) (by walk_at "Z sub") (by omega) ?_; intro D' h' new' F' N' ap' hR')))
local macro_rules | `(tactic| ked_read) => `(tactic| first | exact Reads.int _ _ | exact reads_list_at (News.get (by k_asm) (by k_mem)) rfl rfl (by ked_reads) | exact reads_tuple_at (News.get (by k_asm) (by k_mem)) rfl rfl (by ked_reads) | exact reads_tuple_at (kin_get (by k_asm) (by k_asm) (by k_is)) rfl rfl (by ked_reads))
local macro_rules | `(tactic| ked_reads) => `(tactic| first | exact ReadsAll.nil | exact ReadsAll.cons (by ked_read) (by ked_reads))
local macro_rules | `(tactic| walk_at "compareOp NotEq int int") => `(tactic| (k_here; k_dflt (with_reducible refine ne_int_same rfl ?_)))
local macro_rules | `(tactic| walk_at "compareOp NotEq ref ref") => `(tactic| (k_here; k_dflt (refine ne_same (by ked_read) (by ked_read) rfl rfl (by ked_shaped) (by ke_room) ?_)))
local macro_rules | `(tactic| walk_at "Z tl") => `(tactic| first | exact Tl.nil | exact Tl.base (by with_reducible assumption) | (apply Tl.cons (by with_reducible assumption); walk_at "Z tl") | (apply Tl.skip; walk_at "Z tl"))
local macro_rules | `(tactic| walk_at "exec For Name Call cons nil") => `(tactic| (k_here; k_dflt (refine' For_C ?F ?hk ?hx ?hc ?hs ?hE ?_; (case hx => exact rfl); (case hc => exact rfl); (case F => k_asm); (case hk => exact rfl); (case hs => (intro _; exact rfl)); (case hE => passes_own))))
local macro_rules | `(tactic| walk_at "SrcC") => `(tactic| refine stopK ?_)
local macro_rules | `(tactic| walk_at "call builtin:list.append") => `(tactic| (k_here; refine stopK ?_))
local macro_rules | `(tactic| walk_at "call builtin:list.reverse") => `(tactic| (k_here; refine stopK ?_))
local macro_rules | `(tactic| k_all) => `(tactic| first | with_reducible assumption | exact List.forall_mem_nil _ | (refine' List.forall_mem_cons.mpr ⟨?a, ?b⟩; (case a => k_ne); (case b => k_all)))

section
local macro_rules | `(tactic| walk_at "ElemB") => `(tactic| refine stopK ?_)
local macro_rules | `(tactic| walk_at "setItem ref int") => `(tactic| (k_here; refine stopK ?_))
local macro_rules | `(tactic| walk_at "subscriptTail Name Constant ref int") => `(tactic| (k_here; k_dflt (refine mat_row0 (by k_asm) (by with_reducible assumption) (by walk_at "Z sub") (by omega) (by omega) (by with_unfolding_all rfl) ?_; intro r' hr')))
theorem matG (w : World) (mean : ExcName → Option Value) (mg mb : Str → Option Value) (bx sc : Addr) (bn cn : Nat) (vs : List Value) (ns : List Int) (hi : IntsAre vs ns) (hle : ns.length ≤ 30) (p₀ : Int) (hp0 : 0 ≤ p₀) (hp1 : p₀ < 80) (tp tm : Tok) (n : Nat) (hn : n ≤ 3) (hn1 : 1 ≤ n) (hne : @Ne Nat bx sc) :
    Says 1 w mean mg mb 184 (Bx bx sc bn cn vs p₀ tp) [.ref bx, .int (n : Int) tm]
      (fun r new sub' => ∃ (p' : Int) (u : Tok) (f : Nat → Nat → Int) (b : Addr), 0 ≤ p' ∧ p' ≤ p₀ + 10 ∧ sub' = Bx bx sc bn cn vs p' u ∧ r = .ref b ∧ MatAt new b n f ∧ Bd 4 n f) := by
  unfold Says
  k_fill
  intro dp un gd cn' cs ca ccd cl outer A₀ base h₀ L m s Q E B F X N T hk hd hu ret
  refine wpAny_call ?_
  k_dflt (first | k_enter | fail "the helper is not entered")
  rename_i gg LL hh tt FG FF BB XX TT KG ll oK oA dK dA N0 ap0
  have o1 : LL + 1 + 1 ∉ [bx, sc] := apart_off ap0 _ (List.mem_cons_self ..)
  have o2 : LL + 1 ∉ [bx, sc] := apart_off ap0 _ (List.mem_cons_of_mem _ (List.mem_cons_self ..))
  k_steps
  unfold Stopped
  refine SrcB.range0_L (wd := n) (B := Bx bx sc bn cn vs) (ks := [bx, sc]) (fun l y => SomeRow 2 n l y) (fun _ _ _ hs h => h.mono hs) rfl (by k_asm) (by k_asm) (fun _ _ => rfl) (by walk_at "Z tl") (by assumption) (by omega) rfl rfl ?_ ?_
  · intro i rest p u I C D oI oC oD t m₂ h tk E' hin hs hro hp2 hp3 hI hC hD hNs hm F' N'
    obtain ⟨hc1, hs⟩ := hs.uncons
    obtain ⟨hc2, hs⟩ := hs.uncons
    have e6 : (i : Int) * (n : Int) ≤ 6 := by
      rcases (show n = 1 ∨ n = 2 ∨ n = 3 by omega) with rfl | rfl | rfl <;> omega
    k_steps
    unfold Stopped
    refine SrcB.range0_L (wd := 1) (B := Bx bx sc bn cn vs) (ks := [bx, sc]) (p₀ := p) (fun _ y => SomeInt 2 y) (fun _ _ _ _ h => h) rfl (by k_asm) (by k_asm) (fun _ _ => rfl) (by walk_at "Z tl") (by assumption) (by omega) rfl rfl ?_ ?_
    · intro i2 rest2 p2 u2 I2 C2 D2 oI2 oC2 oD2 t2 m3 h2 tk2 E2 hin2 hs2 hro2 hp4 hp5 hI2 hC2 hD2 hNs2 hm2 F2 N2
      obtain ⟨-, -, -, hs2⟩ : True ∧ True ∧ True ∧ Sub rest rest2 := ⟨trivial, trivial, trivial, hs2.uncons.2.uncons.2.uncons.2⟩
      replace hc1 := hs2 _ hc1
      replace hc2 := hs2 _ hc2
      k_steps
      unfold Stopped
      refine says_tail (lv := 0) (ks := [bx, sc]) (by k_asm) (by k_asm) (take w mean mg mb bx sc bn cn vs ns hi hle p2 (by omega) (by omega) u2 _ 6 (by decide) (by decide) hne) (by walk_at "Z tl") rfl (by k_asm) (by k_asm) (by k_asm) rfl (by walk_at "Z room") (by walk_at "Z room") ?_
      rintro r5 new5 sub5 h5 tk5 ⟨rfl, v5, t5, u5, rfl, hv0, hv1, rfl⟩ F5 N5 _
      k_steps
      exact ⟨_, _, [], p2 + 1, u5, rfl, by k_asm, N5, by omega, by omega, apart_nil, (fun _ h => nomatch h), v5 - 2, (show (v5 - 2).natAbs < 4 by omega), _, rfl⟩
    · intro g D2 ys2 pre2 p3 u3 q1 q2 ap2 ho2 hoD2 hlt2 hD2 hl2 hv2 h2 tk2 F2 N2
      exact ⟨h2, tk2, (D2, lst ys2) :: pre2, p3, u3, rfl, F2, N2, q1, by omega, apart_new hlt2 ap2, fun q hq => by
        rcases List.mem_cons.mp hq with rfl | hq
        · exact hD2
        · exact ho2 q hq, D2, rfl, listAt_new hl2 hv2⟩
  · intro g D ys pre p u q1 q2 ap ho hoD hlt hD hl hv h tk F2 N2
    have e9 : (n : Int) * (n : Int) ≤ 9 := by
      rcases (show n = 1 ∨ n = 2 ∨ n = 3 by omega) with rfl | rfl | rfl <;> omega
    obtain ⟨f, hf, hb⟩ := someMat hl hv
    have hoX : ∀ q ∈ pre ++ [(LL + 1 + 1, oK), (LL + 1, oA)], q.1 ∉ [bx, sc] := fun q hq => by
      rcases List.mem_append.mp hq with hq | hq
      · exact ho q hq
      · exact apart_off ap0 q hq
    have hMD : MatAt ((D, lst ys) :: pre) D n f := ⟨ys, _, List.mem_cons_self .., hl, fun j x e => (hf j x e).mono (Sub.cons Sub.refl)⟩
    k_steps
    · unfold Stopped
      refine says_tail (lv := 0) (ks := [bx, sc]) (by k_asm) (by k_asm) (take w mean mg mb bx sc bn cn vs ns hi hle p (by omega) (by omega) u _ 4 (by decide) (by decide) hne) (by walk_at "Z tl") rfl (by k_asm) (by k_asm) (by k_asm) rfl (by walk_at "Z room") (by walk_at "Z room") ?_
      rintro r5 new5 sub5 h5 tk5 ⟨rfl, v5, t5, u5, rfl, hv0, hv1, rfl⟩ F5 N5 _
      replace N5 : News gg LL h5 ((D, lst ys) :: ((pre ++ [(LL + 1 + 1, oK), (LL + 1, oA)]) ++ Bx bx sc bn cn vs (p + 1) u5)) := N5
      have hSub : Sub ((D, lst ys) :: pre) ((D, lst ys) :: ((pre ++ [(LL + 1 + 1, oK), (LL + 1, oA)]) ++ Bx bx sc bn cn vs (p + 1) u5)) := Sub.cons2 (Sub.appL (Sub.appL Sub.refl))
      k_steps
      · unfold Stopped
        refine SrcG.at_L (fun _ j y => IntV (2 * f 0 j) y) (fun _ _ _ _ _ h => h) rfl (by k_asm) (by k_asm) (show IntRow ((D, lst ys) :: pre) _ n (f 0) by assumption) hSub (by omega) rfl rfl ?_ ?_
        · intro i rest I C D3 oI oC oD y m₂ h3 tk3 E' hi3 hs3 hNs3 hy hmy F3 N3
          obtain ⟨t3, rfl⟩ := hy
          have b0 := (hb 0 i (by omega) hi3)
          k_steps
          exact ElemE.none (by k_asm) (by k_asm) Sub.refl ⟨_, rfl⟩
        · intro D3 h3 tk3 new3 F3 N3 ap3 hL3
          k_steps
          unfold Stopped
          refine set_last (l := D) (c := ys.length) (X := new3 ++ ((pre ++ [(LL + 1 + 1, oK), (LL + 1, oA)]) ++ Bx bx sc bn cn vs (p + 1) u5)) (by k_asm) N3 ⟨fun q hq => ?_, fun q hq hq' => ?_⟩ hl hn1 (by omega) ?_
          · rcases List.mem_append.mp hq with hq | hq
            · rcases List.mem_append.mp hq with hq | hq
              · exact List.mem_append_left _ hq
              · exact List.mem_append_right _ (List.mem_cons_of_mem _ hq)
            · rw [List.mem_singleton.mp hq]
              exact List.mem_append_right _ (List.mem_cons_self ..)
          · replace hq' := List.mem_singleton.mp hq'
            exact off_app (fun q hq => ap3 q hq _ (List.mem_cons_self ..)) (off_app (off_app hoD fun q hq => Nat.ne_of_lt (hlt q hq)) (off_of (D := D) (M := Bx bx sc bn cn vs (p + 1) u5) hD)) q hq hq'
          · intro h4 c4 F4 N4
            k_steps
            refine close_ret ret (by k_asm) (by k_asm) (by k_asm) ⟨p + 1, u5, _, D, by omega, by omega, rfl, rfl, ⟨_, c4, List.mem_append_right _ (List.mem_append_right _ (List.mem_singleton.mpr rfl)), by simpa using hl, matLast hl hf hL3⟩, last_bd hb⟩
              (new := new3 ++ (pre ++ [(D, listOf (List.toArray (ys.set (n - 1) (.ref D3))) c4)])) ?_ (by walk_at "Z sub") ?_
            · intro q hq
              rcases List.mem_append.mp hq with hq | hq
              · exact List.mem_append_left _ (List.mem_append_left _ hq)
              · rcases List.mem_append.mp hq with hq | hq
                · exact List.mem_append_left _ (List.mem_append_right _ (List.mem_append_left _ (List.mem_append_left _ hq)))
                · exact List.mem_append_right _ hq
            · refine apart_of_off (fun q hq => ?_)
              rcases List.mem_append.mp hq with hq | hq
              · exact apart_off (M := Bx bx sc bn cn vs (p + 1) u5) (fun a ha b hb => ap3 a ha b (List.mem_cons_of_mem _ (List.mem_append_right _ hb))) q hq
              · rcases List.mem_append.mp hq with hq | hq
                · exact ho q hq
                · rw [List.mem_singleton.mp hq]; exact hD
      · exact close_ret ret (by k_asm) (by k_asm) (by k_asm) ⟨p + 1, u5, f, D, by omega, by omega, rfl, rfl, hMD, fun i j h1 h2 => (hb i j h1 h2).mono (by decide)⟩ hSub (by walk_at "Z sub") (apart_of_off (off_mem hD ho))
    · exact close_ret ret (by k_asm) (by k_asm) (by k_asm) ⟨p, u, f, D, by omega, by omega, rfl, rfl, hMD, fun i j h1 h2 => (hb i j h1 h2).mono (by decide)⟩ (Sub.cons2 (Sub.appL (Sub.appL Sub.refl))) (by walk_at "Z sub") (apart_of_off (off_mem hD ho))

end
section
theorem pivotG (w : World) (mean : ExcName → Option Value) (mg mb : Str → Option Value) (all : Ledger) (a : Addr) (n p : Nat) (f : Nat → Nat → Int) (tp : Tok) (hn : n ≤ 3) (hp : p < n) (hM : MatAt all a n f) :
    Says 0 w mean mg mb 41 all [.ref a, .int (p : Int) tp] (fun r new sub' => sub' = all ∧ new = [] ∧ ((∃ (i : Nat) (t : Tok), r = .int (i : Int) t ∧ p ≤ i ∧ i < n ∧ f i p ≠ 0 ∧ ∀ q, p ≤ q → q < i → f q p = 0) ∨ (r = .none ∧ ∀ q, p ≤ q → q < n → f q p = 0))) := by
  unfold Says
  k_fill
  intro dp un gd cn cs ca ccd cl outer A₀ base h₀ L m s Q E B F X N T hk hd hu ret
  refine wpAny_call ?_
  k_dflt (first | k_enter | fail "the helper is not entered")
  k_steps
  unfold Stopped
  refine iter_rangeUnr (n := n - p) rfl (by assumption) (range_small (by omega)) (range_size (by omega)) (by k_asm) (by k_asm) ?_
  intro I l1
  refine RangeRest.invX (fun i m₁ news => news = all ∧ m₁ "a" = some (.ref a) ∧ m₁ "step" = some (.int (p : Int) tp) ∧ ∀ q, p ≤ q → q < p + i → f q p = 0) ⟨rfl, rfl, rfl, fun q h1 h2 => by omega⟩ ?_ ?_
  · rintro i m₁ _ hi ⟨rfl, ma, ms, hz⟩ t h tk F' N'
    k_steps
    · exact closeN ret (by k_asm) (by k_asm) (by k_asm) (by walk_at "Z sub") ⟨rfl, rfl, Or.inl ⟨p + i, t, rfl, by omega, by omega, by assumption, hz⟩⟩
    · refine unrEnd_of (by k_asm) (by k_asm) (fun p hp => Nat.ne_of_lt (l1 p hp)) ⟨_, m₁, rfl, rfl, ma, ms, fun q h1 h2 => ?_⟩
      rcases Nat.lt_or_ge q (p + i) with h | h
      · exact hz q h1 h
      · obtain rfl : q = p + i := by omega
        assumption
  · rintro v m₁ _ ⟨rfl, ma, ms, hz⟩ h tk F' N'
    k_steps
    exact closeN ret (by k_asm) (by k_asm) (by k_asm) (by walk_at "Z sub") ⟨rfl, rfl, Or.inr ⟨rfl, fun q h1 h2 => hz q h1 (by omega)⟩⟩
theorem bareissG (w : World) (mean : ExcName → Option Value) (mg mb : Str → Option Value) (M : Ledger) (ks : List Addr) (a : Addr) (n p : Nat) (ra : Nat → Addr) (f : Nat → Nat → Int) (ah : Int) (tp ta : Tok) (hn : n ≤ 3) (hp : p < n) (hf : Bd 1000 n f) (ha : Sm 1000 ah) (h0 : ah ≠ 0) (hK : keys M = ks) (hM : MatR M a n ra f) :
    Says 0 w mean mg mb 48 M [.ref a, .int (p : Int) tp, .int ah ta] (fun r new sub' => new = [] ∧ MatR sub' a n ra (barF p ah f) ∧ keys sub' = ks) := by
  unfold Says
  k_fill
  intro dp un gd cn cs ca ccd cl outer A₀ base h₀ L m s Q E B F X N T hk hd hu ret
  refine wpAny_call ?_
  k_dflt (first | k_enter | fail "the helper is not entered")
  k_steps
  unfold Stopped
  refine iter_rangeUnr (n := n - (p + 1)) rfl (by assumption) (range_small (by omega)) (range_size (by omega)) (by k_asm) (by k_asm) ?_
  intro I l1
  have hI := key_lt hK l1
  refine RangeRest.inv (fun i m₁ news => keys news = ks ∧ m₁ "a" = some (.ref a) ∧ m₁ "step" = some (.int (p : Int) tp) ∧ m₁ "ahead" = some (.int ah ta) ∧ (∃ t, m₁ "lead" = some (.int (f p p) t)) ∧
    ∃ g, MatR news a n ra g ∧ ∀ r c, r < n → c < n → g r c = if r ≤ p + i then barF p ah f r c else f r c) ?_ ?_ _ 0 _ _ (Nat.zero_add _) ⟨hK, rfl, rfl, rfl, ⟨_, rfl⟩, f, hM, fun r c hr hc => ?_⟩
  · rintro i m₁ M₁ hi ⟨hK₁, ma, ms, mh, ⟨tl, ml⟩, g, hM₁, hg⟩ t h tk F' N'
    have q1 : p + 1 + i < n := by omega
    k_steps
    unfold Stopped
    refine iter_rangeUnr (n := n - (p + 1)) rfl (by assumption) (range_small (by omega)) (range_size (by omega)) (by k_asm) (by k_asm) ?_
    intro J l2
    have hJ := key_lt hK₁ fun p hp => l2 p (List.mem_cons_of_mem _ hp)
    have hIJ := l2 _ (List.mem_cons_self ..)
    refine RangeRest.inv (fun j m₂ news => m₂ "a" = some (.ref a) ∧ m₂ "step" = some (.int (p : Int) tp) ∧ m₂ "ahead" = some (.int ah ta) ∧ (∃ t, m₂ "lead" = some (.int (f p p) t)) ∧ (∃ t, m₂ "row" = some (.int ((p : Int) + 1 + i) t)) ∧ (∃ t, m₂ "first" = some (.int (g (p + 1 + i) p) t)) ∧
      ∃ M₂ g₂, news = (I, itR ((p : Int) + 1 + ((i + 1 : Nat) : Int)) (((n - (p + 1) : Nat) : Int) - ((i + 1 : Nat) : Int))) :: M₂ ∧ keys M₂ = ks ∧ MatR M₂ a n ra g₂ ∧ ∀ r c, r < n → c < n → g₂ r c = if r ≤ p + i then barF p ah f r c else if r = p + 1 + i ∧ p < c ∧ c ≤ p + j then (f r c * f p p - f r p * f p c).fdiv ah else f r c) ?_ ?_ _ 0 _ _ (Nat.zero_add _)
      ⟨by assumption, by assumption, by assumption, ⟨_, by assumption⟩, ⟨_, rfl⟩, ⟨_, rfl⟩, M₁, g, rfl, hK₁, hM₁, fun r c hr hc => ?_⟩
    · rintro j m₂ _ hj ⟨na, ns, nh, ⟨tl2, nl⟩, ⟨tr2, nr⟩, ⟨tf2, nf⟩, M₂, g₂, rfl, hK₂, hM₂, hg₂⟩ t2 h2 tk2 F2 N2
      have q2 : p + 1 + j < n := by omega
      have e1 : g (p + 1 + i) p = f (p + 1 + i) p := by rw [hg _ _ q1 hp, if_neg (by omega)]
      have e2 : g₂ (p + 1 + i) (p + 1 + j) = f (p + 1 + i) (p + 1 + j) := by rw [hg₂ _ _ q1 q2, if_neg (by omega), if_neg (by omega)]
      have e3 : g₂ p (p + 1 + j) = f p (p + 1 + j) := by rw [hg₂ _ _ hp q2, if_pos (by omega)]; simp [barF]
      have b1 : Sm 1000 (g (p + 1 + i) p) := e1 ▸ hf _ _ q1 hp
      have b2 : Sm 1000 (g₂ (p + 1 + i) (p + 1 + j)) := e2 ▸ hf _ _ q1 q2
      have b3 : Sm 1000 (g₂ p (p + 1 + j)) := e3 ▸ hf _ _ hp q2
      have b4 := hf _ _ hp hp
      k_steps
      refine unrEnd_of (by k_asm) (by k_asm) ?_ ?_
      · intro p hp
        rcases List.mem_cons.mp hp with rfl | hp
        · exact Nat.ne_of_lt hIJ
        · exact off_key (by assumption) hJ p hp
      · refine ⟨na, ns, nh, ⟨tl2, nl⟩, ⟨tr2, nr⟩, ⟨tf2, nf⟩, _, _, rfl, by assumption, by assumption, fun r c hr hc => ?_⟩
        show setF g₂ (p + 1 + i) (p + 1 + j) _ r c = _
        unfold setF
        by_cases h : r = p + 1 + i ∧ c = p + 1 + j
        · obtain ⟨rfl, rfl⟩ := h
          rw [if_pos ⟨rfl, rfl⟩, if_neg (by omega), if_pos (by omega), e1, e2, e3]
        · rw [if_neg h, hg₂ r c hr hc]
          (repeat' split) <;> first | rfl | omega
    · rintro m₂ _ ⟨na, ns, nh, ⟨tl2, nl⟩, ⟨tr2, nr⟩, ⟨tf2, nf⟩, M₂, g₂, rfl, hK₂, hM₂, hg₂⟩ h2 tk2 F2 N2
      k_steps
      refine unrEnd_of (by k_asm) (by k_asm) (off_key (by assumption) hI) ?_
      refine ⟨by assumption, na, ns, nh, ⟨tl2, nl⟩, _, by assumption, fun r c hr hc => ?_⟩
      clear hI hJ hIJ l1 l2
      show setF g₂ (p + 1 + i) p 0 r c = _
      unfold setF
      rw [hg₂ r c hr hc]
      unfold barF
      (repeat' split) <;> first | rfl | omega
    · rw [hg r c hr hc]
      (repeat' split) <;> first | rfl | omega
  · rintro m₁ M₁ ⟨hK₁, ma, ms, mh, ⟨tl, ml⟩, g, hM₁, hg⟩ h tk F' N'
    k_steps
    exact closeU ret (by k_asm) (by k_asm) (by k_asm) Sub.refl ⟨rfl, hM₁.congr fun r c hr hc => by rw [hg r c hr hc, if_pos (by omega)], hK₁⟩
  · split
    · have : ¬ p < r := by omega
      simp [barF, this]
    · rfl

end
section
theorem minorG (w : World) (mean : ExcName → Option Value) (mg mb : Str → Option Value) (all : Ledger) (a : Addr) (n p q : Nat) (f : Nat → Nat → Int) (tp tq : Tok) (hn : n ≤ 3) (hp : p < n) (hq : q < n) (hM : MatAt all a n f) :
    Says 0 w mean mg mb 58 all [.ref a, .int (p : Int) tp, .int (q : Int) tq] (fun r new sub' => sub' = all ∧ ∃ c, r = .ref c ∧ MatAt new c (n - 1) (fun i j => f (skip p i) (skip q j))) := by
  unfold Says
  k_fill
  intro dp un gd cn cs ca ccd cl outer A₀ base h₀ L m s Q E B F X N T hk hd hu ret
  refine wpAny_call ?_
  k_dflt (first | k_enter | fail "the helper is not entered")
  k_steps
  unfold Stopped
  refine SrcF.enum_LL (fun l i y => RowV l (n - 1) (fun j => f i (skip q j)) y) (fun _ _ _ _ hs h => RowV.mono h hs) hp rfl (by k_asm) (by k_asm) hM (by walk_at "Z sub") (by omega) rfl rfl rfl (by decide) ?_ ?_
  · intro i rest I J C D oI oJ oC oD t y m₂ h tk E' hi hs hC hy hma hmb F' N'
    obtain ⟨r, rfl, hr⟩ := hy
    obtain ⟨hc1, hs⟩ := hs.uncons
    obtain ⟨hc2, hs⟩ := hs.uncons
    replace hr := hr.mono hs
    k_steps
    · unfold Stopped
      refine SrcF.enum_LL (fun l j y => IntV (f i j) y) (fun _ _ _ _ hs h => h) hq rfl (by k_asm) (by k_asm) hr (by walk_at "Z sub") (by omega) rfl rfl rfl (by decide) ?_ ?_
      · intro i2 rest2 I2 J2 C2 D2 oI2 oJ2 oC2 oD2 t2 y2 m3 h2 tk2 E2 hi2 hs2 hC2 hy2 hma2 hmb2 F2 N2
        obtain ⟨t3, rfl⟩ := hy2
        replace hs2 := hs2.uncons.2.uncons.2.uncons.2.uncons.2
        replace hc1 := hs2 _ hc1
        replace hc2 := hs2 _ hc2
        k_steps
        · exact ElemE.none (by k_asm) (by k_asm) Sub.refl ⟨by omega, _, rfl⟩
        · exact ElemE.none (by k_asm) (by k_asm) Sub.refl (by omega)
      · intro D3 h3 tk3 new3 F3 N3 ap3 hL3
        exact ElemE.some F3 N3 ap3 ⟨by omega, _, rfl, hL3⟩
    · exact ElemE.none (by k_asm) (by k_asm) Sub.refl (by omega)
  · intro D3 h3 tk3 new3 F3 N3 ap3 hL3
    k_steps
    exact closeG ret (by k_asm) (by k_asm) (by k_asm) ap3 (by walk_at "Z sub") ⟨rfl, _, rfl, hL3⟩

end
section
theorem detG (w : World) (mean : ExcName → Option Value) (mg mb : Str → Option Value) (all : Ledger) (a : Addr) (n : Nat) (f : Nat → Nat → Int) (hn : n ≤ 3) (hf : Bd 60 n f) (hM : MatAt all a n f) :
    Says 1 w mean mg mb 53 all [.ref a] (fun r new sub' => sub' = all ∧ new = [] ∧ ∃ t, r = .int (detF n f) t) := by
  unfold Says
  k_fill
  intro dp un gd cn cs ca ccd cl outer A₀ base h₀ L m s Q E B F X N T hk hd hu ret
  refine wpAny_call ?_
  k_dflt (first | k_enter | fail "the helper is not entered")
  k_steps
  unfold Stopped
  refine SrcN.at_L rfl (by k_asm) (by k_asm) hM (by walk_at "Z sub") (by omega) rfl rfl ?_ ?_
  · intro i I C D oI oC oD y m₂ h tk E' hi hC hy hmy F' N'
    obtain ⟨r, rfl, hr⟩ := hy
    k_steps
    exact ElemE.none (by k_asm) (by k_asm) Sub.refl rfl
  · intro D h tk hlt F' N'
    k_steps
    unfold Stopped
    refine SrcD.at_L (f := f) rfl (by k_asm) (by k_asm) hM (by walk_at "Z sub") (by omega) rfl rfl ?_ ?_
    · intro i rest I C D2 oI oC oD y m₂ h2 tk2 E' hi hs2 hC hy hmy F2 N2
      obtain ⟨r, rfl, hr⟩ := hy
      replace hr := hr.mono hs2.uncons.2.uncons.2.uncons.2
      k_steps
      exact ElemE.some (by k_asm) (by k_asm) (by with_reducible assumption) ⟨_, rfl, by with_reducible assumption⟩
    · intro fm h2 tk2 ra M F2 N2 apM hMR
      k_steps
      unfold Stopped
      have N3 := name_two (M := M) (all := all) (by k_asm) (by walk_at "Z sub") (by walk_at "Z sub")
      obtain ⟨ks, hks⟩ : ∃ ks, keys M = ks := ⟨_, rfl⟩
      have hX := apart_keys (Z := all) apM (by walk_at "Z sub")
      rw [hks] at hX
      refine iter_rangeUnr (n := n) rfl (by assumption) (range_small (by omega)) (range_size (by omega)) (by k_asm) N3 ?_
      intro I l1
      have hI := key_lt hks fun p hp => l1 p (List.mem_append_right _ hp)
      refine RangeRest.inv (fun i m₁ news => ∃ M₁ ra₁ g sg ah ts ta, news = all ++ M₁ ∧ keys M₁ = ks ∧ MatR M₁ fm n ra₁ g ∧ m₁ "found" = some (.ref fm) ∧ m₁ "sign" = some (.int sg ts) ∧ m₁ "ahead" = some (.int ah ta) ∧
        DetR n f i g sg ah ∧ Bd (bnd i) n g ∧ Sm (bnd i) ah ∧ ah ≠ 0 ∧ Sm 1 sg) ?_ ?_ _ 0 _ _ (Nat.zero_add _) ⟨M, ra, f, 1, 1, _, _, rfl, hks, hMR, rfl, rfl, rfl, .zero, hf, by unfold Sm bnd; decide, by decide, by unfold Sm; decide⟩
      · rintro i m₁ _ hi ⟨M₁, ra₁, g, sg, ah, ts, ta, rfl, hK₁, hM₁, mf, msg, mah, hD, hB, hA, h0, hsg⟩ t h3 tk3 F4 N4
        rw [Int.zero_add] at F4
        k_steps
        unfold Stopped
        refine says_readG (lv := 0) (by k_asm) (by k_asm) (pivotG w mean mg mb M₁ fm n i g _ hn hi hM₁.mat) (by walk_at "Z sub") (by k_asm) (by k_asm) (by k_asm) rfl (by walk_at "Z room") (by walk_at "Z room") (fun _ _ _ h => h.1) ?_
        rintro r new h5 tk5 ⟨_, rfl, ⟨j, tj, rfl, hj1, hj2, hj3, hj4⟩ | ⟨rfl, hz⟩⟩ F5 N5 _
        · have hD' := DetR.step hD hj1 hj2 hj3 hj4
          have eb := bar_self (p := i) (ah := ah) (g := g) (i := j)
          have c1 := (hB.swap hj2 hi).mono (bnd_le (by omega))
          have c2 := hA.mono (bnd_le (by omega))
          have c3 := ((hB.swap hj2 hi).bar (ah := ah) hi).mono (bnd_step (by omega))
          have c4 : Sm (bnd (i + 1)) (barF i ah (swapF g j i) i i) := c3 i i hi hi
          have c5 : barF i ah (swapF g j i) i i ≠ 0 := by rw [eb]; exact hj3
          k_steps
          · have hne : j ≠ i := by omega
            rw [if_neg hne] at hD'
            unfold Stopped
            obtain ⟨ra2, hS⟩ := (MatP.swap (by with_reducible assumption) hj2 hi).hide
            refine says_tail (lv := 0) (by k_asm) (by k_asm) (bareissG w mean mg mb _ ks fm n i _ (swapF g j i) ah _ _ hn hi c1 c2 h0 (by with_reducible assumption) hS) (by walk_at "Z tl") (by with_reducible assumption) (by k_asm) (by k_asm) (by k_asm) rfl (by walk_at "Z room") (by walk_at "Z room") ?_
            rintro r new sub' h6 tk6 ⟨rfl, hM6, hK6⟩ F6 N6 _
            simp only [List.nil_append, List.cons_append] at N6
            k_steps
            refine unrEnd_of (by k_asm) (by k_asm) (off_app (fun p hp => Nat.ne_of_lt (l1 p (List.mem_append_left _ hp))) (off_key hK6 hI)) ?_
            exact ⟨_, _, _, _, _, _, _, rfl, hK6, hM6, mf, rfl, rfl, by rw [eb]; exact hD', c3, c4, c5, hsg.neg⟩
          · have he : j = i := by omega
            rw [if_pos he] at hD'
            unfold Stopped
            obtain ⟨ra2, hS⟩ := (hM₁.congr (g := swapF g j i) fun r c _ _ => by rw [he]; exact swap_same).hide
            refine says_tail (lv := 0) (by k_asm) (by k_asm) (bareissG w mean mg mb _ ks fm n i _ (swapF g j i) ah _ _ hn hi c1 c2 h0 (by with_reducible assumption) hS) (by walk_at "Z tl") (by with_reducible assumption) (by k_asm) (by k_asm) (by k_asm) rfl (by walk_at "Z room") (by walk_at "Z room") ?_
            rintro r new sub' h6 tk6 ⟨rfl, hM6, hK6⟩ F6 N6 _
            simp only [List.nil_append, List.cons_append] at N6
            k_steps
            refine unrEnd_of (by k_asm) (by k_asm) (off_app (fun p hp => Nat.ne_of_lt (l1 p (List.mem_append_left _ hp))) (off_key hK6 hI)) ?_
            exact ⟨_, _, _, _, _, _, _, rfl, hK6, hM6, mf, msg, rfl, by rw [eb]; exact hD', c3, c4, c5, hsg⟩
        · k_steps
          exact closeN ret (by k_asm) (by k_asm) (by k_asm) (by walk_at "Z sub") ⟨rfl, rfl, _, by rw [← det_none hn hD hi hz]⟩
      · rintro m₁ _ ⟨M₁, ra₁, g, sg, ah, ts, ta, rfl, hK₁, hM₁, mf, msg, mah, hD, hB, hA, h0, hsg⟩ h3 tk3 F4 N4
        have hA' := hA.mono (bnd_le hn)
        k_steps
        exact closeN ret (by k_asm) (by k_asm) (by k_asm) (by walk_at "Z sub") ⟨rfl, rfl, _, by rw [← det_done hn hD]⟩

end
section
theorem adjG (w : World) (mean : ExcName → Option Value) (mg mb : Str → Option Value) (all : Ledger) (a : Addr) (n : Nat) (f : Nat → Nat → Int) (hn : n ≤ 3) (hf : Bd 60 n f) (hM : MatAt all a n f) :
    Says 2 w mean mg mb 63 all [.ref a] (fun r new sub' => sub' = all ∧ ∃ c, r = .ref c ∧ MatAt new c n (adjF n f)) := by
  unfold Says
  k_fill
  intro dp un gd cn cs ca ccd cl outer A₀ base h₀ L m s Q E B F X N T hk hd hu ret
  refine wpAny_call ?_
  k_dflt (first | k_enter | fail "the helper is not entered")
  rename_i gg LL hh tt FG FF BB XX TT KG ll oK oA dK dA N0 ap0
  k_steps
  unfold Stopped
  refine SrcN.at_L rfl (by k_asm) (by k_asm) hM (by walk_at "Z sub") (by omega) rfl rfl ?_ ?_
  · intro i I C D oI oC oD y m₂ h tk E' hi hC hy hmy F' N'
    obtain ⟨r, rfl, hr⟩ := hy
    k_steps
    exact ElemE.none (by k_asm) (by k_asm) Sub.refl rfl
  · intro D h tk hlt F' N'
    k_steps
    rename_i Fd hA1 lF Dt hA2 lD hA3 hA4 hA5 FA NA hA6 tkA t1A u1A v1A rA FA2 NA2 kA
    unfold Stopped
    have k1 : LL + 1 < Fd := lF.2.2.2.1
    have k2 : LL + 1 + 1 < Fd := lF.2.2.1
    have b1 : ∀ p ∈ (LL + 1, oA) :: all, p.1 ≠ LL + 1 + 1 := fun p hp => by
      rcases List.mem_cons.mp hp with rfl | hp
      · exact Nat.ne_of_lt (Nat.lt_succ_self _)
      · exact Nat.ne_of_lt (Nat.lt_succ_of_lt (Nat.lt_succ_of_lt (ll p hp)))
    have b2 : ∀ p ∈ (LL + 1, oA) :: all, p.1 ≠ Fd := fun p hp => by
      rcases List.mem_cons.mp hp with rfl | hp
      · exact Nat.ne_of_lt k1
      · exact Nat.ne_of_lt (Nat.lt_trans (ll p hp) (Nat.lt_of_succ_lt k1))
    have hBase : Sub all ((LL + 1, oA) :: all) := Sub.cons Sub.refl
    have hBA : (LL + 1, oA) ∈ (LL + 1, oA) :: all := List.mem_cons_self ..
    have N5 := name_adj (K := LL + 1 + 1) (o := oK) (F := Fd) (base := (LL + 1, oA) :: all) NA2 (by k_mem) (by walk_at "Z sub") (by k_mem)
    generalize hB : (LL + 1, oA) :: all = base at *
    refine SrcC.intro rfl (by k_asm) N5 (by assumption) (range_small (by omega)) (range_size (n := n) (by omega)) ?_
    intro g₀ I l1
    have eI1 : LL + 1 + 1 < I := l1 _ (List.mem_cons_self ..)
    have eI2 : Fd < I := l1 (Fd, _) (List.mem_cons_of_mem _ (List.mem_append_right _ (List.mem_cons_self ..)))
    have eI3 : ∀ p ∈ base, p.1 < I := fun p hp => l1 p (List.mem_cons_of_mem _ (List.mem_append_left _ hp))
    refine CRest.invH (fun i r => ∃ pre ys c, r = (pre ++ base) ++ [(Fd, listOf (List.toArray ys) c)] ∧ ys.length = i ∧ Apart pre base ∧ (∀ p ∈ pre, p.1 ≠ Fd) ∧ (∀ p ∈ pre, p.1 ≠ I) ∧ ∀ j x, ys[j]? = some x → RowV pre n (adjF n f j) x) dK ?_ ⟨[], [], 0, rfl, rfl, apart_nil, (fun _ h => nomatch h), (fun _ h => nomatch h), fun j x e => nomatch e⟩ ?_ ?_
    · intro p hp
      rcases List.mem_append.mp hp with hp | hp
      · exact b1 p hp
      · rw [List.mem_singleton.mp hp]; exact Nat.ne_of_gt k2
    · rintro i _ hi ⟨pre, ys, c, rfl, hl, ap, hF, hI, hv⟩ offK t h2 tk2 o' hd' F2 N2
      rw [Int.zero_add] at hd'
      k_steps
      unfold Stopped
      refine SrcG.range0_L (fun l j y => IntV (adjF n f i j) y) (fun _ _ _ _ hs h => h) rfl (by k_asm) (by k_asm) (by assumption) (by omega) rfl rfl ?_ ?_
      · intro i2 rest I2 C2 D2 oI2 oC2 oD2 t2 m3 h3 tk3 E3 hi2 hs2 hC2 hm2 F3 N3
        have hK3 : (LL + 1 + 1, o') ∈ rest := hs2 _ (by k_mem)
        have hA3 : (LL + 1, oA) ∈ rest := hs2 _ (by k_mem)
        have hM3 := MatAt.mono hM (Sub.trans (by walk_at "Z sub") hs2)
        have bm : Sm 1 (((i : Int) + (i2 : Int)).fmod 2) := fmod2_sm
        k_steps
        unfold Stopped
        refine says_readG (lv := 0) (by k_asm) (by k_asm) (minorG w mean mg mb rest a n i2 i f _ _ hn hi2 hi hM3) (by walk_at "Z sub") (by k_asm) (by k_asm) (by k_asm) rfl (by walk_at "Z room") (by walk_at "Z room") (fun _ _ _ h => h.1) ?_
        rintro r4 new4 h4 tk4 ⟨_, c4, rfl, hM4⟩ F4 N4 _
        k_steps
        unfold Stopped
        refine says_readG (lv := 1) (by k_asm) (by k_asm) (detG w mean mg mb new4 c4 (n - 1) (minF f i2 i) (by omega) hf.minor hM4) (by walk_at "Z sub") (by k_asm) (by k_asm) (by k_asm) rfl (by walk_at "Z room") (by walk_at "Z room") (fun _ _ _ h => h.1) ?_
        rintro r5 new5 h5 tk5 ⟨_, rfl, t5, rfl⟩ F5 N5 _
        have b5 := detF_sm (n := n - 1) (by omega) (hf.minor (p := i2) (q := i))
        k_steps
        exact ElemE.none (by k_asm) (by k_asm) (by walk_at "Z sub") ⟨_, rfl⟩
      · intro D3 h3 tk3 new3 F3 N3 ap3 hL3
        k_steps
        unfold Stopped
        have N6 := name_app N3
        have zI := fun p hp => ap3 p hp _ (List.mem_cons_self ..)
        have zK := fun p hp => ap3 p hp _ (List.mem_cons_of_mem _ (List.mem_cons_self ..))
        have zF : ∀ p ∈ new3, p.1 ≠ Fd := fun p hp => ap3 p hp (Fd, _) (List.mem_cons_of_mem _ (List.mem_cons_of_mem _ (List.mem_append_right _ (List.mem_cons_self ..))))
        have zB : Apart new3 base := fun p hp q hq => ap3 p hp q (List.mem_cons_of_mem _ (List.mem_cons_of_mem _ (List.mem_append_left _ (List.mem_append_right _ hq))))
        have zP : ∀ p ∈ new3 ++ pre, p.1 ≠ Fd := off_app zF hF
        refine push_at (by k_asm) N6 (Tl.base fun p hp => ?_) (by omega) ?_
        · refine fun q => ?_
          replace q := List.mem_singleton.mp q
          rcases List.mem_append.mp hp with hp | hp
          · exact zF p hp q
          · rcases List.mem_cons.mp hp with rfl | hp
            · exact Nat.ne_of_gt eI2 q
            · rcases List.mem_cons.mp hp with rfl | hp
              · exact Nat.ne_of_lt k2 q
              · rcases List.mem_append.mp hp with hp | hp
                · exact hF p hp q
                · exact b2 p hp q
        · intro h4 c4 F4 N7
          k_steps
          unfold Stopped
          refine unrEnd_of (news := (LL + 1 + 1, o') :: (((new3 ++ pre) ++ base) ++ [(Fd, listOf (List.toArray (ys ++ [Value.ref D3])) c4)])) (by k_asm) (name_turn N7) ?_ ⟨rfl, _, _, rfl, hd', ?_, new3 ++ pre, ys ++ [Value.ref D3], c4, rfl, by simp [hl], ?_, zP, off_app zI hI, ?_⟩
          · refine off_cons (Nat.ne_of_lt eI1) (off_app (off_app (off_app zI hI) fun p hp => Nat.ne_of_lt (eI3 p hp)) (off_one (Nat.ne_of_lt eI2)))
          · exact off_app (off_app (off_app zK fun p hp => offK p (List.mem_append_left _ (List.mem_append_left _ hp))) b1) (off_one (Nat.ne_of_gt k2))
          · exact apart_app zB ap
          · exact snoc_vals hl (fun j x e => (hv j x e).mono (Sub.app Sub.refl)) ⟨D3, rfl, hL3.mono Sub.left fun _ _ e => e⟩
    · rintro o _ ⟨pre, ys, c, rfl, hl, ap, hF, hI, hv⟩ offK h2 tk2 F2 N2
      k_steps
      refine closeH (new := pre ++ [(Fd, listOf (List.toArray ys) c)]) ret (by k_asm) (by k_asm) (by k_asm) (fun p hp => ?_) (by walk_at "Z sub") (fun p hp q hq => ?_) ⟨rfl, Fd, rfl, ys, c, List.mem_append_right _ (List.mem_singleton.mpr rfl), hl, fun j x e => (hv j x e).mono Sub.left⟩
      · rcases List.mem_append.mp hp with hp | hp
        · exact List.mem_cons_of_mem _ (List.mem_append_left _ (List.mem_append_left _ hp))
        · exact List.mem_cons_of_mem _ (List.mem_append_right _ hp)
      · rcases List.mem_append.mp hp with hp | hp
        · exact ap p hp q (hBase q hq)
        · rw [List.mem_singleton.mp hp]
          exact Ne.symm (b2 q (hBase q hq))

end
section
theorem timesG (w : World) (mean : ExcName → Option Value) (mg mb : Str → Option Value) (all : Ledger) (a b : Addr) (n : Nat) (f g : Nat → Nat → Int) (hn : n ≤ 3) (hf : Bd 60 n f) (hg : Bd 60 n g) (hM : MatAt all a n f) (hN : MatAt all b n g) :
    Says 0 w mean mg mb 189 all [.ref a, .ref b] (fun r new sub' => sub' = all ∧ ∃ c, r = .ref c ∧ MatAt new c n (timesF n f g)) := by
  unfold Says
  k_fill
  intro dp un gd cn cs ca ccd cl outer A₀ base h₀ L m s Q E B F X N T hk hd hu ret
  refine wpAny_call ?_
  k_dflt (first | k_enter | fail "the helper is not entered")
  k_steps
  unfold Stopped
  refine SrcG.range0_C (fun l j y => RowV l n (timesF n f g j) y) (fun _ _ _ _ hs h => RowV.mono h hs) rfl (by k_asm) (by k_asm) (by assumption) (by omega) rfl rfl ?_ ?_
  · intro i rest I C D K oI oC oD oK t m₂ h tk E' hi hs hC hK F' N'
    obtain ⟨hc1, hs⟩ := hs.uncons
    obtain ⟨hc2, hs⟩ := hs.uncons
    replace hM := MatAt.mono hM hs
    replace hN := MatAt.mono hN hs
    k_steps
    unfold Stopped
    refine SrcG.range0_C (fun l j y => IntV (timesF n f g i j) y) (fun _ _ _ _ hs h => h) rfl (by k_asm) (by k_asm) (by assumption) (by omega) rfl rfl ?_ ?_
    · intro i2 rest2 I2 C2 D2 K2 oI2 oC2 oD2 oK2 t2 m3 h2 tk2 E2 hi2 hs2 hC2 hK2 F2 N2
      obtain ⟨hk2, hs2⟩ := hs2.uncons.2.uncons.2.uncons.2.uncons
      replace hM := MatAt.mono hM hs2
      replace hN := MatAt.mono hN hs2
      replace hc1 := hs2 _ hc1
      replace hc2 := hs2 _ hc2
      k_steps
      unfold Stopped
      refine SrcG.range0_L (fun l j y => IntV (f i j * g j i2) y) (fun _ _ _ _ hs h => h) rfl (by k_asm) (by k_asm) (by assumption) (by omega) rfl rfl ?_ ?_
      · intro i4 rest4 I4 C4 D4 oI4 oC4 oD4 t4 m4 h4 tk4 E4 hi4 hs4 hC4 hm4 F4 N4
        obtain ⟨hk4, hs4⟩ := hs4.uncons.2.uncons.2.uncons.2.uncons
        replace hM := MatAt.mono hM hs4
        replace hN := MatAt.mono hN hs4
        replace hc1 := hs4 _ hc1
        replace hc2 := hs4 _ hc2
        replace hk2 := hs4 _ hk2
        have b1 := hf i i4 hi hi4
        have b2 := hg i4 i2 hi4 hi2
        k_steps
        exact ElemE.none (by k_asm) (by k_asm) Sub.refl ⟨_, rfl⟩
      · intro D3 h3 tk3 new3 F3 N3 ap3 hL3
        have hR : IntRow new3 D3 n (fun j => f i j * g j i2) := hL3
        k_steps
        exact ElemE.none (by k_asm) (by k_asm) (Sub.app Sub.refl) ⟨_, rfl⟩
    · intro D3 h3 tk3 new3 F3 N3 ap3 hL3
      exact ElemE.some F3 N3 ap3 ⟨_, rfl, hL3⟩
  · intro D3 h3 tk3 new3 F3 N3 ap3 hL3
    k_steps
    exact closeG ret (by k_asm) (by k_asm) (by k_asm) ap3 (by walk_at "Z sub") ⟨rfl, _, rfl, hL3⟩

end
section
theorem turnedG (w : World) (mean : ExcName → Option Value) (mg mb : Str → Option Value) (all : Ledger) (a : Addr) (n : Nat) (f : Nat → Nat → Int) (hn : n ≤ 3) (hM : MatAt all a n f) :
    Says 0 w mean mg mb 194 all [.ref a] (fun r new sub' => sub' = all ∧ ∃ c, r = .ref c ∧ MatAt new c n (fun i j => f j i)) := by
  unfold Says
  k_fill
  intro dp un gd cn cs ca ccd cl outer A₀ base h₀ L m s Q E B F X N T hk hd hu ret
  refine wpAny_call ?_
  k_dflt (first | k_enter | fail "the helper is not entered")
  k_steps
  unfold Stopped
  refine SrcG.range0_C (fun l j y => RowV l n (fun i => f i j) y) (fun _ _ _ _ hs h => RowV.mono h hs) rfl (by k_asm) (by k_asm) (by assumption) (by omega) rfl rfl ?_ ?_
  · intro i rest I C D K oI oC oD oK t m₂ h tk E' hi hs hC hK F' N'
    obtain ⟨hc1, hs⟩ := hs.uncons
    replace hM := MatAt.mono hM hs
    k_steps
    unfold Stopped
    refine SrcG.range0_L (fun l j y => IntV (f j i) y) (fun _ _ _ _ hs h => h) rfl (by k_asm) (by k_asm) (by assumption) (by omega) rfl rfl ?_ ?_
    · intro i2 rest2 I2 C2 D2 oI2 oC2 oD2 t2 m3 h2 tk2 E2 hi2 hs2 hC2 hm2 F2 N2
      replace hM := MatAt.mono hM hs2.uncons.2.uncons.2.uncons.2.uncons.2
      have hK2 := hs2.uncons.2.uncons.2.uncons.2.uncons.1
      have hc2 := hs2.uncons.2.uncons.2.uncons.2.uncons.2 _ hc1
      k_steps
      exact ElemE.none (by k_asm) (by k_asm) Sub.refl ⟨_, rfl⟩
    · intro D3 h3 tk3 new3 F3 N3 ap3 hL3
      exact ElemE.some F3 N3 ap3 ⟨_, rfl, hL3⟩
  · intro D3 h3 tk3 new3 F3 N3 ap3 hL3
    k_steps
    exact closeG ret (by k_asm) (by k_asm) (by k_asm) ap3 (by walk_at "Z sub") ⟨rfl, _, rfl, hL3⟩

end
section
theorem needG (w : World) (mean : ExcName → Option Value) (mg mb : Str → Option Value) (all : Ledger) (v : Value) :
    Says 0 w mean mg mb 121 all [.bool true, v] (fun r new sub' => sub' = all ∧ new = [] ∧ r = .none) := by
  unfold Says
  k_fill
  intro dp un gd cn cs ca ccd cl outer A₀ base h₀ L m s Q E B F X N T hk hd hu ret
  refine wpAny_call ?_
  k_dflt (first | k_enter | fail "the helper is not entered")
  k_steps
  exact closeN ret (by k_asm) (by k_asm) (by k_asm) Sub.refl ⟨rfl, rfl, rfl⟩

end
section
local macro_rules | `(tactic| walk_at "Z item") => `(tactic| (k_here; (with_reducible show wpAny _ _ (subscriptTail _ _ (Value.ref _) (Value.int _ _)) _ _ _); k_dflt (first
  | (refine' pmat_row ?N ?M ?s ?i ?n ?g ?_; (case N => k_asm); (case M => with_reducible assumption); (case s => walk_at "Z sub"); (case i => first | with_reducible assumption | omega); (case n => omega); (case g => with_unfolding_all rfl); intro r' hr')
  | (refine' prow_pair ?N ?M ?s ?i ?n ?g ?_; (case N => k_asm); (case M => with_reducible assumption); (case s => walk_at "Z sub"); (case i => first | with_reducible assumption | omega); (case n => omega); (case g => with_unfolding_all rfl); intro q' hq'))))
local macro_rules | `(tactic| walk_at "call builtin:len") => `(tactic| (k_here; k_dflt (first
  | (refine' pmat_len ?N ?M ?s ?n ?_; (case N => k_asm); (case M => with_reducible assumption); (case s => walk_at "Z sub"); (case n => omega); intro t' tk')
  | (refine' prow_len ?N ?M ?s ?n ?_; (case N => k_asm); (case M => with_reducible assumption); (case s => walk_at "Z sub"); (case n => omega); intro t' tk'))))
local macro_rules | `(tactic| walk_at "subscriptTail Name Constant ref int") => `(tactic| (k_here; k_dflt (refine' pmat_row0 ?N ?M ?s ?i ?n ?g ?_; (case N => k_asm); (case M => with_reducible assumption); (case s => walk_at "Z sub"); (case i => omega); (case n => omega); (case g => with_unfolding_all rfl); intro r' hr')))

section
theorem shapeG (w : World) (mean : ExcName → Option Value) (mg mb : Str → Option Value) (all : Ledger) (a : Addr) (n : Nat) (f : Nat → Nat → Int) (hM : PMat all a n f) (hn : n ≤ 3) (hn1 : 1 ≤ n) :
    Says 0 w mean mg mb 114 all [.ref a] (fun r new sub' => sub' = all ∧ ∃ q t u c, r = .ref q ∧ new = [(q, tupOf #[.int (n : Int) t, .int (n : Int) u] c)]) := by
  unfold Says
  k_fill
  intro dp un gd cn cs ca ccd cl outer A₀ base h₀ L m s Q E B F X N T hk hd hu ret
  refine wpAny_call ?_
  k_dflt (first | k_enter | fail "the helper is not entered")
  k_steps
  exact closeG (new := [_]) ret (by k_asm) (by k_asm) (by k_asm) (apart_lt (by first | assumption | exact allLt_all (by assumption))) Sub.refl ⟨rfl, _, _, _, _, rfl, rfl⟩
theorem fromG (w : World) (mean : ExcName → Option Value) (mg mb : Str → Option Value) (all : Ledger) (a : Addr) (n : Nat) (f : Nat → Nat → Int) (hn : n ≤ 3) (hM : MatAt all a n f) :
    Says 0 w mean mg mb 126 all [.ref a] (fun r new sub' => sub' = all ∧ ∃ c, r = .ref c ∧ PMat new c n f) := by
  unfold Says
  k_fill
  intro dp un gd cn cs ca ccd cl outer A₀ base h₀ L m s Q E B F X N T hk hd hu ret
  refine wpAny_call ?_
  k_dflt (first | k_enter | fail "the helper is not entered")
  k_steps
  unfold Stopped
  refine SrcG.at_L (fun l j y => PRowV l n (f j) y) (fun _ _ _ _ hs h => h.mono hs) rfl (by k_asm) (by k_asm) hM (by walk_at "Z sub") (by omega) rfl rfl ?_ ?_
  · intro i rest I C D oI oC oD y m₂ h tk E' hi hs hC hy hmy F' N'
    obtain ⟨r, rfl, hr⟩ := hy
    replace hr := hr.mono hs
    k_steps
    unfold Stopped
    refine SrcG.at_L (fun l j y => PairV l (f i j) y) (fun _ _ _ _ hs h => h.mono hs) rfl (by k_asm) (by k_asm) (show IntRow rest r n (f i) from hr) (by walk_at "Z sub") (by omega) rfl rfl ?_ ?_
    · intro i2 rest2 I2 C2 D2 oI2 oC2 oD2 y2 m3 h2 tk2 E2 hi2 hs2 hC2 hy2 hmy2 F2 N2
      obtain ⟨t2, rfl⟩ := hy2
      k_steps
      exact ElemE.some (new := [_]) (by k_asm) (by k_asm) (apart_lt (allLt_all (by assumption))) ⟨_, rfl, pair_new rfl rfl⟩
    · intro D3 h3 tk3 new3 F3 N3 ap3 hL3
      exact ElemE.some F3 N3 ap3 ⟨_, rfl, hL3⟩
  · intro D3 h3 tk3 new3 F3 N3 ap3 hL3
    k_steps
    exact closeG ret (by k_asm) (by k_asm) (by k_asm) ap3 (by walk_at "Z sub") ⟨rfl, _, rfl, hL3⟩
theorem unitG (w : World) (mean : ExcName → Option Value) (mg mb : Str → Option Value) (all : Ledger) (n : Nat) (tn : Tok) (hn : n ≤ 3) :
    Says 0 w mean mg mb 131 all [.int (n : Int) tn] (fun r new sub' => sub' = all ∧ ∃ c, r = .ref c ∧ PMat new c n unitF) := by
  unfold Says
  k_fill
  intro dp un gd cn cs ca ccd cl outer A₀ base h₀ L m s Q E B F X N T hk hd hu ret
  refine wpAny_call ?_
  k_dflt (first | k_enter | fail "the helper is not entered")
  k_steps
  unfold Stopped
  refine SrcG.range0_C (fun l j y => PRowV l n (unitF j) y) (fun _ _ _ _ hs h => h.mono hs) rfl (by k_asm) (by k_asm) (by assumption) (by omega) rfl rfl ?_ ?_
  · intro i rest I C D K oI oC oD oK t m₂ h tk E' hi hs hC hK F' N'
    obtain ⟨hc1, hs⟩ := hs.uncons
    k_steps
    unfold Stopped
    refine SrcG.range0_L (fun l j y => PairV l (unitF i j) y) (fun _ _ _ _ hs h => h.mono hs) rfl (by k_asm) (by k_asm) (by assumption) (by omega) rfl rfl ?_ ?_
    · intro i2 rest2 I2 C2 D2 oI2 oC2 oD2 t2 m3 h2 tk2 E2 hi2 hs2 hC2 hm2 F2 N2
      have hK2 := hs2.uncons.2.uncons.2.uncons.2.uncons.1
      k_steps
      · exact ElemE.none (by k_asm) (by k_asm) Sub.refl ⟨_, rfl, .inr (.inl ⟨rfl, if_pos (by omega)⟩)⟩
      · exact ElemE.none (by k_asm) (by k_asm) Sub.refl ⟨_, rfl, .inr (.inr ⟨rfl, if_neg (by omega)⟩)⟩
    · intro D3 h3 tk3 new3 F3 N3 ap3 hL3
      exact ElemE.some F3 N3 ap3 ⟨_, rfl, hL3⟩
  · intro D3 h3 tk3 new3 F3 N3 ap3 hL3
    k_steps
    exact closeG ret (by k_asm) (by k_asm) (by k_asm) ap3 (by walk_at "Z sub") ⟨rfl, _, rfl, hL3⟩

end
section
local macro_rules | `(tactic| walk_at "UnrEndW") => `(tactic| refine stopK ?_)
local macro_rules | `(tactic| walk_at "exec For Tuple Call cons nil") => `(tactic| (k_here; (rename Fr _ _ _ _ => lF'); (with_unfolding_all refine' For_turns lF' ?_; k_whole)))
local macro_rules | `(tactic| walk_at "call type:enumerate") => `(tactic| (k_here; refine stopK ?_))
theorem dotG (w : World) (mean : ExcName → Option Value) (mg mb : Str → Option Value) (all : Ledger) (a b : Addr) (n : Nat) (f g : Nat → Int) (hn : n ≤ 3) (hf : ∀ i, i < n → Sm 100 (f i)) (hg : ∀ i, i < n → Sm 100 (g i)) (hA : PRow all a n f) (hB : PRow all b n g) :
    Says 3 w mean mg mb 143 all [.ref a, .ref b] (fun r new sub' => sub' = all ∧ ∃ q, r = .ref q ∧ (PairAt new q (dotN f g n))) := by
  unfold Says
  k_fill
  intro dp un gd cn cs ca ccd cl outer A₀ base h₀ L m s Q E B F X N T hk hd hu ret
  refine wpAny_call ?_
  k_dflt (first | k_enter | fail "the helper is not entered")
  k_steps
  unfold Stopped
  obtain ⟨vs, c, hm, hl, hv⟩ := hA
  refine ktu_enum (lo := listOf (List.toArray vs) c) rfl (by k_asm) (by k_asm) hm rfl rfl rfl ?_
  intro I l1
  refine items_inv (fun i m₁ news => i ≤ n ∧ m₁ "other" = some (.ref b) ∧ ∃ pre q, news = pre ++ all ∧ Apart pre all ∧ (∀ p ∈ pre, p.1 ≠ I ∧ p.1 ≠ I + 1) ∧ m₁ "found" = some (.ref q) ∧ PairAt pre q (dotN f g i)) ?_ ?_ _ 0 _ _ rfl (by simp) ⟨Nat.zero_le _, rfl, [], 71, rfl, apart_nil, (fun _ h => nomatch h), rfl, .inr (.inr ⟨rfl, rfl⟩)⟩
  · rintro i v m₁ _ hvi ⟨hin, mo, pre, q, rfl, ap, hI, mf, hq⟩ T' t h tk oe oi hT F' N'
    obtain ⟨qa, rfl, hqa⟩ := hv i v hvi
    have hi : i < n := by rw [← hl]; exact (List.getElem?_eq_some_iff.mp hvi).1
    k_steps
    unfold Stopped
    have b1 := dotN_sm hf hg i hin
    refine says_readG (lv := 2) (by k_asm) (by k_asm) (rmulG w mean mg mb all qa _ (f i) (g i) ((hf i hi).mono (by decide)) ((hg i hi).mono (by decide)) hqa (by with_reducible assumption)) (by walk_at "Z sub") (by k_asm) (by k_asm) (by k_asm) rfl (by walk_at "Z room") (by walk_at "Z room") (fun _ _ _ h => h.1) ?_
    rintro r5 new5 h5 tk5 ⟨_, q5, rfl, hP5⟩ F5 N5 ap5
    k_steps
    unfold Stopped
    refine says_readG (lv := 2) (by k_asm) (by k_asm) (sub := new5 ++ ((I + 1, oe) :: (I, oi) :: (pre ++ all))) (raddG w mean mg mb _ q q5 (dotN f g i) (f i * g i) (b1.mono (by omega)) (((hf i hi).mul (hg i hi)).mono (by decide)) (hq.mono (Sub.app (Sub.cons (Sub.cons Sub.left)))) (hP5.mono Sub.left)) Sub.refl (by k_asm) (by k_asm) (by k_asm) rfl (by walk_at "Z room") (by walk_at "Z room") (fun _ _ _ h => h.1) ?_
    rintro r6 new6 h6 tk6 ⟨_, q6, rfl, hP6⟩ F6 N6 ap6
    k_steps
    unfold Stopped
    have oA : ∀ p ∈ all, p.1 ≠ I ∧ p.1 ≠ I + 1 := fun p hp => ⟨Nat.ne_of_lt (l1 p hp), Nat.ne_of_lt (Nat.lt_succ_of_lt (l1 p hp))⟩
    have z6 : ∀ p ∈ new6, p.1 ≠ I ∧ p.1 ≠ I + 1 := fun p hp => ⟨ap6 p hp (I, oi) (List.mem_append_right _ (List.mem_cons_of_mem _ (List.mem_cons_self ..))), ap6 p hp (I + 1, oe) (List.mem_append_right _ (List.mem_cons_self ..))⟩
    refine endW (by k_asm) (by k_asm) (off2 (off2 z6 (off2 (apart_two ap5) hI)) oA) ?_
    exact ⟨⟨List.mem_append_right _ hm, trivial⟩, by omega, mo, _, q6, rfl,
      apart_app (fun p hp x hx => ap6 p hp x (List.mem_append_right _ (List.mem_cons_of_mem _ (List.mem_cons_of_mem _ (List.mem_append_right _ hx))))) (apart_app (fun p hp x hx => ap5 p hp x (List.mem_cons_of_mem _ (List.mem_cons_of_mem _ (List.mem_append_right _ hx)))) ap), off2 z6 (off2 (apart_two ap5) hI), rfl, hP6.mono Sub.left⟩
  · rintro m₁ _ ⟨hin, mo, pre, q, rfl, ap, hI, mf, hq⟩ h tk F' N'
    rw [hl] at hq
    k_steps
    exact closeG ret (by k_asm) (by k_asm) (by k_asm) ap Sub.refl ⟨rfl, _, rfl, hq⟩

end
section
theorem pscaleG (w : World) (mean : ExcName → Option Value) (mg mb : Str → Option Value) (all : Ledger) (a q : Addr) (n : Nat) (f : Nat → Nat → Int) (x : Int) (hn : n ≤ 3) (hf : Bd 300 n f) (hx : Sm 300 x) (hM : PMat all a n f) (hq : PairAt all q x) :
    Says 3 w mean mg mb 153 all [.ref a, .ref q] (fun r new sub' => sub' = all ∧ ∃ c, r = .ref c ∧ PMat new c n (fun i j => f i j * x)) := by
  unfold Says
  k_fill
  intro dp un gd cn cs ca ccd cl outer A₀ base h₀ L m s Q E B F X N T hk hd hu ret
  refine wpAny_call ?_
  k_dflt (first | k_enter | fail "the helper is not entered")
  k_steps
  unfold Stopped
  refine SrcG.at_L (fun l j y => PRowV l n (fun k => f j k * x) y) (fun _ _ _ _ hs h => h.mono hs) rfl (by k_asm) (by k_asm) (show ListAt all a n _ from hM) (by walk_at "Z sub") (by omega) rfl rfl ?_ ?_
  · intro i rest I C D oI oC oD y m₂ h tk E' hi hs hC hy hmy F' N'
    obtain ⟨r, rfl, hr⟩ := hy
    obtain ⟨hc0, hs⟩ := hs.uncons
    k_steps
    unfold Stopped
    refine SrcG.at_L (fun l j y => PairV l (f i j * x) y) (fun _ _ _ _ hs h => h.mono hs) rfl (by k_asm) (by k_asm) (show ListAt all r n _ from hr) (by walk_at "Z sub") (by omega) rfl rfl ?_ ?_
    · intro i2 rest2 I2 C2 D2 oI2 oC2 oD2 y2 m3 h2 tk2 E2 hi2 hs2 hC2 hy2 hmy2 F2 N2
      obtain ⟨q2, rfl, hq2⟩ := hy2
      replace hs2 := hs2.uncons.2.uncons.2.uncons.2
      have hS2 : Sub all rest2 := Sub.trans hs hs2
      replace hc0 := hs2 _ hc0
      k_steps
      unfold Stopped
      refine says_readG (lv := 2) (by k_asm) (by k_asm)  (rmulG w mean mg mb all q2 q (f i i2) x ((hf i i2 hi hi2).mono (by decide)) (hx.mono (by decide)) hq2 hq) (by walk_at "Z sub") (by k_asm) (by k_asm) (by k_asm) rfl (by walk_at "Z room") (by walk_at "Z room") (fun _ _ _ h => h.1) ?_
      rintro r5 new5 h5 tk5 ⟨_, q5, rfl, hP5⟩ F5 N5 ap5
      k_steps
      exact ElemE.some (by k_asm) (by k_asm) ap5 ⟨_, rfl, hP5⟩
    · intro D3 h3 tk3 new3 F3 N3 ap3 hL3
      exact ElemE.some F3 N3 ap3 ⟨_, rfl, hL3⟩
  · intro D3 h3 tk3 new3 F3 N3 ap3 hL3
    k_steps
    exact closeG ret (by k_asm) (by k_asm) (by k_asm) ap3 (by walk_at "Z sub") ⟨rfl, _, rfl, hL3⟩

end
section
local macro_rules | `(tactic| walk_at "compareOp Eq int int") => `(tactic| (k_here; k_dflt (with_reducible refine eq_int_same rfl ?_)))
local macro_rules | `(tactic| walk_at "compareOp Eq ref ref") => `(tactic| (k_here; k_dflt (refine eq_same (by ked_read) (by ked_read) rfl rfl (by ked_shaped) (by ke_room) ?_)))
local macro_rules | `(tactic| walk_at "call ref") => `(tactic| (k_here; (with_reducible show wpAny _ _ (call (Value.ref 114) _) _ _ _); k_dflt (refine says_readG (lv := 0) (by k_asm) (by k_asm)  (shapeG _ _ _ _ _ _ _ _ (by with_reducible assumption) (by omega) (by omega)) (by walk_at "Z sub") (by k_asm) (by k_asm) (by k_asm) rfl (by walk_at "Z room") (by walk_at "Z room") (fun _ _ _ h => h.1) ?_; intro r' new' h' tk' hp' F' N' ap'; obtain ⟨_, q', t', u', c', e', n'⟩ := hp'; subst e'; subst n'; (simp only [List.cons_append, List.nil_append] at N'))))
local macro_rules | `(tactic| walk_at "call ref") => `(tactic| (k_here; (with_reducible show wpAny _ _ (call (Value.ref 121) _) _ _ _); k_dflt (refine says_readG (lv := 0) (by k_asm) (by k_asm)  (needG _ _ _ _ [] _) (fun _ h => nomatch h) (by k_asm) (by k_asm) (by k_asm) rfl (by walk_at "Z room") (by walk_at "Z room") (fun _ _ _ h => h.1) ?_; intro r' new' h' tk' hp' F' N' ap'; obtain ⟨_, n', e'⟩ := hp'; subst e'; subst n'; (simp only [List.nil_append] at N'))))

section
theorem transG (w : World) (mean : ExcName → Option Value) (mg mb : Str → Option Value) (all : Ledger) (a : Addr) (n : Nat) (f : Nat → Nat → Int) (hn : n ≤ 3) (hn1 : 1 ≤ n) (hM : PMat all a n f) :
    Says 1 w mean mg mb 136 all [.ref a] (fun r new sub' => sub' = all ∧ ∃ c, r = .ref c ∧ ListAt new c n (fun i y => ∃ r, y = .ref r ∧ ListAt new r n (fun j y => PairV all (f j i) y))) := by
  unfold Says
  k_fill
  intro dp un gd cn cs ca ccd cl outer A₀ base h₀ L m s Q E B F X N T hk hd hu ret
  refine wpAny_call ?_
  k_dflt (first | k_enter | fail "the helper is not entered")
  k_steps
  unfold Stopped
  refine SrcG.range0_C (fun l i y => ∃ r, y = .ref r ∧ ListAt l r n (fun j y => PairV all (f j i) y)) (fun _ _ _ _ hs h => (by obtain ⟨r, e, h⟩ := h; exact ⟨r, e, h.mono hs fun _ _ e => e⟩)) rfl (by k_asm) (by k_asm) (by assumption) (by omega) rfl rfl ?_ ?_
  · intro i rest I C D K oI oC oD oK t m₂ h tk E' hi hs hC hK F' N'
    obtain ⟨hc0, hs⟩ := hs.uncons
    obtain ⟨hc1, hs⟩ := hs.uncons
    k_steps
    unfold Stopped
    refine SrcG.at_L (fun _ j y => PairV all (f j i) y) (fun _ _ _ _ _ h => h) rfl (by k_asm) (by k_asm) (show ListAt all a n _ from hM) (by walk_at "Z sub") (by omega) rfl rfl ?_ ?_
    · intro i2 rest2 I2 C2 D2 oI2 oC2 oD2 y2 m3 h2 tk2 E2 hi2 hs2 hC2 hy2 hmy2 F2 N2
      obtain ⟨r2, rfl, hr2⟩ := hy2
      have hK2 := hs2.uncons.2.uncons.2.uncons.2.uncons.1
      have hS2 : Sub all rest2 := Sub.trans hs hs2.uncons.2.uncons.2.uncons.2.uncons.2
      k_steps
      exact ElemE.none (by k_asm) (by k_asm) Sub.refl ⟨_, rfl, by assumption⟩
    · intro D3 h3 tk3 new3 F3 N3 ap3 hL3
      exact ElemE.some F3 N3 ap3 ⟨_, rfl, hL3⟩
  · intro D3 h3 tk3 new3 F3 N3 ap3 hL3
    k_steps
    exact closeG ret (by k_asm) (by k_asm) (by k_asm) ap3 (by walk_at "Z sub") ⟨rfl, _, rfl, hL3⟩

end
section
theorem pmulG (w : World) (mean : ExcName → Option Value) (mg mb : Str → Option Value) (all : Ledger) (a b : Addr) (n : Nat) (f g : Nat → Nat → Int) (hn : n ≤ 3) (hn1 : 1 ≤ n) (hf : Bd 100 n f) (hg : Bd 100 n g) (hM : PMat all a n f) (hN : PMat all b n g) :
    Says 4 w mean mg mb 158 all [.ref a, .ref b] (fun r new sub' => sub' = all ∧ ∃ c, r = .ref c ∧ PMat new c n (fun i j => dotN (f i) (fun k => g k j) n)) := by
  unfold Says
  k_fill
  intro dp un gd cn cs ca ccd cl outer A₀ base h₀ L m s Q E B F X N T hk hd hu ret
  refine wpAny_call ?_
  k_dflt (first | k_enter | fail "the helper is not entered")
  rename_i gg LL hh tt FG FF BB XX TT KG ll oK dK N0 ap0
  k_steps
  unfold Stopped
  refine says_readG (lv := 1) (by k_asm) (by k_asm)  (transG w mean mg mb all b n g hn hn1 hN) (by walk_at "Z sub") (by k_asm) (by k_asm) (by k_asm) rfl (by walk_at "Z room") (by walk_at "Z room") (fun _ _ _ h => h.1) ?_
  rintro r5 new5 h5 tk5 ⟨_, cT, rfl, hT5⟩ F5 N5 ap5
  have hoff : ∀ p ∈ new5 ++ all, p.1 ≠ LL + 1 := off_app (fun p hp => ap5 p hp (LL + 1, oK) (List.mem_cons_of_mem _ (List.mem_cons_self ..))) fun p hp => Nat.ne_of_lt (Nat.lt_succ_of_lt (ll p hp))
  have N6 : News gg LL h5 ((LL + 1, oK) :: (new5 ++ all)) := name_sub N5 fun p hp => by
    rcases List.mem_cons.mp hp with rfl | hp
    · exact List.mem_append_right _ (List.mem_cons_of_mem _ (List.mem_cons_self ..))
    · rcases List.mem_append.mp hp with hp | hp
      · exact List.mem_append_left _ hp
      · exact List.mem_append_right _ (List.mem_cons_of_mem _ (List.mem_cons_of_mem _ hp))
  clear N5
  k_steps
  unfold Stopped
  refine SrcG.at_C (fun l i y => PRowV l n (fun j => dotN (f i) (fun k => g k j) n) y) (fun _ _ _ _ hs h => h.mono hs) rfl (by k_asm) (by k_asm) (show ListAt all a n _ from hM) (by walk_at "Z sub") (by omega) rfl rfl ?_ ?_
  · intro i rest I C D K oI oC oD oK2 y m₂ h tk E' hi hs hC hy hd' F' N'
    obtain ⟨r, rfl, hr⟩ := hy
    have hS : Sub all rest := Sub.trans (by walk_at "Z sub") hs
    have hT : Sub new5 rest := Sub.trans (by walk_at "Z sub") hs
    replace hs := hs
    k_steps
    unfold Stopped
    refine SrcG.at_L (fun l j y => PairV l (dotN (f i) (fun k => g k j) n) y) (fun _ _ _ _ hs h => h.mono hs) rfl (by k_asm) (by k_asm) (show ListAt new5 cT n _ from hT5) (by walk_at "Z sub") (by omega) rfl rfl ?_ ?_
    · intro i2 rest2 I2 C2 D2 oI2 oC2 oD2 y2 m3 h2 tk2 E2 hi2 hs2 hC2 hy2 hmy2 F2 N2
      obtain ⟨r2, rfl, hr2⟩ := hy2
      have hcol : PRow rest r2 n (fun k => g k i2) := hr2.mono hT fun j y h => h.mono hS
      have hrow : PRow rest r n (f i) := hr.mono hS
      have hS2 : Sub rest rest2 := hs2.uncons.2.uncons.2.uncons.2.uncons.2
      replace hs2 := hs2
      k_steps
      unfold Stopped
      refine says_readG (lv := 3) (by k_asm) (by k_asm)  (dotG w mean mg mb rest r r2 n (f i) (fun k => g k i2) hn (fun k hk => hf i k hi hk) (fun k hk => hg k i2 hk hi2) hrow hcol) (by walk_at "Z sub") (by k_asm) (by k_asm) (by k_asm) rfl (by walk_at "Z room") (by walk_at "Z room") (fun _ _ _ h => h.1) ?_
      rintro r6 new6 h6 tk6 ⟨_, q6, rfl, hP6⟩ F6 N6 ap6
      k_steps
      exact ElemE.some (by k_asm) (by k_asm) ap6 ⟨_, rfl, hP6⟩
    · intro D3 h3 tk3 new3 F3 N3 ap3 hL3
      exact ElemE.some F3 N3 ap3 ⟨_, rfl, hL3⟩
  · intro D3 h3 tk3 new3 F3 N3 ap3 hL3
    k_steps
    exact closeG ret (by k_asm) (by k_asm) (by k_asm) ap3 (by walk_at "Z sub") ⟨rfl, _, rfl, hL3⟩

end
section
theorem paddG (w : World) (mean : ExcName → Option Value) (mg mb : Str → Option Value) (all : Ledger) (a b : Addr) (n : Nat) (f g : Nat → Nat → Int) (hn : n ≤ 3) (hn1 : 1 ≤ n) (hf : Bd 300 n f) (hg : Bd 300 n g) (hM : PMat all a n f) (hN : PMat all b n g) :
    Says 3 w mean mg mb 148 all [.ref a, .ref b] (fun r new sub' => sub' = all ∧ ∃ c, r = .ref c ∧ PMat new c n (fun i j => f i j + g i j)) := by
  unfold Says
  k_fill
  intro dp un gd cn cs ca ccd cl outer A₀ base h₀ L m s Q E B F X N T hk hd hu ret
  refine wpAny_call ?_
  k_dflt (first | k_enter | fail "the helper is not entered")
  k_steps
  unfold Stopped
  refine SrcG.enum_CL (fun l i y => PRowV l n (fun j => f i j + g i j) y) (fun _ _ _ _ hs h => h.mono hs) rfl (by k_asm) (by k_asm) (show ListAt all a n _ from hM) (by walk_at "Z sub") (by omega) rfl rfl rfl (by decide) ?_ ?_
  · intro i rest I J C D K oI oJ oC oD oK t y m₂ h tk E' hi hs hC hy hd hmb F' N'
    obtain ⟨r, rfl, hr⟩ := hy
    have hS : Sub all rest := Sub.trans (by walk_at "Z sub") hs
    replace hs := hs
    k_steps
    unfold Stopped
    refine SrcG.enum_LL (fun l j y => PairV l (f i j + g i j) y) (fun _ _ _ _ hs h => h.mono hs) rfl (by k_asm) (by k_asm) (show ListAt all r n _ from hr) (by walk_at "Z sub") (by omega) rfl rfl rfl (by decide) ?_ ?_
    · intro i2 rest2 I2 J2 C2 D2 oI2 oJ2 oC2 oD2 t2 y2 m3 h2 tk2 E2 hi2 hs2 hC2 hy2 hma2 hmb2 F2 N2
      obtain ⟨q2, rfl, hq2⟩ := hy2
      have hS2 : Sub all rest2 := Sub.trans hS hs2.uncons.2.uncons.2.uncons.2.uncons.2.uncons.2
      replace hs2 := hs2
      k_steps
      unfold Stopped
      refine says_readG (lv := 2) (by k_asm) (by k_asm)  (raddG w mean mg mb all q2 _ (f i i2) (g i i2) ((hf i i2 hi hi2).mono (by decide)) ((hg i i2 hi hi2).mono (by decide)) hq2 (by assumption)) (by walk_at "Z sub") (by k_asm) (by k_asm) (by k_asm) rfl (by walk_at "Z room") (by walk_at "Z room") (fun _ _ _ h => h.1) ?_
      rintro r5 new5 h5 tk5 ⟨_, q5, rfl, hP5⟩ F5 N5 ap5
      k_steps
      exact ElemE.some (by k_asm) (by k_asm) ap5 ⟨_, rfl, hP5⟩
    · intro D3 h3 tk3 new3 F3 N3 ap3 hL3
      exact ElemE.some F3 N3 ap3 ⟨_, rfl, hL3⟩
  · intro D3 h3 tk3 new3 F3 N3 ap3 hL3
    k_steps
    exact closeG ret (by k_asm) (by k_asm) (by k_asm) ap3 (by walk_at "Z sub") ⟨rfl, _, rfl, hL3⟩

end
section
theorem traceG (w : World) (mean : ExcName → Option Value) (mg mb : Str → Option Value) (all : Ledger) (a : Addr) (n : Nat) (f : Nat → Nat → Int) (hn : n ≤ 3) (hn1 : 1 ≤ n) (hf : Bd 300 n f) (hM : PMat all a n f) :
    Says 3 w mean mg mb 165 all [.ref a] (fun r new sub' => sub' = all ∧ ∃ q, r = .ref q ∧ PairAt new q (sumTo (fun i => f i i) n)) := by
  unfold Says
  k_fill
  intro dp un gd cn cs ca ccd cl outer A₀ base h₀ L m s Q E B F X N T hk hd hu ret
  refine wpAny_call ?_
  k_dflt (first | k_enter | fail "the helper is not entered")
  k_steps
  unfold Stopped
  have N5 : News _ _ _ all := name_sub (by k_asm) (by walk_at "Z sub")
  refine iter_rangeUnr (n := n) rfl (by assumption) (range_small (by omega)) (range_size (by omega)) (by k_asm) N5 ?_
  intro I l1
  refine RangeRest.inv (fun i m₁ news => i ≤ n ∧ m₁ "a" = some (.ref a) ∧ ∃ pre q, news = pre ++ all ∧ Apart pre all ∧ (∀ p ∈ pre, p.1 ≠ I) ∧ m₁ "found" = some (.ref q) ∧ PairAt pre q (sumTo (fun i => f i i) i)) ?_ ?_ _ 0 _ _ (Nat.zero_add _) ⟨Nat.zero_le _, rfl, [], 71, rfl, apart_nil, (fun _ h => nomatch h), rfl, .inr (.inr ⟨rfl, rfl⟩)⟩
  · rintro i m₁ _ hi ⟨hin, ma, pre, q, rfl, ap, hI, mf, hq⟩ t h tk F' N'
    rw [Int.zero_add] at F'
    have b1 := sumTo_sm (f := fun i => f i i) (fun i hi => hf i i hi hi) i hin
    k_steps
    unfold Stopped
    refine says_readG (lv := 2) (by k_asm) (by k_asm) (sub := (I, _) :: (pre ++ all)) (raddG w mean mg mb _ q _ (sumTo (fun i => f i i) i) (f i i) (b1.mono (by omega)) ((hf i i hi hi).mono (by decide)) (hq.mono (Sub.cons Sub.left)) (PairAt.mono (show PairAt all _ (f i i) by assumption) (Sub.cons (Sub.app Sub.refl)))) Sub.refl (by k_asm) (by k_asm) (by k_asm) rfl (by walk_at "Z room") (by walk_at "Z room") (fun _ _ _ h => h.1) ?_
    rintro r5 new5 h5 tk5 ⟨_, q5, rfl, hP5⟩ F5 N5 ap5
    k_steps
    unfold Stopped
    have z5 := fun p hp => ap5 p hp _ (List.mem_cons_self ..)
    refine unrEnd_of (by k_asm) (name_loop (by k_asm)) (off_app (off_app z5 hI) fun p hp => Nat.ne_of_lt (l1 p hp)) ?_
    exact ⟨by omega, ma, new5 ++ pre, q5, rfl, apart_app (fun p hp x hx => ap5 p hp x (List.mem_cons_of_mem _ (List.mem_append_right _ hx))) ap, off_app z5 hI, rfl, hP5.mono Sub.left⟩
  · rintro m₁ _ ⟨hin, ma, pre, q, rfl, ap, hI, mf, hq⟩ h tk F' N'
    k_steps
    exact closeG ret (by k_asm) (by k_asm) (by k_asm) ap Sub.refl ⟨rfl, _, rfl, hq⟩

end
section
theorem cpG (w : World) (mean : ExcName → Option Value) (mg mb : Str → Option Value) (all : Ledger) (a : Addr) (n : Nat) (f : Nat → Nat → Int) (hn : n ≤ 2) (hn1 : 1 ≤ n) (hf : Bd 30 n f) (hM : PMat all a n f) :
    Says 5 w mean mg mb 172 all [.ref a] (fun r new sub' => sub' = all ∧ ∃ c, r = .ref c ∧ ListAt new c (n + 1) (fun i y => PairV new (cfF n f (n - i)) y)) := by
  unfold Says
  k_fill
  intro dp un gd cn cs ca ccd cl outer A₀ base h₀ L m s Q E B F X N T hk hd hu ret
  refine wpAny_call ?_
  k_dflt (first | k_enter | fail "the helper is not entered")
  k_steps
  rename_i Fd hA1 FA NA lF
  unfold Stopped
  have eF : ∀ p ∈ all, @LT.lt Nat _ p.1 Fd := allLt_all lF.2
  refine says_readG (lv := 0) (by k_asm) (by k_asm)  (unitG w mean mg mb [] n _ (by omega)) (fun _ h => nomatch h) (by k_asm) (by k_asm) (by k_asm) rfl (by walk_at "Z room") (by walk_at "Z room") (fun _ _ _ h => h.1) ?_
  rintro r5 new5 h5 tk5 ⟨_, c5, rfl, hP5⟩ F5 N5 ap5
  k_steps
  unfold Stopped
  have N6 := name_three (new := new5) (all := all) (x := (Fd, listOf (List.toArray [Value.ref 72]) 0)) (by k_asm) (by walk_at "Z sub") (by walk_at "Z sub") (by k_mem)
  refine iter_rangeUnr (n := n) rfl (by assumption) (range_small (by omega)) (range_size (by omega)) (by k_asm) N6 ?_
  intro I l1
  have eI : ∀ p ∈ all, p.1 ≠ I := fun p hp => Nat.ne_of_lt (l1 p (List.mem_append_left _ (List.mem_append_right _ hp)))
  have eFI : Fd ≠ I := Nat.ne_of_lt (l1 (Fd, _) (List.mem_append_right _ (List.mem_cons_self ..)))
  have g5 : Good new5 all I Fd := ⟨fun p hp q hq => ap5 p hp q (List.mem_cons_of_mem _ (List.mem_cons_of_mem _ hq)), fun p hp => Nat.ne_of_lt (l1 p (List.mem_append_left _ (List.mem_append_left _ hp))), fun p hp => ap5 p hp _ (List.mem_cons_self ..)⟩
  refine RangeRest.inv (fun i m₁ news => i ≤ n ∧ m₁ "a" = some (.ref a) ∧ (∃ t, m₁ "n" = some (.int (n : Int) t)) ∧ m₁ "found" = some (.ref Fd) ∧ ∃ pre pw ys c, news = (pre ++ all) ++ [(Fd, listOf (List.toArray ys) c)] ∧ Good pre all I Fd ∧ m₁ "power" = some (.ref pw) ∧ PMat pre pw n (cpP n f i) ∧ ys.length = i + 1 ∧
    ∀ (j : Nat) x, ys[j]? = some x → PairV pre (cfF n f j) x) ?_ ?_ _ 0 _ _ (Nat.zero_add _) ⟨Nat.zero_le _, rfl, ⟨_, rfl⟩, rfl, new5, c5, [Value.ref 72], 0, rfl, g5, rfl, hP5, rfl, one_val ⟨72, rfl, .inr (.inl ⟨rfl, rfl⟩)⟩⟩
  · rintro i m₁ _ hi ⟨hin, ma, ⟨tn, mn⟩, mf, pre, pw, ys, c, rfl, hG, mp, hP, hl, hv⟩ t h tk F' N'
    have bP := cpP_bd hn hf hi
    have bM := (pmul_bd (hf.mono (show 30 ≤ 80 by omega)) bP).mono (show 80 + 80 + n ≤ 300 by omega)
    have bd := dv_sm hn hi hf
    have bT := sumTo_sm (f := fun k => pmulF n f (cpP n f i) k k) (fun k hk => bM k k hk hk) n (Nat.le_refl _)
    have bN : Sm 62 (0 - dvF n f i) := (show Sm 1 0 by unfold Sm; decide).sub bd
    have bU : Bd 300 n (fun r c => unitF r c * (0 - dvF n f i)) := fun r c hr hc => Sm.mono ((unit_bd r c hr hc).mul bN) (by decide)
    have hdv : (1 + (i : Int) = 1 ∧ sumTo (fun k => pmulF n f (cpP n f i) k k) n = dvF n f i) ∨ (1 + (i : Int) = 2 ∧ sumTo (fun k => pmulF n f (cpP n f i) k k) n = 2 * dvF n f i) := by
      rcases dv_eq (f := f) hn hi with ⟨rfl, h⟩ | ⟨rfl, h⟩
      · exact .inl ⟨rfl, h⟩
      · exact .inr ⟨rfl, h⟩
    k_steps
    unfold Stopped
    refine says_readG (lv := 4) (by k_asm) (by k_asm)  (pmulG w mean mg mb (pre ++ all) a pw n f (cpP n f i) (by omega) hn1 (hf.mono (by omega)) (bP.mono (by omega)) (hM.mono (Sub.app Sub.refl)) (hP.mono Sub.left)) (by walk_at "Z sub") (by k_asm) (by k_asm) (by k_asm) rfl (by walk_at "Z room") (by walk_at "Z room") (fun _ _ _ h => h.1) ?_
    rintro r6 new6 h6 tk6 ⟨_, c6, rfl, hP6⟩ F6 N6 ap6
    obtain ⟨pre6, hG6, M6, s6, t6⟩ := cp_next N6 ap6 hG Sub.refl
    clear N6
    replace hP6 : PMat pre6 c6 n (pmulF n f (cpP n f i)) := hP6.mono s6
    k_steps
    unfold Stopped
    refine says_readG (lv := 3) (by k_asm) (by k_asm)  (traceG w mean mg mb pre6 c6 n (pmulF n f (cpP n f i)) (by omega) hn1 bM hP6) (by walk_at "Z sub") (by k_asm) (by k_asm) (by k_asm) rfl (by walk_at "Z room") (by walk_at "Z room") (fun _ _ _ h => h.1) ?_
    rintro r7 new7 h7 tk7 ⟨_, q7, rfl, hP7⟩ F7 N7 ap7
    obtain ⟨pre7, hG7, M7, s7, t7⟩ := cp_next N7 ap7 hG6 Sub.refl
    clear N7
    replace hP7 := hP7.mono s7
    k_steps
    rename_i T hT1 FT NT lT
    unfold Stopped
    refine says_readG (lv := 2) (by k_asm) NT (rdivG w mean mg mb _ q7 T _ (1 + (i : Int)) (dvF n f i) (bT.mono (by omega)) (by exact hP7.mono (by walk_at "Z sub")) (by exact .inl ⟨_, _, _, by k_mem⟩) hdv) Sub.refl (by k_asm) (by k_asm) (by k_asm) rfl (by walk_at "Z room") (by walk_at "Z room") (fun _ _ _ h => h.1) ?_
    rintro r8 new8 h8 tk8 ⟨_, q8, rfl, hP8⟩ F8 N8 ap8
    obtain ⟨pre8, hG8, M8, s8, t8⟩ := cp_next N8 ap8 hG7 (Sub.cons Sub.refl)
    clear N8
    replace hP8 := hP8.mono s8
    k_steps
    unfold Stopped
    refine says_readG (lv := 0) (by k_asm) (by k_asm)  (rnegG w mean mg mb pre8 q8 (dvF n f i) hP8) (by walk_at "Z sub") (by k_asm) (by k_asm) (by k_asm) rfl (by walk_at "Z room") (by walk_at "Z room") (fun _ _ _ h => h.1) ?_
    rintro r9 new9 h9 tk9 ⟨_, q9, rfl, hP9⟩ F9 N9 ap9
    obtain ⟨pre9, hG9, M9, s9, t9⟩ := cp_next N9 ap9 hG8 Sub.refl
    clear N9
    replace hP9 := hP9.mono s9
    k_steps
    unfold Stopped
    refine push_at (by k_asm) (X := (I, _) :: (pre9 ++ all)) (by k_asm) (Tl.base (off_memL eFI.symm (off_app hG9.oF fun p hp => Nat.ne_of_lt (eF p hp)))) (by omega) ?_
    intro h10 c10 F10 M10
    replace M10 : News _ _ h10 ((I, _) :: ((pre9 ++ all) ++ [(Fd, listOf (List.toArray (ys ++ [Value.ref q9])) c10)])) := M10
    k_steps
    unfold Stopped
    refine says_readG (lv := 0) (by k_asm) (by k_asm)  (unitG w mean mg mb [] n _ (by omega)) (fun _ h => nomatch h) (by k_asm) (by k_asm) (by k_asm) rfl (by walk_at "Z room") (by walk_at "Z room") (fun _ _ _ h => h.1) ?_
    rintro r11 new11 h11 tk11 ⟨_, c11, rfl, hP11⟩ F11 N11 ap11
    obtain ⟨pre11, hG11, M11, s11, t11⟩ := cp_next (x := (Fd, listOf (List.toArray (ys ++ [Value.ref q9])) c10)) N11 ap11 hG9 Sub.refl
    clear N11
    replace hP11 := hP11.mono s11
    k_steps
    unfold Stopped
    refine says_readG (lv := 3) (by k_asm) (by k_asm)  (pscaleG w mean mg mb pre11 c11 q9 n unitF (0 - dvF n f i) (by omega) (unit_bd.mono (by omega)) (bN.mono (by omega)) hP11 (hP9.mono t11)) (by walk_at "Z sub") (by k_asm) (by k_asm) (by k_asm) rfl (by walk_at "Z room") (by walk_at "Z room") (fun _ _ _ h => h.1) ?_
    rintro r12 new12 h12 tk12 ⟨_, c12, rfl, hP12⟩ F12 N12 ap12
    obtain ⟨pre12, hG12, M12, s12, t12⟩ := cp_next N12 ap12 hG11 Sub.refl
    clear N12
    replace hP12 := hP12.mono s12
    have u12 : Sub pre6 pre12 := ((((t7.trans t8).trans t9).trans t11).trans t12)
    k_steps
    unfold Stopped
    refine says_readG (lv := 3) (by k_asm) (by k_asm)  (paddG w mean mg mb pre12 c6 c12 n (pmulF n f (cpP n f i)) (fun r c => unitF r c * (0 - dvF n f i)) (by omega) hn1 bM bU (hP6.mono u12) hP12) (by walk_at "Z sub") (by k_asm) (by k_asm) (by k_asm) rfl (by walk_at "Z room") (by walk_at "Z room") (fun _ _ _ h => h.1) ?_
    rintro r13 new13 h13 tk13 ⟨_, c13, rfl, hP13⟩ F13 N13 ap13
    obtain ⟨pre13, hG13, M13, s13, t13⟩ := cp_next N13 ap13 hG12 Sub.refl
    clear N13
    have u13 : Sub pre pre13 := (t6.trans u12).trans t13
    have u9 : Sub pre9 pre13 := (t11.trans t12).trans t13
    k_steps
    unfold Stopped
    refine unrEnd_of (by k_asm) (by k_asm) (off_app (off_app hG13.oI eI) (off_one eFI)) ?_
    exact ⟨by omega, ma, ⟨tn, mn⟩, mf, pre13, c13, ys ++ [Value.ref q9], c10, rfl, hG13, rfl, hP13.mono s13, by simp [hl], snoc_vals hl (fun j x e => (hv j x e).mono u13) ⟨q9, rfl, hP9.mono u9⟩⟩
  · rintro m₁ _ ⟨hin, ma, ⟨tn, mn⟩, mf, pre, pw, ys, c, rfl, hG, mp, hP, hl, hv⟩ h tk F' N'
    k_steps
    unfold Stopped
    refine rev_at (by k_asm) N' (Tl.base (off_memS (off_app hG.oF fun p hp => Nat.ne_of_lt (eF p hp)))) (by omega) ?_
    intro h10 c10 F10 M10
    k_steps
    refine closeH (new := pre ++ [(Fd, listOf (List.toArray ys.reverse) c10)]) ret (by k_asm) (by k_asm) (by k_asm) (fun p hp => ?_) (by walk_at "Z sub") (apart_app hG.ap fun p hp q hq => ?_) ⟨rfl, Fd, rfl, ys.reverse, c10, List.mem_append_right _ (List.mem_singleton.mpr rfl), by simpa using hl, fun i x e => ?_⟩
    · rcases List.mem_append.mp hp with hp | hp
      · exact List.mem_append_left _ (List.mem_append_left _ hp)
      · exact List.mem_append_right _ hp
    · rw [List.mem_singleton.mp hp]; exact Nat.ne_of_gt (eF q hq)
    · exact rev_val hl (fun j x e => (hv j x e).mono Sub.left) i x e

end
end
end
section
local macro_rules | `(tactic| walk_at "compareOp NotEq int int") => `(tactic| (k_here; k_dflt (refine ne_int_same (by with_reducible assumption) ?_)))
local macro_rules | `(tactic| walk_at "compareOp NotEq ref ref") => `(tactic| (k_here; k_dflt (refine ne_mat (by k_asm) (by with_reducible assumption) (by with_reducible assumption) Sub.refl Sub.refl (by omega) (by with_reducible assumption) (by ke_room) ?_)))
local macro_rules | `(tactic| walk_at "compareOp Eq ref ref") => `(tactic| (k_here; k_dflt (refine eq_pairs (by k_asm) (by k_asm) (by k_asm) (by with_reducible assumption) (by with_reducible assumption) Sub.refl Sub.refl (by omega) (by with_reducible assumption) (by ke_room) ?_)))
local macro_rules | `(tactic| walk_at "binaryOp Pow int int") => `(tactic| (k_here; k_dflt (refine' pow_law (n := 1 + _) ?a ?b ?c ?d ?e ?f; (case d => with_reducible assumption); (case a => with_reducible assumption); (case b => decide); (case c => omega); (case e => omega))))
theorem law : PySem.Challenge.rw_sa0092_01.Holds := hd (by
  w_strict (
    k_go0
    (all_goals try k_fold)
    k_steps
    rename_i oA oB dA dB X0 D1 ws h3 hI hC hL lA sc cn h2 lB bx h1 lC h0 FF NN
    unfold Stopped
    have o1 : D1 ∉ [bx, sc] := nin2 lC.2.1 lB.1
    have o2 := nin2 lC.2.2.1 lB.2.1
    have o3 := nin2 lC.2.2.2 lB.2.2
    have hne : @Ne Nat bx sc := Nat.ne_of_gt lC.1
    have N1 : News _ _ h0 ((_, oA) :: (_, oB) :: Bx bx sc 0 cn ws 0 _) := name_sub NN (by repeat (first | exact sub_nil | refine sub_cons (by k_mem) ?_))
    clear NN
    refine says_tail (lv := 0) (ks := [bx, sc]) FF N1 (take _ _ _ _ bx sc 0 cn ws _ hI (by omega) 0 (by decide) (by decide) _ _ 3 (by decide) (by decide) hne) (by walk_at "Z tl") rfl (by k_asm) (by k_asm) (by k_asm) rfl (by walk_at "Z room") (by walk_at "Z room") ?_
    rintro r5 new5 sub5 h5 tk5 ⟨rfl, v5, t5, u5, rfl, hv0, hv1, rfl⟩ F5 N5 _
    replace N5 : News _ _ h5 ((_, oA) :: (_, oB) :: Bx bx sc 0 cn ws (0 + 1) u5) := N5
    obtain ⟨k, rfl⟩ : ∃ k : Nat, v5 = (k : Int) := ⟨v5.toNat, by omega⟩
    have hn : 1 + k ≤ 3 := by omega
    have hn1 : 1 ≤ 1 + k := by omega
    k_steps
    rename_i h6 oN F6 N6 dN
    unfold Stopped
    refine says_tail (lv := 1) (ks := [bx, sc]) F6 N6 (matG _ _ _ _ bx sc 0 cn ws _ hI (by omega) (0 + 1) (by decide) (by decide) _ _ (1 + k) hn hn1 hne) (by walk_at "Z tl") rfl (by k_asm) (by k_asm) (by k_asm) rfl (by walk_at "Z room") (by walk_at "Z room") ?_
    rintro r7 new7 sub7 h7 tk7 ⟨p7, u7, f, a, hp1, hp2, rfl, rfl, ha, bA⟩ F7 N7 ap7
    replace N7 : News _ _ h7 (new7 ++ ((_, oA) :: (_, oN) :: Bx bx sc 0 cn ws p7 u7)) := N7
    have o7 : ∀ q ∈ new7, q.1 ∉ [bx, sc] := apart_off (M := Bx bx sc 0 cn ws (0 + 1) u5) fun a ha b hb => ap7 a ha b (List.mem_cons_of_mem _ (List.mem_cons_of_mem _ hb))
    k_steps
    unfold Stopped
    refine says_tail (lv := 1) (ks := [bx, sc]) F7 N7 (matG _ _ _ _ bx sc 0 cn ws _ hI (by omega) p7 (by omega) (by omega) _ _ (1 + k) hn hn1 hne) (Tl.app o7 (by walk_at "Z tl")) rfl (by k_asm) (by k_asm) (by k_asm) rfl (by walk_at "Z room") (by walk_at "Z room") ?_
    rintro r8 new8 sub8 h8 tk8 ⟨p8, u8, g, b, hq1, hq2, rfl, rfl, hb, bB⟩ F8 N8 ap8
    replace N8 : News _ _ h8 (new8 ++ ((new7 ++ [(_, oA), (_, oN)]) ++ Bx bx sc 0 cn ws p8 u8)) := N8
    have z7 := fun p hp => ap7 p hp (_, oA) (List.mem_cons_self ..)
    have z8 := fun p hp => ap8 p hp (_, oA) (List.mem_append_right _ (List.mem_cons_self ..))
    k_steps
    unfold Stopped
    obtain ⟨rest, N9, hoff, s8, s7, hKn⟩ := law_rest (oA := oA) (oN := oN) (new8 := new8) (new7 := new7) (by k_asm) (by k_mem) (by k_mem) (by walk_at "Z sub") (by walk_at "Z sub") z8 z7 (Nat.ne_of_lt (Nat.lt_succ_self _))
    replace ha := ha.mono s7
    replace hb := hb.mono s8
    dsimp only at N9 hoff
    refine says_readG (lv := 1) (by k_asm) N9 (detG _ _ _ _ rest a (1 + k) f hn (bA.mono (by decide)) ha) (Sub.cons Sub.refl) (by k_asm) (by k_asm) (by k_asm) rfl (by walk_at "Z room") (by walk_at "Z room") (fun _ _ _ h => h.1) ?_
    rintro r10 new10 h10 tk10 ⟨_, rfl, t10, rfl⟩ F10 N10 _
    replace N10 : News _ _ h10 (_ :: rest) := N10
    k_steps
    unfold Stopped
    refine says_readG (lv := 1) (by k_asm) (by k_asm) (detG _ _ _ _ rest b (1 + k) g hn (bB.mono (by decide)) hb) (Sub.cons Sub.refl) (by k_asm) (by k_asm) (by k_asm) rfl (by walk_at "Z room") (by walk_at "Z room") (fun _ _ _ h => h.1) ?_
    rintro r11 new11 h11 tk11 ⟨_, rfl, t11, rfl⟩ F11 N11 _
    replace N11 : News _ _ h11 (_ :: rest) := N11
    have e1 : detF (1 + k) (timesF (1 + k) f g) = detF (1 + k) f * detF (1 + k) g := detF_times hn1 hn
    have e2 : detF (1 + k) (timesF (1 + k) g f) = detF (1 + k) f * detF (1 + k) g := (detF_times hn1 hn).trans (Int.mul_comm _ _)
    have e3 : detF (1 + k) (fun i j => f j i) = detF (1 + k) f := detF_T hn1 hn
    have bT : Bd 4 (1 + k) (fun i j => f j i) := fun i j hi hj => bA j i hj hi
    have a1 := @adjF_times (1 + k) f g hn1 hn
    have a2 := @adjF_T (1 + k) f hn1 hn
    have b1 := detF_sm hn bA
    have b2 := detF_sm hn bB
    have cAB := times_bd hn bA bB
    have cBA := times_bd hn bB bA
    have dA9 := adjF_bd hn bA
    have dB9 := adjF_bd hn bB
    k_steps
    rename_i oK dK9 h12 F12 N12
    replace N12 := name_sub N12 (Sub.cons (Sub.refl (l := (_, oK) :: rest)))
    obtain ⟨led, N13, hK1, sR⟩ := law_pool N12
    clear N12
    replace hKn := sR _ hKn
    replace ha := ha.mono sR
    replace hb := hb.mono sR
    unfold Stopped
    refine step_ref (lv := 0) (by k_asm) (by k_asm) (timesG _ _ _ _ led a b (1 + k) (f) (g) hn (Bd.mono bA (by decide)) (Bd.mono bB (by decide)) ha hb) (fun _ _ _ h e => e.mono h) Sub.refl (by k_asm) (by k_asm) (by k_asm) rfl (by walk_at "Z room") (by walk_at "Z room") ?_
    intro c g21 tk21 led21 F21 M21 t21 hc
    replace ha := ha.mono t21
    replace hb := hb.mono t21
    replace hK1 := t21 _ hK1
    replace hKn := t21 _ hKn
    k_steps
    unfold Stopped
    refine step_int (lv := 1) (by k_asm) (by k_asm) (detG _ _ _ _ led21 c (1 + k) (timesF (1 + k) f g) hn (Bd.mono cAB (by decide)) hc) Sub.refl (by k_asm) (by k_asm) (by k_asm) rfl (by walk_at "Z room") (by walk_at "Z room") ?_
    intro t22 g22 tk22 F22 N22
    k_steps
    clear hc
    unfold Stopped
    refine step_ref (lv := 0) (by k_asm) (by k_asm) (timesG _ _ _ _ led21 b a (1 + k) (g) (f) hn (Bd.mono bB (by decide)) (Bd.mono bA (by decide)) hb ha) (fun _ _ _ h e => e.mono h) Sub.refl (by k_asm) (by k_asm) (by k_asm) rfl (by walk_at "Z room") (by walk_at "Z room") ?_
    intro c g23 tk23 led23 F23 M23 t23 hc
    replace ha := ha.mono t23
    replace hb := hb.mono t23
    replace hK1 := t23 _ hK1
    replace hKn := t23 _ hKn
    k_steps
    unfold Stopped
    refine step_int (lv := 1) (by k_asm) (by k_asm) (detG _ _ _ _ led23 c (1 + k) (timesF (1 + k) g f) hn (Bd.mono cBA (by decide)) hc) Sub.refl (by k_asm) (by k_asm) (by k_asm) rfl (by walk_at "Z room") (by walk_at "Z room") ?_
    intro t24 g24 tk24 F24 N24
    k_steps
    clear hc
    unfold Stopped
    refine step_ref (lv := 2) (by k_asm) (by k_asm) (adjG _ _ _ _ led23 a (1 + k) (f) hn (Bd.mono bA (by decide)) ha) (fun _ _ _ h e => e.mono h) Sub.refl (by k_asm) (by k_asm) (by k_asm) rfl (by walk_at "Z room") (by walk_at "Z room") ?_
    intro v g25 tk25 led25 F25 M25 t25 hv
    replace ha := ha.mono t25
    replace hb := hb.mono t25
    replace hK1 := t25 _ hK1
    replace hKn := t25 _ hKn
    k_steps
    unfold Stopped
    refine step_ref (lv := 0) (by k_asm) (by k_asm) (timesG _ _ _ _ led25 a b (1 + k) (f) (g) hn (Bd.mono bA (by decide)) (Bd.mono bB (by decide)) ha hb) (fun _ _ _ h e => e.mono h) Sub.refl (by k_asm) (by k_asm) (by k_asm) rfl (by walk_at "Z room") (by walk_at "Z room") ?_
    intro c g26 tk26 led26 F26 M26 t26 hc
    replace ha := ha.mono t26
    replace hb := hb.mono t26
    replace hv := hv.mono t26
    replace hK1 := t26 _ hK1
    replace hKn := t26 _ hKn
    k_steps
    unfold Stopped
    refine step_ref (lv := 2) (by k_asm) (by k_asm) (adjG _ _ _ _ led26 c (1 + k) (timesF (1 + k) f g) hn (Bd.mono cAB (by decide)) hc) (fun _ _ _ h e => e.mono h) Sub.refl (by k_asm) (by k_asm) (by k_asm) rfl (by walk_at "Z room") (by walk_at "Z room") ?_
    intro e g27 tk27 led27 F27 M27 t27 he
    replace ha := ha.mono t27
    replace hb := hb.mono t27
    replace hv := hv.mono t27
    replace hc := hc.mono t27
    replace hK1 := t27 _ hK1
    replace hKn := t27 _ hKn
    k_steps
    clear hc
    unfold Stopped
    refine step_ref (lv := 2) (by k_asm) (by k_asm) (adjG _ _ _ _ led27 b (1 + k) (g) hn (Bd.mono bB (by decide)) hb) (fun _ _ _ h e => e.mono h) Sub.refl (by k_asm) (by k_asm) (by k_asm) rfl (by walk_at "Z room") (by walk_at "Z room") ?_
    intro u g28 tk28 led28 F28 M28 t28 hu
    replace ha := ha.mono t28
    replace hb := hb.mono t28
    replace hv := hv.mono t28
    replace he := he.mono t28
    replace hK1 := t28 _ hK1
    replace hKn := t28 _ hKn
    k_steps
    unfold Stopped
    refine step_ref (lv := 0) (by k_asm) (by k_asm) (timesG _ _ _ _ led28 u v (1 + k) (adjF (1 + k) g) (adjF (1 + k) f) hn (Bd.mono dB9 (by decide)) (Bd.mono dA9 (by decide)) hu hv) (fun _ _ _ h e => e.mono h) Sub.refl (by k_asm) (by k_asm) (by k_asm) rfl (by walk_at "Z room") (by walk_at "Z room") ?_
    intro d g29 tk29 led29 F29 M29 t29 hd
    replace ha := ha.mono t29
    replace hb := hb.mono t29
    replace hv := hv.mono t29
    replace he := he.mono t29
    replace hu := hu.mono t29
    replace hK1 := t29 _ hK1
    replace hKn := t29 _ hKn
    k_steps
    clear he
    clear hu
    clear hd
    unfold Stopped
    refine step_ref (lv := 0) (by k_asm) (by k_asm) (turnedG _ _ _ _ led29 a (1 + k) (f) hn ha) (fun _ _ _ h e => e.mono h) Sub.refl (by k_asm) (by k_asm) (by k_asm) rfl (by walk_at "Z room") (by walk_at "Z room") ?_
    intro t g30 tk30 led30 F30 M30 t30 ht
    replace ha := ha.mono t30
    replace hb := hb.mono t30
    replace hv := hv.mono t30
    replace hK1 := t30 _ hK1
    replace hKn := t30 _ hKn
    k_steps
    unfold Stopped
    refine step_int (lv := 1) (by k_asm) (by k_asm) (detG _ _ _ _ led30 t (1 + k) (fun i j => f j i) hn (Bd.mono bT (by decide)) ht) Sub.refl (by k_asm) (by k_asm) (by k_asm) rfl (by walk_at "Z room") (by walk_at "Z room") ?_
    intro t31 g31 tk31 F31 N31
    k_steps
    clear ht
    unfold Stopped
    refine step_ref (lv := 0) (by k_asm) (by k_asm) (turnedG _ _ _ _ led30 a (1 + k) (f) hn ha) (fun _ _ _ h e => e.mono h) Sub.refl (by k_asm) (by k_asm) (by k_asm) rfl (by walk_at "Z room") (by walk_at "Z room") ?_
    intro t g32 tk32 led32 F32 M32 t32 ht
    replace ha := ha.mono t32
    replace hb := hb.mono t32
    replace hv := hv.mono t32
    replace hK1 := t32 _ hK1
    replace hKn := t32 _ hKn
    k_steps
    unfold Stopped
    refine step_ref (lv := 2) (by k_asm) (by k_asm) (adjG _ _ _ _ led32 t (1 + k) (fun i j => f j i) hn (Bd.mono bT (by decide)) ht) (fun _ _ _ h e => e.mono h) Sub.refl (by k_asm) (by k_asm) (by k_asm) rfl (by walk_at "Z room") (by walk_at "Z room") ?_
    intro x g33 tk33 led33 F33 M33 t33 hx
    replace ha := ha.mono t33
    replace hb := hb.mono t33
    replace hv := hv.mono t33
    replace ht := ht.mono t33
    replace hK1 := t33 _ hK1
    replace hKn := t33 _ hKn
    k_steps
    clear ht
    unfold Stopped
    refine step_ref (lv := 0) (by k_asm) (by k_asm) (turnedG _ _ _ _ led33 v (1 + k) (adjF (1 + k) f) hn hv) (fun _ _ _ h e => e.mono h) Sub.refl (by k_asm) (by k_asm) (by k_asm) rfl (by walk_at "Z room") (by walk_at "Z room") ?_
    intro y g34 tk34 led34 F34 M34 t34 hy
    replace ha := ha.mono t34
    replace hb := hb.mono t34
    replace hv := hv.mono t34
    replace hx := hx.mono t34
    replace hK1 := t34 _ hK1
    replace hKn := t34 _ hKn
    k_steps
    clear hx
    clear hy
    · rename_i hgt
      have hg : 1 < 1 + k := by omega
      have a3 := @adjF_adj (1 + k) f hg hn
      have bE : Sm 22 (if 1 + k = 2 then 1 else detF (1 + k) f) := by split; (unfold Sm; decide); exact b1
      unfold Stopped
      refine step_ref (lv := 2) (by k_asm) (by k_asm) (adjG _ _ _ _ led34 v (1 + k) (adjF (1 + k) f) hn (Bd.mono dA9 (by decide)) hv) (fun _ _ _ h e => e.mono h) Sub.refl (by k_asm) (by k_asm) (by k_asm) rfl (by walk_at "Z room") (by walk_at "Z room") ?_
      intro z g35 tk35 led35 F35 M35 t35 hz
      replace ha := ha.mono t35
      replace hb := hb.mono t35
      replace hv := hv.mono t35
      replace hK1 := t35 _ hK1
      replace hKn := t35 _ hKn
      k_steps
      unfold Stopped
      refine SrcG.at_L (fun l j y => RowV l (1 + k) (fun i => (if 1 + k = 2 then 1 else detF (1 + k) f) * f j i) y) (fun _ _ _ _ hs h => RowV.mono h hs) rfl (by k_asm) (by k_asm) ha Sub.refl (by omega) rfl rfl ?_ ?_
      · intro i rest I C D oI oC oD y m2 h tk E hi hs hC hy hmy F3 N3
        obtain ⟨r, rfl, hr⟩ := hy
        replace hr := hr.mono hs
        replace hK1 := hs _ hK1
        replace hKn := hs _ hKn
        k_steps
        unfold Stopped
        refine SrcG.at_L (fun l j y => IntV ((if 1 + k = 2 then 1 else detF (1 + k) f) * f i j) y) (fun _ _ _ _ hs h => h) rfl (by k_asm) (by k_asm) (show IntRow rest r (1 + k) (f i) from hr) (by walk_at "Z sub") (by omega) rfl rfl ?_ ?_
        · intro j rest2 I2 C2 D2 oI2 oC2 oD2 y2 m3 h2 tk2 E2 hj hs2 hC2 hy2 hmy2 F4 N4
          obtain ⟨t2, rfl⟩ := hy2
          replace hK1 := hs2.uncons.2.uncons.2.uncons.2 _ hK1
          replace hKn := hs2.uncons.2.uncons.2.uncons.2 _ hKn
          have bx := bA _ _ hi hj
          k_steps
          exact ElemE.none (by k_asm) (by k_asm) Sub.refl ⟨_, rfl⟩
        · intro D3 h3 tk3 new3 F3 N3 ap3 hL3
          exact ElemE.some F3 N3 ap3 ⟨_, rfl, hL3⟩
      · intro D3 h3 tk3 new3 F3 N3 ap3 hL3
        obtain ⟨ledC, MC, sC, tC⟩ := next_led N3
        clear N3
        replace hL3 : MatAt ledC D3 (1 + k) (fun j i => (if 1 + k = 2 then 1 else detF (1 + k) f) * f j i) := MatAt.mono hL3 sC
        replace ha := ha.mono tC
        replace hb := hb.mono tC
        replace hv := hv.mono tC
        replace hz := hz.mono tC
        replace hK1 := tC _ hK1
        replace hKn := tC _ hKn
        clear hv
        k_steps
        clear hz
        clear hL3
        have hn2 : 1 + k ≤ 2 := by omega
        have q1 : ∀ i, i < 1 + k + 1 → cfF (1 + k) (timesF (1 + k) f g) (1 + k - i) = cfF (1 + k) (timesF (1 + k) g f) (1 + k - i) := fun i hi => cf_times hn1 hn2 hi
        have q2 : ∀ i, i < 1 + k + 1 → cfF (1 + k) (fun i j => f j i) (1 + k - i) = cfF (1 + k) f (1 + k - i) := fun i hi => cf_T hn1 hn2 hi
        unfold Stopped
        refine step_ref (lv := 0) (by k_asm) (by k_asm) (timesG _ _ _ _ ledC a b (1 + k) (f) (g) hn (Bd.mono bA (by decide)) (Bd.mono bB (by decide)) ha hb) (fun _ _ _ h e => e.mono h) Sub.refl (by k_asm) (by k_asm) (by k_asm) rfl (by walk_at "Z room") (by walk_at "Z room") ?_
        intro c g36 tk36 led36 F36 M36 t36 hc
        replace ha := ha.mono t36
        replace hb := hb.mono t36
        replace hK1 := t36 _ hK1
        replace hKn := t36 _ hKn
        k_steps
        unfold Stopped
        refine step_ref (lv := 0) (by k_asm) (by k_asm) (fromG _ _ _ _ led36 c (1 + k) (timesF (1 + k) f g) hn hc) (fun _ _ _ h e => e.mono h) Sub.refl (by k_asm) (by k_asm) (by k_asm) rfl (by walk_at "Z room") (by walk_at "Z room") ?_
        intro p1 g37 tk37 led37 F37 M37 t37 hp1
        replace ha := ha.mono t37
        replace hb := hb.mono t37
        replace hc := hc.mono t37
        replace hK1 := t37 _ hK1
        replace hKn := t37 _ hKn
        k_steps
        unfold Stopped
        refine step_ref (lv := 5) (by k_asm) (by k_asm) (cpG _ _ _ _ led37 p1 (1 + k) (timesF (1 + k) f g) hn2 hn1 (Bd.mono cAB (by decide)) hp1) (fun _ _ _ h e => ListAt.mono e h fun _ _ e => e.mono h) Sub.refl (by k_asm) (by k_asm) (by k_asm) rfl (by walk_at "Z room") (by walk_at "Z room") ?_
        intro c1 g38 tk38 led38 F38 M38 t38 hc1
        replace ha := ha.mono t38
        replace hb := hb.mono t38
        replace hc := hc.mono t38
        replace hp1 := hp1.mono t38
        replace hK1 := t38 _ hK1
        replace hKn := t38 _ hKn
        replace hc1 : ListAt led38 c1 (1 + k + 1) (fun i y => PairV led38 (cfF (1 + k) (timesF (1 + k) f g) (1 + k - i)) y) := hc1
        k_steps
        clear hp1
        clear hc
        unfold Stopped
        refine step_ref (lv := 0) (by k_asm) (by k_asm) (timesG _ _ _ _ led38 b a (1 + k) (g) (f) hn (Bd.mono bB (by decide)) (Bd.mono bA (by decide)) hb ha) (fun _ _ _ h e => e.mono h) Sub.refl (by k_asm) (by k_asm) (by k_asm) rfl (by walk_at "Z room") (by walk_at "Z room") ?_
        intro c g39 tk39 led39 F39 M39 t39 hc
        replace ha := ha.mono t39
        replace hb := hb.mono t39
        replace hc1 : ListAt led39 c1 (1 + k + 1) (fun i y => PairV led39 (cfF (1 + k) (timesF (1 + k) f g) (1 + k - i)) y) := ListAt.mono hc1 t39 fun _ _ e => e.mono t39
        replace hK1 := t39 _ hK1
        replace hKn := t39 _ hKn
        k_steps
        unfold Stopped
        refine step_ref (lv := 0) (by k_asm) (by k_asm) (fromG _ _ _ _ led39 c (1 + k) (timesF (1 + k) g f) hn hc) (fun _ _ _ h e => e.mono h) Sub.refl (by k_asm) (by k_asm) (by k_asm) rfl (by walk_at "Z room") (by walk_at "Z room") ?_
        intro p2 g40 tk40 led40 F40 M40 t40 hp2
        replace ha := ha.mono t40
        replace hb := hb.mono t40
        replace hc1 : ListAt led40 c1 (1 + k + 1) (fun i y => PairV led40 (cfF (1 + k) (timesF (1 + k) f g) (1 + k - i)) y) := ListAt.mono hc1 t40 fun _ _ e => e.mono t40
        replace hc := hc.mono t40
        replace hK1 := t40 _ hK1
        replace hKn := t40 _ hKn
        k_steps
        unfold Stopped
        refine step_ref (lv := 5) (by k_asm) (by k_asm) (cpG _ _ _ _ led40 p2 (1 + k) (timesF (1 + k) g f) hn2 hn1 (Bd.mono cBA (by decide)) hp2) (fun _ _ _ h e => ListAt.mono e h fun _ _ e => e.mono h) Sub.refl (by k_asm) (by k_asm) (by k_asm) rfl (by walk_at "Z room") (by walk_at "Z room") ?_
        intro c2 g41 tk41 led41 F41 M41 t41 hc2
        replace ha := ha.mono t41
        replace hb := hb.mono t41
        replace hc1 : ListAt led41 c1 (1 + k + 1) (fun i y => PairV led41 (cfF (1 + k) (timesF (1 + k) f g) (1 + k - i)) y) := ListAt.mono hc1 t41 fun _ _ e => e.mono t41
        replace hc := hc.mono t41
        replace hp2 := hp2.mono t41
        replace hK1 := t41 _ hK1
        replace hKn := t41 _ hKn
        replace hc2 : ListAt led41 c2 (1 + k + 1) (fun i y => PairV led41 (cfF (1 + k) (timesF (1 + k) g f) (1 + k - i)) y) := hc2
        k_steps
        clear hp2
        clear hc
        unfold Stopped
        refine step_ref (lv := 0) (by k_asm) (by k_asm) (turnedG _ _ _ _ led41 a (1 + k) (f) hn ha) (fun _ _ _ h e => e.mono h) Sub.refl (by k_asm) (by k_asm) (by k_asm) rfl (by walk_at "Z room") (by walk_at "Z room") ?_
        intro t g42 tk42 led42 F42 M42 t42 ht
        replace ha := ha.mono t42
        replace hb := hb.mono t42
        replace hc1 : ListAt led42 c1 (1 + k + 1) (fun i y => PairV led42 (cfF (1 + k) (timesF (1 + k) f g) (1 + k - i)) y) := ListAt.mono hc1 t42 fun _ _ e => e.mono t42
        replace hc2 : ListAt led42 c2 (1 + k + 1) (fun i y => PairV led42 (cfF (1 + k) (timesF (1 + k) g f) (1 + k - i)) y) := ListAt.mono hc2 t42 fun _ _ e => e.mono t42
        replace hK1 := t42 _ hK1
        replace hKn := t42 _ hKn
        k_steps
        unfold Stopped
        refine step_ref (lv := 0) (by k_asm) (by k_asm) (fromG _ _ _ _ led42 t (1 + k) (fun i j => f j i) hn ht) (fun _ _ _ h e => e.mono h) Sub.refl (by k_asm) (by k_asm) (by k_asm) rfl (by walk_at "Z room") (by walk_at "Z room") ?_
        intro p3 g43 tk43 led43 F43 M43 t43 hp3
        replace ha := ha.mono t43
        replace hb := hb.mono t43
        replace hc1 : ListAt led43 c1 (1 + k + 1) (fun i y => PairV led43 (cfF (1 + k) (timesF (1 + k) f g) (1 + k - i)) y) := ListAt.mono hc1 t43 fun _ _ e => e.mono t43
        replace hc2 : ListAt led43 c2 (1 + k + 1) (fun i y => PairV led43 (cfF (1 + k) (timesF (1 + k) g f) (1 + k - i)) y) := ListAt.mono hc2 t43 fun _ _ e => e.mono t43
        replace ht := ht.mono t43
        replace hK1 := t43 _ hK1
        replace hKn := t43 _ hKn
        k_steps
        unfold Stopped
        refine step_ref (lv := 5) (by k_asm) (by k_asm) (cpG _ _ _ _ led43 p3 (1 + k) (fun i j => f j i) hn2 hn1 (Bd.mono bT (by decide)) hp3) (fun _ _ _ h e => ListAt.mono e h fun _ _ e => e.mono h) Sub.refl (by k_asm) (by k_asm) (by k_asm) rfl (by walk_at "Z room") (by walk_at "Z room") ?_
        intro c3 g44 tk44 led44 F44 M44 t44 hc3
        replace ha := ha.mono t44
        replace hb := hb.mono t44
        replace hc1 : ListAt led44 c1 (1 + k + 1) (fun i y => PairV led44 (cfF (1 + k) (timesF (1 + k) f g) (1 + k - i)) y) := ListAt.mono hc1 t44 fun _ _ e => e.mono t44
        replace hc2 : ListAt led44 c2 (1 + k + 1) (fun i y => PairV led44 (cfF (1 + k) (timesF (1 + k) g f) (1 + k - i)) y) := ListAt.mono hc2 t44 fun _ _ e => e.mono t44
        replace ht := ht.mono t44
        replace hp3 := hp3.mono t44
        replace hK1 := t44 _ hK1
        replace hKn := t44 _ hKn
        replace hc3 : ListAt led44 c3 (1 + k + 1) (fun i y => PairV led44 (cfF (1 + k) (fun i j => f j i) (1 + k - i)) y) := hc3
        k_steps
        clear hp3
        clear ht
        unfold Stopped
        refine step_ref (lv := 0) (by k_asm) (by k_asm) (fromG _ _ _ _ led44 a (1 + k) (f) hn ha) (fun _ _ _ h e => e.mono h) Sub.refl (by k_asm) (by k_asm) (by k_asm) rfl (by walk_at "Z room") (by walk_at "Z room") ?_
        intro p4 g45 tk45 led45 F45 M45 t45 hp4
        replace ha := ha.mono t45
        replace hb := hb.mono t45
        replace hc1 : ListAt led45 c1 (1 + k + 1) (fun i y => PairV led45 (cfF (1 + k) (timesF (1 + k) f g) (1 + k - i)) y) := ListAt.mono hc1 t45 fun _ _ e => e.mono t45
        replace hc2 : ListAt led45 c2 (1 + k + 1) (fun i y => PairV led45 (cfF (1 + k) (timesF (1 + k) g f) (1 + k - i)) y) := ListAt.mono hc2 t45 fun _ _ e => e.mono t45
        replace hc3 : ListAt led45 c3 (1 + k + 1) (fun i y => PairV led45 (cfF (1 + k) (fun i j => f j i) (1 + k - i)) y) := ListAt.mono hc3 t45 fun _ _ e => e.mono t45
        replace hK1 := t45 _ hK1
        replace hKn := t45 _ hKn
        k_steps
        unfold Stopped
        refine step_ref (lv := 5) (by k_asm) (by k_asm) (cpG _ _ _ _ led45 p4 (1 + k) (f) hn2 hn1 (Bd.mono bA (by decide)) hp4) (fun _ _ _ h e => ListAt.mono e h fun _ _ e => e.mono h) Sub.refl (by k_asm) (by k_asm) (by k_asm) rfl (by walk_at "Z room") (by walk_at "Z room") ?_
        intro c4 g46 tk46 led46 F46 M46 t46 hc4
        replace ha := ha.mono t46
        replace hb := hb.mono t46
        replace hc1 : ListAt led46 c1 (1 + k + 1) (fun i y => PairV led46 (cfF (1 + k) (timesF (1 + k) f g) (1 + k - i)) y) := ListAt.mono hc1 t46 fun _ _ e => e.mono t46
        replace hc2 : ListAt led46 c2 (1 + k + 1) (fun i y => PairV led46 (cfF (1 + k) (timesF (1 + k) g f) (1 + k - i)) y) := ListAt.mono hc2 t46 fun _ _ e => e.mono t46
        replace hc3 : ListAt led46 c3 (1 + k + 1) (fun i y => PairV led46 (cfF (1 + k) (fun i j => f j i) (1 + k - i)) y) := ListAt.mono hc3 t46 fun _ _ e => e.mono t46
        replace hp4 := hp4.mono t46
        replace hK1 := t46 _ hK1
        replace hKn := t46 _ hKn
        replace hc4 : ListAt led46 c4 (1 + k + 1) (fun i y => PairV led46 (cfF (1 + k) (f) (1 + k - i)) y) := hc4
        k_steps
    · skip
      clear hv
      have hn2 : 1 + k ≤ 2 := by omega
      have q1 : ∀ i, i < 1 + k + 1 → cfF (1 + k) (timesF (1 + k) f g) (1 + k - i) = cfF (1 + k) (timesF (1 + k) g f) (1 + k - i) := fun i hi => cf_times hn1 hn2 hi
      have q2 : ∀ i, i < 1 + k + 1 → cfF (1 + k) (fun i j => f j i) (1 + k - i) = cfF (1 + k) f (1 + k - i) := fun i hi => cf_T hn1 hn2 hi
      unfold Stopped
      refine step_ref (lv := 0) (by k_asm) (by k_asm) (timesG _ _ _ _ led34 a b (1 + k) (f) (g) hn (Bd.mono bA (by decide)) (Bd.mono bB (by decide)) ha hb) (fun _ _ _ h e => e.mono h) Sub.refl (by k_asm) (by k_asm) (by k_asm) rfl (by walk_at "Z room") (by walk_at "Z room") ?_
      intro c g35 tk35 led35 F35 M35 t35 hc
      replace ha := ha.mono t35
      replace hb := hb.mono t35
      replace hK1 := t35 _ hK1
      replace hKn := t35 _ hKn
      k_steps
      unfold Stopped
      refine step_ref (lv := 0) (by k_asm) (by k_asm) (fromG _ _ _ _ led35 c (1 + k) (timesF (1 + k) f g) hn hc) (fun _ _ _ h e => e.mono h) Sub.refl (by k_asm) (by k_asm) (by k_asm) rfl (by walk_at "Z room") (by walk_at "Z room") ?_
      intro p1 g36 tk36 led36 F36 M36 t36 hp1
      replace ha := ha.mono t36
      replace hb := hb.mono t36
      replace hc := hc.mono t36
      replace hK1 := t36 _ hK1
      replace hKn := t36 _ hKn
      k_steps
      unfold Stopped
      refine step_ref (lv := 5) (by k_asm) (by k_asm) (cpG _ _ _ _ led36 p1 (1 + k) (timesF (1 + k) f g) hn2 hn1 (Bd.mono cAB (by decide)) hp1) (fun _ _ _ h e => ListAt.mono e h fun _ _ e => e.mono h) Sub.refl (by k_asm) (by k_asm) (by k_asm) rfl (by walk_at "Z room") (by walk_at "Z room") ?_
      intro c1 g37 tk37 led37 F37 M37 t37 hc1
      replace ha := ha.mono t37
      replace hb := hb.mono t37
      replace hc := hc.mono t37
      replace hp1 := hp1.mono t37
      replace hK1 := t37 _ hK1
      replace hKn := t37 _ hKn
      replace hc1 : ListAt led37 c1 (1 + k + 1) (fun i y => PairV led37 (cfF (1 + k) (timesF (1 + k) f g) (1 + k - i)) y) := hc1
      k_steps
      clear hp1
      clear hc
      unfold Stopped
      refine step_ref (lv := 0) (by k_asm) (by k_asm) (timesG _ _ _ _ led37 b a (1 + k) (g) (f) hn (Bd.mono bB (by decide)) (Bd.mono bA (by decide)) hb ha) (fun _ _ _ h e => e.mono h) Sub.refl (by k_asm) (by k_asm) (by k_asm) rfl (by walk_at "Z room") (by walk_at "Z room") ?_
      intro c g38 tk38 led38 F38 M38 t38 hc
      replace ha := ha.mono t38
      replace hb := hb.mono t38
      replace hc1 : ListAt led38 c1 (1 + k + 1) (fun i y => PairV led38 (cfF (1 + k) (timesF (1 + k) f g) (1 + k - i)) y) := ListAt.mono hc1 t38 fun _ _ e => e.mono t38
      replace hK1 := t38 _ hK1
      replace hKn := t38 _ hKn
      k_steps
      unfold Stopped
      refine step_ref (lv := 0) (by k_asm) (by k_asm) (fromG _ _ _ _ led38 c (1 + k) (timesF (1 + k) g f) hn hc) (fun _ _ _ h e => e.mono h) Sub.refl (by k_asm) (by k_asm) (by k_asm) rfl (by walk_at "Z room") (by walk_at "Z room") ?_
      intro p2 g39 tk39 led39 F39 M39 t39 hp2
      replace ha := ha.mono t39
      replace hb := hb.mono t39
      replace hc1 : ListAt led39 c1 (1 + k + 1) (fun i y => PairV led39 (cfF (1 + k) (timesF (1 + k) f g) (1 + k - i)) y) := ListAt.mono hc1 t39 fun _ _ e => e.mono t39
      replace hc := hc.mono t39
      replace hK1 := t39 _ hK1
      replace hKn := t39 _ hKn
      k_steps
      unfold Stopped
      refine step_ref (lv := 5) (by k_asm) (by k_asm) (cpG _ _ _ _ led39 p2 (1 + k) (timesF (1 + k) g f) hn2 hn1 (Bd.mono cBA (by decide)) hp2) (fun _ _ _ h e => ListAt.mono e h fun _ _ e => e.mono h) Sub.refl (by k_asm) (by k_asm) (by k_asm) rfl (by walk_at "Z room") (by walk_at "Z room") ?_
      intro c2 g40 tk40 led40 F40 M40 t40 hc2
      replace ha := ha.mono t40
      replace hb := hb.mono t40
      replace hc1 : ListAt led40 c1 (1 + k + 1) (fun i y => PairV led40 (cfF (1 + k) (timesF (1 + k) f g) (1 + k - i)) y) := ListAt.mono hc1 t40 fun _ _ e => e.mono t40
      replace hc := hc.mono t40
      replace hp2 := hp2.mono t40
      replace hK1 := t40 _ hK1
      replace hKn := t40 _ hKn
      replace hc2 : ListAt led40 c2 (1 + k + 1) (fun i y => PairV led40 (cfF (1 + k) (timesF (1 + k) g f) (1 + k - i)) y) := hc2
      k_steps
      clear hp2
      clear hc
      unfold Stopped
      refine step_ref (lv := 0) (by k_asm) (by k_asm) (turnedG _ _ _ _ led40 a (1 + k) (f) hn ha) (fun _ _ _ h e => e.mono h) Sub.refl (by k_asm) (by k_asm) (by k_asm) rfl (by walk_at "Z room") (by walk_at "Z room") ?_
      intro t g41 tk41 led41 F41 M41 t41 ht
      replace ha := ha.mono t41
      replace hb := hb.mono t41
      replace hc1 : ListAt led41 c1 (1 + k + 1) (fun i y => PairV led41 (cfF (1 + k) (timesF (1 + k) f g) (1 + k - i)) y) := ListAt.mono hc1 t41 fun _ _ e => e.mono t41
      replace hc2 : ListAt led41 c2 (1 + k + 1) (fun i y => PairV led41 (cfF (1 + k) (timesF (1 + k) g f) (1 + k - i)) y) := ListAt.mono hc2 t41 fun _ _ e => e.mono t41
      replace hK1 := t41 _ hK1
      replace hKn := t41 _ hKn
      k_steps
      unfold Stopped
      refine step_ref (lv := 0) (by k_asm) (by k_asm) (fromG _ _ _ _ led41 t (1 + k) (fun i j => f j i) hn ht) (fun _ _ _ h e => e.mono h) Sub.refl (by k_asm) (by k_asm) (by k_asm) rfl (by walk_at "Z room") (by walk_at "Z room") ?_
      intro p3 g42 tk42 led42 F42 M42 t42 hp3
      replace ha := ha.mono t42
      replace hb := hb.mono t42
      replace hc1 : ListAt led42 c1 (1 + k + 1) (fun i y => PairV led42 (cfF (1 + k) (timesF (1 + k) f g) (1 + k - i)) y) := ListAt.mono hc1 t42 fun _ _ e => e.mono t42
      replace hc2 : ListAt led42 c2 (1 + k + 1) (fun i y => PairV led42 (cfF (1 + k) (timesF (1 + k) g f) (1 + k - i)) y) := ListAt.mono hc2 t42 fun _ _ e => e.mono t42
      replace ht := ht.mono t42
      replace hK1 := t42 _ hK1
      replace hKn := t42 _ hKn
      k_steps
      unfold Stopped
      refine step_ref (lv := 5) (by k_asm) (by k_asm) (cpG _ _ _ _ led42 p3 (1 + k) (fun i j => f j i) hn2 hn1 (Bd.mono bT (by decide)) hp3) (fun _ _ _ h e => ListAt.mono e h fun _ _ e => e.mono h) Sub.refl (by k_asm) (by k_asm) (by k_asm) rfl (by walk_at "Z room") (by walk_at "Z room") ?_
      intro c3 g43 tk43 led43 F43 M43 t43 hc3
      replace ha := ha.mono t43
      replace hb := hb.mono t43
      replace hc1 : ListAt led43 c1 (1 + k + 1) (fun i y => PairV led43 (cfF (1 + k) (timesF (1 + k) f g) (1 + k - i)) y) := ListAt.mono hc1 t43 fun _ _ e => e.mono t43
      replace hc2 : ListAt led43 c2 (1 + k + 1) (fun i y => PairV led43 (cfF (1 + k) (timesF (1 + k) g f) (1 + k - i)) y) := ListAt.mono hc2 t43 fun _ _ e => e.mono t43
      replace ht := ht.mono t43
      replace hp3 := hp3.mono t43
      replace hK1 := t43 _ hK1
      replace hKn := t43 _ hKn
      replace hc3 : ListAt led43 c3 (1 + k + 1) (fun i y => PairV led43 (cfF (1 + k) (fun i j => f j i) (1 + k - i)) y) := hc3
      k_steps
      clear hp3
      clear ht
      unfold Stopped
      refine step_ref (lv := 0) (by k_asm) (by k_asm) (fromG _ _ _ _ led43 a (1 + k) (f) hn ha) (fun _ _ _ h e => e.mono h) Sub.refl (by k_asm) (by k_asm) (by k_asm) rfl (by walk_at "Z room") (by walk_at "Z room") ?_
      intro p4 g44 tk44 led44 F44 M44 t44 hp4
      replace ha := ha.mono t44
      replace hb := hb.mono t44
      replace hc1 : ListAt led44 c1 (1 + k + 1) (fun i y => PairV led44 (cfF (1 + k) (timesF (1 + k) f g) (1 + k - i)) y) := ListAt.mono hc1 t44 fun _ _ e => e.mono t44
      replace hc2 : ListAt led44 c2 (1 + k + 1) (fun i y => PairV led44 (cfF (1 + k) (timesF (1 + k) g f) (1 + k - i)) y) := ListAt.mono hc2 t44 fun _ _ e => e.mono t44
      replace hc3 : ListAt led44 c3 (1 + k + 1) (fun i y => PairV led44 (cfF (1 + k) (fun i j => f j i) (1 + k - i)) y) := ListAt.mono hc3 t44 fun _ _ e => e.mono t44
      replace hK1 := t44 _ hK1
      replace hKn := t44 _ hKn
      k_steps
      unfold Stopped
      refine step_ref (lv := 5) (by k_asm) (by k_asm) (cpG _ _ _ _ led44 p4 (1 + k) (f) hn2 hn1 (Bd.mono bA (by decide)) hp4) (fun _ _ _ h e => ListAt.mono e h fun _ _ e => e.mono h) Sub.refl (by k_asm) (by k_asm) (by k_asm) rfl (by walk_at "Z room") (by walk_at "Z room") ?_
      intro c4 g45 tk45 led45 F45 M45 t45 hc4
      replace ha := ha.mono t45
      replace hb := hb.mono t45
      replace hc1 : ListAt led45 c1 (1 + k + 1) (fun i y => PairV led45 (cfF (1 + k) (timesF (1 + k) f g) (1 + k - i)) y) := ListAt.mono hc1 t45 fun _ _ e => e.mono t45
      replace hc2 : ListAt led45 c2 (1 + k + 1) (fun i y => PairV led45 (cfF (1 + k) (timesF (1 + k) g f) (1 + k - i)) y) := ListAt.mono hc2 t45 fun _ _ e => e.mono t45
      replace hc3 : ListAt led45 c3 (1 + k + 1) (fun i y => PairV led45 (cfF (1 + k) (fun i j => f j i) (1 + k - i)) y) := ListAt.mono hc3 t45 fun _ _ e => e.mono t45
      replace hp4 := hp4.mono t45
      replace hK1 := t45 _ hK1
      replace hKn := t45 _ hKn
      replace hc4 : ListAt led45 c4 (1 + k + 1) (fun i y => PairV led45 (cfF (1 + k) (f) (1 + k - i)) y) := hc4
      k_steps
    ))

end
end
end Mine
end
theorem PySem.Challenge.cw_sa0092_01_holds : PySem.Challenge.rw_sa0092_01.Holds :=
  Mine.law
