import PyProof.Rows.All
import Wide.All
import OpenK.AllK
import Wide.FinOn
import Lean
import PySem.Challenge.RW_pb0173_01
open PySem PySem.W PyProof.Rows PySem.Spec PySem.Calls
set_option Elab.async false
set_option compiler.extract_closed false
set_option linter.all false
set_option maxRecDepth 100000
set_option maxHeartbeats 8000000
namespace Mine
theorem via {P : Prop} (h : ∀ G : Prop, (P → G) → G) : P := h P id
section
local macro_rules | `(tactic| o_head $H) => `(tactic| assumption)
/-- the part of the end state that the walks read, written out -/
theorem frag (_ : PySem.Challenge.rw_pb0173_01.row.Holds) : PySem.Challenge.rw_pb0173_01.row.Holds := by x_head
end
noncomputable abbrev rowP : Program := PySem.Challenge.rw_pb0173_01.row.toRowW.1
noncomputable def viewK : Program := { PySem.Challenge.rw_pb0173_01.row.toRowW.1 with main := { PySem.Challenge.rw_pb0173_01.row.toRowW.1.main with body := [0, 3, 5, 6, 7, 9, 10, 11, 12, 13, 14, 15, 16, 17, 18, 19, 20, 21, 22].filterMap fun i => PySem.Challenge.rw_pb0173_01.row.toRowW.1.main.body[i]? } }
noncomputable def vS (s : String) (t : Tok) : Value := .str (Str.ofString s) t
noncomputable def dE (P : Params) (s : String) (t : Tok) (v : Value) : DictEntry := ⟨PyData.keyHash P (Str.ofString s), .str (Str.ofString s) t, v⟩
/-- objects of the end state that the walks never read -/
noncomputable def lost (P : Params) : List (Nat × Obj) := [
  (23, { cls := .type "builtin_function_or_method", data := .fields #[.builtin "type.__prepare__", .type "type"] }),
  (24, { cls := .type "dict", data := .dict #[dE P "__module__" 203 (vS "joinedhand.errors" 194), dE P "__qualname__" 205 (vS "ShapeError" 204), dE P "__firstlineno__" 207 (.int 5 206), dE P "__init__" 219 (.ref 38), dE P "told" 226 (.ref 45), dE P "__static_attributes__" 229 (.ref 46), dE P "__classcell__" 230 (.ref 25)] 7 }),
  (26, { cls := .type "tuple", data := .seq #[] }),
  (27, { cls := .none, data := .fields #[.int 7 0, .int 4 0, .ref 37, .int 12 0, .int 4 0, .ref 44] }),
  (28, { cls := .type "code", data := .fields #[vS "ShapeError" 198, vS "ShapeError" 199, vS "/claim/cut.py" 200, .int 5 0, .int 0 0, .int 0 0, .int 0 0, .int 0 0, .ref 26, .bool false, .int 181 0, .ref 27, .none, .none, .none, .none, .int 201 0, .int 5 0, vS "/claim/cut.py" 202] }),
  (29, { cls := .type "frame", slots := #[some (.ref 28), some (.ref 3), some (.ref 24), none, some (vS "joinedhand.errors" 194), none, some (.ref 0)] }),
  (50, { cls := .type "super", data := .fields #[.ref 48, .ref 48, .ref 48] }),
  (51, { cls := .type "builtin_function_or_method", data := .fields #[.builtin "object.__init_subclass__", .ref 48] }),
  (53, { cls := .type "builtin_function_or_method", data := .fields #[.builtin "type.__prepare__", .type "type"] }),
  (54, { cls := .type "dict", data := .dict #[dE P "__module__" 245 (vS "joinedhand.errors" 194), dE P "__qualname__" 247 (vS "TableFault" 246), dE P "__firstlineno__" 249 (.int 14 248), dE P "__static_attributes__" 250 (.ref 59)] 4 }),
  (55, { cls := .type "tuple", data := .seq #[] }),
  (56, { cls := .none, data := .fields #[] }),
  (57, { cls := .type "code", data := .fields #[vS "TableFault" 240, vS "TableFault" 241, vS "/claim/cut.py" 242, .int 14 0, .int 0 0, .int 0 0, .int 0 0, .int 0 0, .ref 55, .bool false, .int 181 0, .ref 56, .none, .none, .none, .none, .int 243 0, .int 14 0, vS "/claim/cut.py" 244] }),
  (58, { cls := .type "frame", slots := #[some (.ref 57), some (.ref 3), some (.ref 54), none, some (vS "joinedhand.errors" 194), none, some (.ref 0)] }),
  (62, { cls := .type "super", data := .fields #[.ref 61, .ref 61, .ref 61] }),
  (63, { cls := .type "builtin_function_or_method", data := .fields #[.builtin "object.__init_subclass__", .ref 61] }),
  (78, { cls := .type "tuple", data := .seq #[] }),
  (79, { cls := .type "builtin_function_or_method", data := .fields #[.builtin "type.__prepare__", .type "type"] }),
  (80, { cls := .type "dict", data := .dict #[dE P "__module__" 283 (vS "joinedhand.octets" 254), dE P "__qualname__" 285 (vS "OctetsIn" 284), dE P "__firstlineno__" 287 (.int 26 286), dE P "__init__" 297 (.ref 92), dE P "need" 305 (.ref 99), dE P "number" 314 (.ref 106), dE P "u8" 321 (.ref 113), dE P "u16" 328 (.ref 120), dE P "i16" 335 (.ref 127), dE P "u24" 342 (.ref 134), dE P "u32" 349 (.ref 141), dE P "tag" 356 (.ref 148), dE P "rows" 364 (.ref 155), dE P "here" 372 (.ref 162), dE P "__static_attributes__" 375 (.ref 163)] 15 }),
  (81, { cls := .type "tuple", data := .seq #[] }),
  (82, { cls := .none, data := .fields #[.int 28 0, .int 4 0, .ref 91, .int 32 0, .int 4 0, .ref 98, .int 35 0, .int 4 0, .ref 105, .int 40 0, .int 4 0, .ref 112, .int 43 0, .int 4 0, .ref 119, .int 46 0, .int 4 0, .ref 126, .int 49 0, .int 4 0, .ref 133, .int 52 0, .int 4 0, .ref 140, .int 55 0, .int 4 0, .ref 147, .int 58 0, .int 4 0, .ref 154, .int 61 0, .int 4 0, .ref 161] }),
  (83, { cls := .type "code", data := .fields #[vS "OctetsIn" 278, vS "OctetsIn" 279, vS "/claim/cut.py" 280, .int 26 0, .int 0 0, .int 0 0, .int 0 0, .int 0 0, .ref 81, .bool false, .int 181 0, .ref 82, .none, .none, .none, .none, .int 281 0, .int 26 0, vS "/claim/cut.py" 282] }),
  (84, { cls := .type "frame", slots := #[some (.ref 83), some (.ref 3), some (.ref 80), none, some (vS "joinedhand.octets" 254), none, some (.ref 0)] }),
  (168, { cls := .type "super", data := .fields #[.ref 165, .ref 165, .ref 165] }),
  (169, { cls := .type "builtin_function_or_method", data := .fields #[.builtin "object.__init_subclass__", .ref 165] }),
  (170, { cls := .type "tuple", data := .seq #[] }),
  (171, { cls := .type "builtin_function_or_method", data := .fields #[.builtin "type.__prepare__", .type "type"] }),
  (172, { cls := .type "dict", data := .dict #[dE P "__module__" 394 (vS "joinedhand.classdefs" 383), dE P "__qualname__" 396 (vS "ClassDef" 395), dE P "__firstlineno__" 398 (.int 65 397), dE P "__init__" 406 (.ref 183), dE P "class_of" 414 (.ref 190), dE P "glyphs_of" 420 (.ref 195), dE P "count" 429 (.ref 202), dE P "told" 435 (.ref 207), dE P "__static_attributes__" 437 (.ref 208)] 9 }),
  (173, { cls := .type "tuple", data := .seq #[] }),
  (174, { cls := .none, data := .fields #[.int 67 0, .int 4 0, .ref 182, .int 70 0, .int 4 0, .ref 189, .int 73 0, .int 4 0, .ref 194, .int 76 0, .int 4 0, .ref 201, .int 82 0, .int 4 0, .ref 206] }),
  (175, { cls := .type "code", data := .fields #[vS "ClassDef" 389, vS "ClassDef" 390, vS "/claim/cut.py" 391, .int 65 0, .int 0 0, .int 0 0, .int 0 0, .int 0 0, .ref 173, .bool false, .int 181 0, .ref 174, .none, .none, .none, .none, .int 392 0, .int 65 0, vS "/claim/cut.py" 393] }),
  (176, { cls := .type "frame", slots := #[some (.ref 175), some (.ref 3), some (.ref 172), none, some (vS "joinedhand.classdefs" 383), none, some (.ref 0)] }),
  (213, { cls := .type "super", data := .fields #[.ref 210, .ref 210, .ref 210] }),
  (214, { cls := .type "builtin_function_or_method", data := .fields #[.builtin "object.__init_subclass__", .ref 210] })]
noncomputable def mrg : Nat → Nat → List (Nat × Obj) → List (Nat × Obj) → List Obj
  | 0, _, _, _ => []
  | n + 1, i, (a, o) :: l, m => match Nat.beq a i with
    | true => o :: mrg n (Nat.succ i) l m
    | false => match m with
      | (_, o') :: r => o' :: mrg n (Nat.succ i) ((a, o) :: l) r
      | [] => []
  | _ + 1, _, [], _ => []
noncomputable def objsAt (P : Params) : List Obj := mrg 300 0 (frag.heap_1 P) (lost P)
noncomputable def nthO : List Obj → Nat → Obj
  | [], _ => default
  | o :: _, 0 => o
  | _ :: l, n + 1 => nthO l n
noncomputable def treeAt (l : List Obj) (n : Nat) : Nat → Nat → Nat → BT
  | 0, _, _ => .nil
  | f + 1, a, b => match Nat.ble (Nat.succ b) n with
    | true => .node (nthO l b) (treeAt l n f (Nat.mul 2 a) (Nat.add a b)) (treeAt l n f (Nat.mul 2 a) (Nat.add (Nat.mul 2 a) b))
    | false => .nil
noncomputable def bootL (P : Params) : List Obj := [boot_o_0 P, boot_o_1 P, boot_o_2 P, boot_o_3 P, boot_o_4 P, boot_o_5 P, boot_o_6 P, boot_o_7 P, boot_o_8 P, boot_o_9 P, boot_o_10 P,
  { cls := .type "tuple", data := .seq #[] },
  { cls := .none, data := .fields #[] },
  { cls := .type "code", data := .fields #[vS "<module>" 182, vS "<module>" 183, vS "/claim/cut.py" 184, .int 1 0, .int 0 0, .int 0 0, .int 0 0, .int 0 0, .ref 11, .bool false, .int 181 0, .ref 12, .none, .none, .none, .none, .int 185 0, .int 1 0, vS "/claim/cut.py" 186] },
  { cls := .type "frame", slots := #[some (.ref 13), some (.ref 3), some (.ref 3), none, some (vS "__main__" 164), none, some (.ref 0)] }]
noncomputable def envT : Env := { scope := PySem.Challenge.rw_pb0173_01.row.toRowW.1.main.scope, locals := mainNs, globals := mainNs, cells := [], code := .ref 13, frame := some 14 }
noncomputable abbrev bodyT : List Stmt := behindTheImports PySem.Challenge.rw_pb0173_01.row.toRowW.1
noncomputable abbrev codeT : Code := Code.body bodyT envT
noncomputable abbrev at0 : Pos := { line := 0, col := 0, endLine := 0, endCol := 0 }
noncomputable abbrev at1 : Pos := { line := 212, col := 0, endLine := 223, endCol := 15 }
noncomputable def startT (P : Params) (os : OsState) : SharedT := { tree := treeAt (bootL P) 15 12 1 0, n := 15, life := {}, gens := #[], drawn := {}, toks := 187, os := os }
noncomputable def endT (P : Params) (os : OsState) : SharedT := { tree := treeAt (objsAt P) 280 12 1 0, n := 280, life := {}, gens := #[], drawn := {}, toks := 538, os := os }
noncomputable def endH (P : Params) : Heap := ⟨(objsAt P).toArray, {}⟩
theorem run_pre : ∀ (w : World) (os : OsState), topGo treeTable PySem.Challenge.rw_pb0173_01.row.toRowW.1 w 11 (some (.ref 6)) 12 ⟨boot_heap w.params, Array.mk [], boot_drawn, boot_toks, os⟩ (topStub PySem.Challenge.rw_pb0173_01.row.toRowW.1) =
    some (⟨⟨(bootL w.params).toArray, {}⟩, #[], {}, 187, os⟩, ⟨denote treeTable codeT, codeT, at0, [topFrame at0]⟩) := by
  intro w os
  kernel_rfl
theorem run_block : ∀ (w : World) (os : OsState), segRun treeTable PySem.Challenge.rw_pb0173_01.row.toRowW.1 w 11 (some (.ref 6)) 1 1 ⟨⟨(bootL w.params).toArray, {}⟩, #[], {}, 187, os⟩ (blockOf bodyT envT codeT at0 [topFrame at0]) =
    some (.next, (startT w.params os).abs, codeT, at0) := by
  intro w os
  kernel_rfl
theorem run_body : ∀ (w : World) (os : OsState), segRunT treeTable PySem.Challenge.rw_pb0173_01.row.toRowW.1 w 11 (some (.ref 6)) 1 1850 (startT w.params os) (piecesOf bodyT envT codeT at0 [topFrame at0]) =
    some (.next, endT w.params os, codeT, at1) := by
  rw [PySem.W.Fast.te10110043849684766642, PySem.W.Fast.te14364793385576792824]
  intro w os
  kernel_rfl
theorem run_fin : ∀ (w : World) (os : OsState), topRun treeTable PySem.Challenge.rw_pb0173_01.row.toRowW.1 w 11 (some (.ref 6)) 2 (endT w.params os).abs ⟨doneF .next, codeT, at1, [topFrame at0]⟩ =
    some ⟨endH w.params, #[], {}, 538, os⟩ := by
  intro w os
  kernel_rfl
theorem run_all (w : World) (os : OsState) : topRun treeTable PySem.Challenge.rw_pb0173_01.row.toRowW.1 w 11 (some (.ref 6)) (12 + (1 + (1850 + 2))) ⟨boot_heap w.params, Array.mk [], boot_drawn, boot_toks, os⟩ (topStub PySem.Challenge.rw_pb0173_01.row.toRowW.1) =
    some ⟨endH w.params, #[], {}, 538, os⟩ := by
  have h := piece_app (rest := []) (segRun_of (run_body w os)) (piece_nil (run_fin w os))
  rw [List.append_nil] at h
  exact go_top (run_pre w os) (piece_block (run_block w os) h)
theorem open_all : ∀ w : World, (fencedOpening treeTable PySem.Challenge.rw_pb0173_01.row.toRowW.1 w 3806).map (fun s => (s.heap, s.gens, s.drawn, s.toks)) = some (boot_heap w.params, Array.mk [], boot_drawn, boot_toks) :=
  boot_open rfl rfl fun _ => rfl
theorem size_all : ∀ w : World, ((boot_heap w.params).isNs mainGlobals && (Array.mk [] : Array GenState).size == 0, (boot_heap w.params).objs.size, (boot_heap w.params).nsMap mainGlobals "__annotations__") = (true, 11, some (.ref 6)) := by
  intro w
  kernel_rfl
noncomputable def seenX (s : Shared) : Bool := xlAt viewK [] s && recOk (RowW.records PySem.Challenge.rw_pb0173_01.row.toRowW) s
noncomputable abbrev endS (w : World) (os : OsState) : Shared := ⟨endH w.params, #[], {}, 538, os⟩
noncomputable abbrev modsT : List Str := importedModules PySem.Challenge.rw_pb0173_01.row.toRowW.1.main.body
noncomputable abbrev seenAt (w : World) (os : OsState) := openSeen viewK [Str.ofString "ShapeError"] modsT seenX true (endS w os)
noncomputable abbrev goodAt := openGood viewK [Str.ofString "ShapeError"]
theorem look_0 : ∀ (w : World) (os : OsState), (staticsOk modsT (boot_heap w.params) (endH w.params) && namesBound PySem.Challenge.rw_pb0173_01.row.toRowW.1 (endH w.params) && gensDone (endS w os) && laidKept (boot_heap w.params) (endH w.params)) = true := by
  intro w os
  kernel_rfl
theorem look_1 : ∀ (w : World) (os : OsState), seenAt w os = goodAt := by
  intro w os
  kernel_rfl
noncomputable abbrev keysK : List Addr := [0, 1, 2, 3, 4, 5, 6, 7, 8, 9, 10, 11, 12, 13, 14, 15, 16, 17, 18, 19, 20, 21, 22, 25, 30, 31, 32, 33, 34, 35, 36, 37, 38, 39, 40, 41, 42, 43, 44, 45, 46, 47, 48, 49, 52, 59, 60, 61, 64, 65, 66, 67, 68, 69, 70, 71, 72, 73, 74, 75, 76, 77, 85, 86, 87, 88, 89, 90, 91, 92, 93, 94, 95, 96, 97, 98, 99, 100, 101, 102, 103, 104, 105, 106, 107, 108, 109, 110, 111, 112, 113, 114, 115, 116, 117, 118, 119, 120, 121, 122, 123, 124, 125, 126, 127, 128, 129, 130, 131, 132, 133, 134, 135, 136, 137, 138, 139, 140, 141, 142, 143, 144, 145, 146, 147, 148, 149, 150, 151, 152, 153, 154, 155, 156, 157, 158, 159, 160, 161, 162, 163, 164, 165, 166, 167, 177, 178, 179, 180, 181, 182, 183, 184, 185, 186, 187, 188, 189, 190, 191, 192, 193, 194, 195, 196, 197, 198, 199, 200, 201, 202, 203, 204, 205, 206, 207, 208, 209, 210, 211, 212, 215, 216, 217, 218, 219, 220, 221, 222, 223, 224, 225, 226, 227, 228, 229, 230, 231, 232, 233, 234, 235, 236, 237, 238, 239, 240, 241, 242, 243, 244, 245, 246, 247, 248, 249, 250, 251, 252, 253, 254, 255, 256, 257, 258, 259, 260, 261, 262, 263, 264, 265, 266, 267, 268, 269, 270, 271, 272, 273, 274, 275, 276, 277, 278, 279]
theorem frag_keys : ∀ P, keysK = (frag.heap_1 P).map (·.1) := by
  intro P
  kernel_rfl
noncomputable abbrev hookK : Hook := kHook frag.heap_1 keysK frag_keys
theorem look_10 : ∀ (w : World) (os : OsState), hookK.obs (endS w os) = hookK.val w := by
  intro w os
  kernel_rfl
theorem left_all : LeftO PySem.Challenge.rw_pb0173_01.row.prog viewK [Str.ofString "ShapeError"] seenX hookK.obs hookK.val 3806 :=
  LeftO.of_pieces (H₀ := boot_heap) (H₁ := endH) (gs₀ := Array.mk []) (gs₁ := #[]) (d₀ := boot_drawn) (d₁ := {}) (k₀ := boot_toks) (k₁ := 538) (m₀ := 11) (ann := some (.ref 6)) (M := 12 + (1 + (1850 + 2))) open_all size_all run_all rfl fun w => funext fun os =>
    Prod.ext (look_0 w os) (Prod.ext (look_1 w os) (look_10 w os))
theorem law_said : OpenLaw.wellSaid PySem.Challenge.rw_pb0173_01 = true := by kernel_rfl
section
local macro_rules | `(tactic| k_head) => `(tactic| o_head (kHook frag.heap_1 keysK frag_keys))
local macro_rules | `(tactic| o_law) => `(tactic| refine holds_law law_said fun _ => ?_)
set_option hygiene false in
local macro_rules | `(tactic| o_head $H) => `(tactic| refine holds_open (q := viewK) (loose := [Str.ofString "ShapeError"]) (Xt := seenX) (XP := XL viewK []) (Yf := Hook.obs $H) (Ya := Hook.val $H) (YP := Hook.says $H) (N := 3806) left_all (Hook.of $H) (Hook.keeps $H) (fun s e => xl_of s (Bool.and_eq_true_iff.mp e).1) XL.keeps (by rfl) (by rfl) (by rfl) (fun s e => recFacts_of (Bool.and_eq_true_iff.mp e).2) (by rfl) (row_said law_said) (by kernel_rfl) ⟨rfl, rfl, rfl, rfl, rfl, by kernel_rfl⟩ ?hw ?hc)
open_top hd for PySem.Challenge.rw_pb0173_01
end
example : PySem.Challenge.rw_pb0173_01 = PySem.Challenge.rw_pb0173_01 ∧ frag.heap_1 = frag.heap_1 := by
  k_fill
  exact ⟨rfl, rfl⟩
def Hold (p : Prop) : Prop := p
theorem Hold.out {p : Prop} (h : Hold p) : p := h
theorem Jq0 (z : Hold (wpAny W_ P_ (call (Value.ref a) b) Q_ E_ s_)) : wpAny W_ P_ (call (Value.ref a) b) Q_ E_ s_ := z
theorem Jq1 (z : Hold (wpAny W_ P_ (exec (Stmt.For a b c d f) g) Q_ E_ s_)) : wpAny W_ P_ (exec (Stmt.For a b c d f) g) Q_ E_ s_ := z
theorem Jq2 (z : Hold (wpAny W_ P_ (exec (Stmt.Raise a b c) d) Q_ E_ s_)) : wpAny W_ P_ (exec (Stmt.Raise a b c) d) Q_ E_ s_ := z
theorem Jq3 (z : Hold (wpAny W_ P_ (eval (Expr.ListComp a b c d) f) Q_ E_ s_)) : wpAny W_ P_ (eval (Expr.ListComp a b c d) f) Q_ E_ s_ := z
theorem Jq4 (z : Hold (wpAny W_ P_ (call (Value.builtin "list.append") a) Q_ E_ s_)) : wpAny W_ P_ (call (Value.builtin "list.append") a) Q_ E_ s_ := z
theorem Jq5 (z : Hold (wpAny W_ P_ (exec (Stmt.Assign a (Expr.ListComp b c d f) g) h) Q_ E_ s_)) : wpAny W_ P_ (exec (Stmt.Assign a (Expr.ListComp b c d f) g) h) Q_ E_ s_ := z
theorem Jq6 (z : Hold (wpAny W_ P_ (isTrue (Expr.BoolOp a b c) d f) Q_ E_ s_)) : wpAny W_ P_ (isTrue (Expr.BoolOp a b c) d f) Q_ E_ s_ := z
theorem Jq7 (z : Hold (wpAny W_ P_ (exec (Stmt.Try a b c d f) g) Q_ E_ s_)) : wpAny W_ P_ (exec (Stmt.Try a b c d f) g) Q_ E_ s_ := z
theorem Jq8 (z : Hold (wpAny W_ P_ (call (Value.builtin "sorted") a) Q_ E_ s_)) : wpAny W_ P_ (call (Value.builtin "sorted") a) Q_ E_ s_ := z
theorem Jq9 (z : Hold (wpAny W_ P_ (call (Value.builtin "max") a) Q_ E_ s_)) : wpAny W_ P_ (call (Value.builtin "max") a) Q_ E_ s_ := z
theorem Jq10 (z : Hold (wpAny W_ P_ (call (Value.type a) b) Q_ E_ s_)) : wpAny W_ P_ (call (Value.type a) b) Q_ E_ s_ := z
theorem Jq11 (z : Hold (wpAny W_ P_ (compareOp a (Value.ref b) (Value.ref c)) Q_ E_ s_)) : wpAny W_ P_ (compareOp a (Value.ref b) (Value.ref c)) Q_ E_ s_ := z
theorem Jq12 (z : Hold (wpAny W_ P_ (getItem (Value.ref a) b) Q_ E_ s_)) : wpAny W_ P_ (getItem (Value.ref a) b) Q_ E_ s_ := z
theorem Jq13 (z : Hold (wpAny W_ P_ (exec (Stmt.If a b c d) f) Q_ E_ s_)) : wpAny W_ P_ (exec (Stmt.If a b c d) f) Q_ E_ s_ := z
theorem Jq14 (z : Hold (wpAny W_ P_ (exec (Stmt.Assign a b c) d) Q_ E_ s_)) : wpAny W_ P_ (exec (Stmt.Assign a b c) d) Q_ E_ s_ := z
theorem Jq15 (z : Hold (wpAny W_ P_ (pyIter a) Q_ E_ s_)) : wpAny W_ P_ (pyIter a) Q_ E_ s_ := z
local macro_rules | `(tactic| fail "JMEM") => `(tactic| (first | exact .head _ | (refine .tail _ ?_; fail "JMEM")))
section
theorem q0 {x0 : Nat} (h0 : (x0 ≤ (8900 : Nat))) : ((x0 + (1 : Nat)) ≤ (9000 : Nat)) := Nat.lt_of_le_of_lt h0 (Nat.le_of_ble_eq_true rfl)
theorem q1 {x0 : Nat} (h0 : (x0 ≤ (100 : Nat))) : ((x0 + ((0 : Nat) + (1 : Nat))) ≤ ((16777216 : Nat) + (1 : Nat))) := Nat.lt_of_le_of_lt h0 (Nat.le_of_ble_eq_true rfl)
theorem q2 {x0 : Nat} (h0 : (x0 ≤ (700 : Nat))) : (x0 < (1000 : Nat)) := Nat.lt_of_le_of_lt h0 (Nat.le_of_ble_eq_true rfl)
theorem q3 {x0 : Nat} (h0 : (x0 ≤ (700 : Nat))) : ((x0 + (1 : Nat)) ≤ (800 : Nat)) := Nat.lt_of_le_of_lt h0 (Nat.le_of_ble_eq_true rfl)
theorem q4 {x0 : Nat} (h0 : (x0 ≤ (8000 : Nat))) : ((x0 + (3 : Nat)) ≤ (8900 : Nat)) := Nat.le_trans (Nat.add_le_add_right h0 _) (Nat.le_of_ble_eq_true rfl)
theorem q5 {x0 : Nat} (h0 : (x0 ≤ (690 : Nat))) : ((x0 + (1 : Nat)) ≤ (700 : Nat)) := Nat.lt_of_le_of_lt h0 (Nat.le_of_ble_eq_true rfl)
theorem q6 {x0 : Nat} (h0 : (x0 ≤ (7900 : Nat))) : ((x0 + (1 : Nat)) ≤ (8000 : Nat)) := Nat.lt_of_le_of_lt h0 (Nat.le_of_ble_eq_true rfl)
theorem q7 {x0 : Nat} : ((3 : Nat) < (((((((0 : Nat) + (1 : Nat)) + (1 : Nat)) + (1 : Nat)) + (1 : Nat)) + (1 : Nat)) + x0)) := by grind
theorem q8 {x0 : Nat} (h0 : (x0 ≤ (680 : Nat))) : ((x0 + (1 : Nat)) ≤ (690 : Nat)) := Nat.lt_of_le_of_lt h0 (Nat.le_of_ble_eq_true rfl)
theorem q9 {x0 : Nat} (h0 : (x0 ≤ (7800 : Nat))) : ((x0 + (3 : Nat)) ≤ (7900 : Nat)) := Nat.le_trans (Nat.add_le_add_right h0 _) (Nat.le_of_ble_eq_true rfl)
theorem q10 {x0 : Nat} (h0 : (x0 ≤ (600 : Nat))) : (x0 < (1000 : Nat)) := Nat.lt_of_le_of_lt h0 (Nat.le_of_ble_eq_true rfl)
theorem q11 {x0 : Nat} (h0 : (x0 ≤ (600 : Nat))) : (x0 ≤ (680 : Nat)) := Nat.le_trans h0 (Nat.le_of_ble_eq_true rfl)
theorem q12 {x0 : Nat} (h0 : (x0 ≤ (7000 : Nat))) : (x0 ≤ (7800 : Nat)) := Nat.le_trans h0 (Nat.le_of_ble_eq_true rfl)
theorem q13 {x0 : Nat} {x1 : Int} (h0 : (¬ (((x0 : Nat) : Int) < (x1 + (2 : Int))))) : ((x1 + (2 : Int)) ≤ ((x0 : Nat) : Int)) := by simp at *; omega
theorem q14 {x0 : Nat} {x1 : Nat} (h0 : ((x0 + (2 : Nat)) ≤ x1)) : (x0 < x1) := Nat.le_of_lt h0
theorem q15 {x0 : Nat} {x1 : Nat} (h0 : ((x0 + (2 : Nat)) ≤ x1)) : ((x0 + (1 : Nat)) < x1) := Nat.lt_of_lt_of_le (Nat.lt_of_lt_of_le (Nat.lt_succ_self _) h0) (Nat.le_refl _)
theorem q16 {x0 : Nat} (h0 : (x0 ≤ (590 : Nat))) : (x0 < (1000 : Nat)) := Nat.lt_of_le_of_lt h0 (Nat.le_of_ble_eq_true rfl)
theorem q17 {x0 : Nat} (h0 : (x0 ≤ (590 : Nat))) : ((x0 + (1 : Nat)) ≤ (600 : Nat)) := Nat.lt_of_le_of_lt h0 (Nat.le_of_ble_eq_true rfl)
theorem q18 {x0 : Nat} (h0 : (x0 ≤ (6900 : Nat))) : ((x0 + (3 : Nat)) ≤ (7000 : Nat)) := Nat.le_trans (Nat.add_le_add_right h0 _) (Nat.le_of_ble_eq_true rfl)
theorem q19 {x0 : Int} (h0 : ((0 : Int) ≤ x0)) (h1 : (x0 ≤ (200000 : Int))) : ((0 : Int) ≤ (x0 + (2 : Int))) := Int.add_nonneg h0 (by decide)
theorem q20 {x0 : Int} (h0 : ((0 : Int) ≤ x0)) (h1 : (x0 ≤ (200000 : Int))) : ((Int.toNat (x0 + (2 : Int))) = ((Int.toNat x0) + (2 : Nat))) := by subst_vars; lia
theorem q21 {x0 : Int} {x1 : Nat} (h0 : ((x0 + (2 : Int)) ≤ ((x1 : Nat) : Int))) : (x0 ≤ ((x1 : Nat) : Int)) := by subst_vars; lia
theorem q22 {x0 : Int} {x1 : Nat} {x2 : Nat} (h0 : ((0 : Int) ≤ x0)) (h1 : (x0 ≤ (200000 : Int))) (h2 : ((x0 + (2 : Int)) ≤ ((x1 : Nat) : Int))) (h3 : (x2 = (Int.toNat x0))) : (((Int.toNat x0) + (2 : Nat)) ≤ x1) := by grind
theorem q23 {x0 : Int} : ((((Int.toNat x0) + (2 : Nat)) - (Int.toNat x0)) = (2 : Nat)) := by simp_all
theorem q26 {x0 : Int} {x1 : Int} {x2 : Int} {x3 : Int} (h0 : (x0 = x1)) (h1 : (x2 = (0 : Int))) : (((0 : Int) ≤ x2) ∧ ((x2 < (256 : Int)) ∧ (((((0 : Nat) + (1 : Nat)) = (0 : Nat)) → (((x2 * (256 : Int)) + x1) = (0 : Int))) ∧ (((((0 : Nat) + (1 : Nat)) = (1 : Nat)) → (((x2 * (256 : Int)) + x1) = x0)) ∧ ((((0 : Nat) + (1 : Nat)) = (2 : Nat)) → (((x2 * (256 : Int)) + x1) = ((x0 * (256 : Int)) + x3))))))) := by simp_all
theorem q27 {x0 : Int} {x1 : Int} {x2 : Int} {x3 : Int} (h0 : (((0 : Int) ≤ x0) ∧ (x0 < (256 : Int)))) (h1 : (x1 = x2)) (h2 : (x3 = x0)) : (((0 : Int) ≤ x3) ∧ ((x3 < (256 : Int)) ∧ (((((1 : Nat) + (1 : Nat)) = (0 : Nat)) → (((x3 * (256 : Int)) + x2) = (0 : Int))) ∧ (((((1 : Nat) + (1 : Nat)) = (1 : Nat)) → (((x3 * (256 : Int)) + x2) = x0)) ∧ ((((1 : Nat) + (1 : Nat)) = (2 : Nat)) → (((x3 * (256 : Int)) + x2) = ((x0 * (256 : Int)) + x1))))))) := by simp_all
theorem q28 {x0 : Int} (h0 : ((0 : Int) ≤ x0)) : ((0 : Int) ≤ (x0 * (256 : Int))) := by subst_vars; lia
theorem q29 {x0 : Int} (h0 : ((0 : Int) ≤ x0)) (h1 : (x0 < (256 : Int))) : ((Int.toNat x0) < ((2 : Nat) ^ (8 : Nat))) := by simp_all
theorem q32 {x0 : Nat} (h0 : (x0 ≤ (570 : Nat))) : ((x0 + (1 : Nat)) ≤ (580 : Nat)) := Nat.lt_of_le_of_lt h0 (Nat.le_of_ble_eq_true rfl)
theorem q33 {x0 : Nat} (h0 : (x0 ≤ (6700 : Nat))) : ((x0 + (1 : Nat)) ≤ (6800 : Nat)) := Nat.lt_of_le_of_lt h0 (Nat.le_of_ble_eq_true rfl)
theorem q34 {x0 : Nat} (h0 : (x0 ≤ (580 : Nat))) : (x0 < (1000 : Nat)) := Nat.lt_of_le_of_lt h0 (Nat.le_of_ble_eq_true rfl)
theorem q35 {x0 : Nat} (h0 : (x0 ≤ (580 : Nat))) : ((x0 + (1 : Nat)) ≤ (590 : Nat)) := Nat.lt_of_le_of_lt h0 (Nat.le_of_ble_eq_true rfl)
theorem q36 {x0 : Nat} (h0 : (x0 ≤ (6800 : Nat))) : ((x0 + (3 : Nat)) ≤ (6900 : Nat)) := Nat.le_trans (Nat.add_le_add_right h0 _) (Nat.le_of_ble_eq_true rfl)
theorem q37 {x0 : Nat} (h0 : (x0 ≤ (570 : Nat))) : (x0 < (1000 : Nat)) := Nat.lt_of_le_of_lt h0 (Nat.le_of_ble_eq_true rfl)
theorem q38 {x0 : Nat} (h0 : (x0 ≤ (6700 : Nat))) : ((x0 + (3 : Nat)) ≤ (6800 : Nat)) := Nat.le_trans (Nat.add_le_add_right h0 _) (Nat.le_of_ble_eq_true rfl)
theorem q39 {x0 : Nat} {x1 : Nat} (h0 : (x0 < x1)) : (((x1 + (1 : Nat)) - (x0 + (1 : Nat))) < ((x1 + (1 : Nat)) - x0)) := by grind
theorem q40 {x0 : Nat} {x1 : Nat} (h0 : (x0 ≤ x1)) : ((x0 + (1 : Nat)) ≤ (x1 + (1 : Nat))) := by simp at *; omega
theorem q41 {x0 : Nat} {x1 : Nat} {x2 : Nat} {x3 : Nat} (h0 : (x0 ≤ x1)) (h1 : (x2 ≤ x3)) (h2 : (x3 < x0)) : (x2 ≤ x1) := by subst_vars; lia
theorem q42 {x0 : Nat} {x1 : Nat} (h0 : ((x0 + (10 : Nat)) < x1)) : (x0 < x1) := Nat.lt_of_le_of_lt (Nat.le_add_right _ _) h0
theorem q43 {x0 : Nat} {x1 : Nat} (h0 : ((x0 + (1 : Nat)) ≤ (63 : Nat))) (h1 : (x1 = ((x0 + (1 : Nat)) - (1 : Nat)))) (h2 : (x1 ≤ (x0 + (1 : Nat)))) : (x1 ≤ (63 : Nat)) := by subst_vars; lia
theorem q44 {x0 : Nat} {x1 : Nat} {x2 : Nat} (h0 : (x0 = x1)) (h1 : (x2 < x1)) : (x2 < x0) := by subst_vars; omega
theorem q45 {x0 : Nat} {x1 : Nat} (h0 : (¬ (x0 < x1))) (h1 : (x0 < (x1 + (1 : Nat)))) : (x0 = x1) := by lia
theorem q46 {x0 : Nat} (h0 : (x0 ≤ (560 : Nat))) : (x0 < (1000 : Nat)) := Nat.lt_of_le_of_lt h0 (Nat.le_of_ble_eq_true rfl)
theorem q47 {x0 : Nat} (h0 : (x0 ≤ (560 : Nat))) : ((x0 + (1 : Nat)) ≤ (570 : Nat)) := Nat.lt_of_le_of_lt h0 (Nat.le_of_ble_eq_true rfl)
theorem q48 {x0 : Nat} (h0 : (x0 ≤ (6600 : Nat))) : ((x0 + (3 : Nat)) ≤ (6700 : Nat)) := Nat.le_trans (Nat.add_le_add_right h0 _) (Nat.le_of_ble_eq_true rfl)
theorem q49 {x0 : Nat} (h0 : (x0 ≤ (1000 : Nat))) : (x0 ≤ (100000 : Nat)) := Nat.le_trans h0 (Nat.le_of_ble_eq_true rfl)
theorem q50 {x0 : Int} (h0 : ((0 : Int) ≤ x0)) (h1 : (x0 ≤ (1000 : Int))) : (x0 ≤ (200000 : Int)) := Int.le_trans h1 (by decide)
theorem q51 {x0 : Nat} {x1 : Nat} {x2 : Nat} (h0 : (x0 = x1)) (h1 : (x2 < x0)) : (x2 < ((x0 + (1 : Nat)) + (1 : Nat))) := by lia
theorem q52 {x0 : Nat} {x1 : Nat} {x2 : Nat} (h0 : (x0 = x1)) (h1 : (x2 < x0)) : (x2 < (x0 + (1 : Nat))) := by lia
theorem q53 {x0 : Int} (h0 : ((0 : Int) ≤ x0)) (h1 : (x0 ≤ (1000 : Int))) : ((0 : Int) ≤ (x0 + (2 : Int))) := Int.add_nonneg h0 (by decide)
theorem q54 {x0 : Int} (h0 : ((0 : Int) ≤ x0)) (h1 : (x0 ≤ (1000 : Int))) : ((x0 + (2 : Int)) ≤ (200000 : Int)) := by subst_vars; lia
theorem q55 {x0 : Nat} (h0 : (x0 ≤ (560 : Nat))) : (x0 ≤ (680 : Nat)) := Nat.le_trans h0 (Nat.le_of_ble_eq_true rfl)
theorem q56 {x0 : Nat} (h0 : (x0 ≤ (6600 : Nat))) : (x0 ≤ (7800 : Nat)) := Nat.le_trans h0 (Nat.le_of_ble_eq_true rfl)
theorem q57 {x0 : Int} {x1 : Nat} (h0 : (((x0 + (2 : Int)) + (2 : Int)) ≤ ((x1 : Nat) : Int))) : ((x0 + (4 : Int)) ≤ ((x1 : Nat) : Int)) := by lia
theorem q58 {x0 : Int} {x1 : Int} {x2 : Int} (h0 : (x0 = ((x1 * (256 : Int)) + x2))) (h1 : (((0 : Int) ≤ x0) ∧ (x0 ≤ (65535 : Int)))) : ((-((2 : Int) ^ (62 : Nat))) ≤ x0) := by grind
theorem q59 {x0 : Int} {x1 : Int} {x2 : Int} (h0 : (x0 = ((x1 * (256 : Int)) + x2))) (h1 : (((0 : Int) ≤ x0) ∧ (x0 ≤ (65535 : Int)))) : (x0 < ((2 : Int) ^ (62 : Nat))) := by grind
theorem q60 {x0 : Int} {x1 : Int} {x2 : Int} (h0 : (x0 = ((x1 * (256 : Int)) + x2))) (h1 : (((0 : Int) ≤ x0) ∧ (x0 ≤ (65535 : Int)))) : ((Int.toNat x0) ≤ (16777216 : Nat)) := by grind
theorem q61 {x0 : Int} : (((x0 + (2 : Int)) + (2 : Int)) = ((x0 + (4 : Int)) + ((2 : Int) * (((0 : Nat) : Nat) : Int)))) := by grind
theorem q62 {x0 : Int} {x1 : Nat} (h0 : (((x0 + (2 : Int)) + (2 : Int)) ≤ ((x1 : Nat) : Int))) : (((x0 + (4 : Int)) + ((2 : Int) * (((0 : Nat) : Nat) : Int))) ≤ ((x1 : Nat) : Int)) := by subst_vars; lia
theorem q63 {x0 : Nat} {x1 : Int} {x2 : Nat} {x3 : Nat} {x4 : Int} (h0 : (x0 ≤ (1000 : Nat))) (h1 : ((0 : Int) ≤ x1)) (h2 : (x1 ≤ (1000 : Int))) (h3 : (((x1 + (2 : Int)) + (2 : Int)) ≤ ((x0 : Nat) : Int))) (h4 : (x2 ≤ x3)) (h5 : (x4 = ((x1 + (4 : Int)) + ((2 : Int) * ((x3 : Nat) : Int))))) : ((0 : Int) ≤ x4) := by subst_vars; lia
theorem q64 {x0 : Nat} {x1 : Int} {x2 : Int} {x3 : Nat} (h0 : (x0 ≤ (1000 : Nat))) (h1 : (x1 = ((x2 + (4 : Int)) + ((2 : Int) * ((x3 : Nat) : Int))))) (h2 : (((x2 + (4 : Int)) + ((2 : Int) * ((x3 : Nat) : Int))) ≤ ((x0 : Nat) : Int))) : (x1 ≤ (200000 : Int)) := by subst_vars; lia
theorem q65 {x0 : Int} {x1 : Int} {x2 : Nat} (h0 : (x0 = ((x1 + (4 : Int)) + ((2 : Int) * ((x2 : Nat) : Int))))) : ((x0 + (2 : Int)) = ((x1 + (4 : Int)) + ((2 : Int) * (((x2 + (1 : Nat)) : Nat) : Int)))) := by subst_vars; lia
theorem q66 {x0 : Int} {x1 : Nat} : ((x0 + ((x1 : Nat) : Int)) = (x0 + ((0 : Int) + ((x1 : Nat) : Int)))) := by simp_all
theorem q67 {x0 : Int} {x1 : Int} {x2 : Nat} {x3 : Nat} (h0 : (x0 = ((x1 + (4 : Int)) + ((2 : Int) * ((x2 : Nat) : Int))))) (h1 : ((x0 + (2 : Int)) ≤ ((x3 : Nat) : Int))) : (((x1 + (4 : Int)) + ((2 : Int) * (((x2 + (1 : Nat)) : Nat) : Int))) ≤ ((x3 : Nat) : Int)) := by subst_vars; lia
theorem q68 {x0 : Int} {x1 : Nat} {x2 : Int} {x3 : Nat} (h0 : (((x0 + (2 : Int)) + (2 : Int)) ≤ ((x1 : Nat) : Int))) (h1 : (x2 = ((x0 + (4 : Int)) + ((2 : Int) * ((x3 : Nat) : Int))))) : ((x0 + (4 : Int)) ≤ ((x1 : Nat) : Int)) := by lia
theorem q69 {x0 : Int} {x1 : Int} {x2 : Int} {x3 : Int} {x4 : Int} {x5 : Int} (h0 : (x0 = ((x1 * (256 : Int)) + x2))) (h1 : (x3 = ((x4 * (256 : Int)) + x5))) (h2 : (¬ ((65536 : Int) < (x0 + x3)))) : ((x0 + x3) ≤ (65536 : Int)) := by simp at *; omega
theorem q70 {x0 : Int} {x1 : Int} {x2 : Int} {x3 : Nat} {x4 : Nat} {x5 : Nat} {x6 : Nat} (h0 : (x0 = ((x1 * (256 : Int)) + x2))) (h1 : (x3 < (Int.toNat x0))) (h2 : ((x4 ≠ x5) ∧ ((x4 ≠ x6) ∧ (x5 ≠ x6)))) : (((x3 : Nat) : Int) < x0) := by simp at *; omega
theorem q71 {x0 : Int} {x1 : Int} {x2 : Nat} {x3 : Nat} (h0 : (x0 = ((x1 + (4 : Int)) + ((2 : Int) * ((x2 : Nat) : Int))))) (h1 : (((x1 + (4 : Int)) + ((2 : Int) * ((x2 : Nat) : Int))) ≤ ((x3 : Nat) : Int))) (h2 : (((x3 : Nat) : Int) < (x0 + (2 : Int)))) : (((x3 : Nat) : Int) < (((x1 + (4 : Int)) + ((2 : Int) * ((x2 : Nat) : Int))) + (2 : Int))) := by simp_all
theorem q72 {x0 : Int} {x1 : Nat} {x2 : Int} {x3 : Int} {x4 : Int} {x5 : Int} (h0 : (((x0 + (2 : Int)) + (2 : Int)) ≤ ((x1 : Nat) : Int))) (h1 : (x2 = ((x3 * (256 : Int)) + x4))) (h2 : (((0 : Int) ≤ x2) ∧ (x2 ≤ (65535 : Int)))) (h3 : (x5 = ((x0 + (4 : Int)) + ((2 : Int) * (((Int.toNat x2) : Nat) : Int))))) (h4 : (((x0 + (4 : Int)) + ((2 : Int) * (((Int.toNat x2) : Nat) : Int))) ≤ ((x1 : Nat) : Int))) : (((x0 + (4 : Int)) + ((2 : Int) * x2)) ≤ ((x1 : Nat) : Int)) := by grind
theorem q73 {x0 : Int} {x1 : Nat} (h0 : ((x0 + (2 : Int)) ≤ ((x1 : Nat) : Int))) (h1 : (((x1 : Nat) : Int) < ((x0 + (2 : Int)) + (2 : Int)))) : (((x1 : Nat) : Int) < (x0 + (4 : Int))) := by lia
theorem q74 {x0 : Nat} {x1 : Nat} (h0 : (¬ (x0 < x1))) : (x1 ≤ x0) := by simp at *; omega
theorem q75 {x0 : Int} {x1 : Int} (h0 : (((0 : Int) ≤ x0) ∧ (x0 < (256 : Int)))) (h1 : (((0 : Int) ≤ x1) ∧ (x1 < (256 : Int)))) : (((0 : Int) ≤ ((x0 * (256 : Int)) + x1)) ∧ (((x0 * (256 : Int)) + x1) ≤ (65535 : Int))) := by lia
theorem q76 {x0 : Nat} {x1 : Nat} {x2 : Nat} (h0 : (x0 < x1)) (h1 : (x2 = x1)) : (x0 < x2) := by subst_vars; omega
theorem q77 {x0 : Nat} {x1 : Nat} {x2 : Nat} (h0 : (¬ (x0 < x1))) (h1 : (x2 = x1)) : (x2 ≤ x0) := by simp_all
theorem q78 {x0 : Int} {x1 : Nat} {x2 : Nat} (h0 : (((x0 + (2 : Int)) + ((6 : Int) * (((x1 + (1 : Nat)) : Nat) : Int))) ≤ ((x2 : Nat) : Int))) : (((x0 + (2 : Int)) + ((6 : Int) * ((x1 : Nat) : Int))) ≤ ((x2 : Nat) : Int)) := by subst_vars; lia
theorem q79 {x0 : Nat} {x1 : Nat} (h0 : (x0 < x1)) : (x0 < (x1 + (1 : Nat))) := Nat.lt_trans h0 (Nat.lt_succ_self _)
theorem q80 {x0 : Nat} : (x0 < (x0 + (1 : Nat))) := by constructor <;> omega
theorem q81 {x0 : Nat} {x1 : Int} {x2 : Int} {x3 : Int} (h0 : (((x0 : Nat) : Int) ≤ x1)) (h1 : ((x1 ≤ x2) ∧ (x2 ≤ x3))) : ((((x0 + (Int.toNat ((x3 + (1 : Int)) - x2))) : Nat) : Int) ≤ (x3 + (1 : Int))) := by grind
theorem q82 {x0 : Nat} {x1 : Nat} {x2 : Nat} {x3 : Nat} (h0 : (((x0 + (1 : Nat)) < x1) ∧ ((x2 < x1) ∧ (x3 < x1)))) : (x3 < x1) := by simp_all
theorem q83 {x0 : Int} : ((x0 + (2 : Int)) = ((x0 + (2 : Int)) + ((6 : Int) * (((0 : Nat) : Nat) : Int)))) := by simp_all
theorem q84 {x0 : Int} {x1 : Nat} (h0 : ((x0 + (2 : Int)) ≤ ((x1 : Nat) : Int))) : (((x0 + (2 : Int)) + ((6 : Int) * (((0 : Nat) : Nat) : Int))) ≤ ((x1 : Nat) : Int)) := by simp at *; omega
theorem q85 {x0 : Nat} {x1 : Nat} {x2 : Nat} {x3 : Nat} {x4 : Int} {x5 : Int} {x6 : Int} {x7 : Nat} {x8 : Nat} (h0 : (((x0 + (1 : Nat)) < x1) ∧ ((x2 < x1) ∧ (x3 < x1)))) (h1 : (x4 = ((x5 * (256 : Int)) + x6))) (h2 : (((0 : Int) ≤ x4) ∧ (x4 ≤ (65535 : Int)))) (h3 : (x7 < (Int.toNat x4))) (h4 : (x8 ≠ x3)) (h5 : (x1 < x8)) (h6 : (x8 ≠ x2)) : (((x7 : Nat) : Int) < x4) := by simp at *; omega
theorem q86 {x0 : Nat} {x1 : Int} {x2 : Int} {x3 : Nat} (h0 : (x0 ≤ (1000 : Nat))) (h1 : ((0 : Int) ≤ x1)) (h2 : (x1 ≤ (1000 : Int))) (h3 : ((x1 + (2 : Int)) ≤ ((x0 : Nat) : Int))) (h4 : (x2 = ((x1 + (2 : Int)) + ((6 : Int) * ((x3 : Nat) : Int))))) : ((0 : Int) ≤ x2) := by subst_vars; lia
theorem q87 {x0 : Nat} {x1 : Int} {x2 : Int} {x3 : Nat} (h0 : (x0 ≤ (1000 : Nat))) (h1 : (x1 = ((x2 + (2 : Int)) + ((6 : Int) * ((x3 : Nat) : Int))))) (h2 : (((x2 + (2 : Int)) + ((6 : Int) * ((x3 : Nat) : Int))) ≤ ((x0 : Nat) : Int))) : (x1 ≤ (200000 : Int)) := by subst_vars; lia
theorem q88 {x0 : Int} {x1 : Int} {x2 : Nat} {x3 : Nat} (h0 : (x0 = ((x1 + (2 : Int)) + ((6 : Int) * ((x2 : Nat) : Int))))) (h1 : ((x0 + (2 : Int)) ≤ ((x3 : Nat) : Int))) : ((((x1 + (2 : Int)) + ((6 : Int) * ((x2 : Nat) : Int))) + (2 : Int)) ≤ ((x3 : Nat) : Int)) := by subst_vars; omega
theorem q89 {x0 : Int} {x1 : Int} {x2 : Int} {x3 : Int} {x4 : Int} {x5 : Int} (h0 : (x0 = x1)) (h1 : (x2 = ((x3 * (256 : Int)) + x4))) (h2 : (x2 = x5)) (h3 : (x2 < x0)) : (x5 < x1) := by subst_vars; omega
theorem q90 {x0 : Nat} {x1 : Int} {x2 : Int} {x3 : Nat} (h0 : (x0 ≤ (1000 : Nat))) (h1 : ((0 : Int) ≤ x1)) (h2 : (x1 ≤ (1000 : Int))) (h3 : ((x1 + (2 : Int)) ≤ ((x0 : Nat) : Int))) (h4 : (x2 = ((x1 + (2 : Int)) + ((6 : Int) * ((x3 : Nat) : Int))))) : ((0 : Int) ≤ (x2 + (2 : Int))) := by subst_vars; lia
theorem q91 {x0 : Nat} {x1 : Int} (h0 : (x0 ≤ (1000 : Nat))) (h1 : ((x1 + (2 : Int)) ≤ ((x0 : Nat) : Int))) : ((x1 + (2 : Int)) ≤ (200000 : Int)) := by lia
theorem q92 {x0 : Int} {x1 : Int} {x2 : Nat} {x3 : Nat} (h0 : (x0 = ((x1 + (2 : Int)) + ((6 : Int) * ((x2 : Nat) : Int))))) (h1 : (((x0 + (2 : Int)) + (2 : Int)) ≤ ((x3 : Nat) : Int))) : ((((x1 + (2 : Int)) + ((6 : Int) * ((x2 : Nat) : Int))) + (4 : Int)) ≤ ((x3 : Nat) : Int)) := by subst_vars; lia
theorem q93 {x0 : Int} {x1 : Int} {x2 : Int} {x3 : Int} {x4 : Int} {x5 : Int} (h0 : (x0 = x1)) (h1 : (x2 = ((x3 * (256 : Int)) + x4))) (h2 : (x2 = x5)) (h3 : (¬ (x2 < x0))) : (x1 ≤ x5) := by simp_all
theorem q95 {x0 : Int} {x1 : Int} {x2 : Nat} (h0 : (x0 = ((x1 + (2 : Int)) + ((6 : Int) * ((x2 : Nat) : Int))))) : ((x0 + (2 : Int)) = (((x1 + (2 : Int)) + ((6 : Int) * ((x2 : Nat) : Int))) + (2 : Int))) := by simp at *; omega
theorem q96 {x0 : Nat} {x1 : Int} {x2 : Int} {x3 : Nat} (h0 : (x0 ≤ (1000 : Nat))) (h1 : ((0 : Int) ≤ x1)) (h2 : (x1 ≤ (1000 : Int))) (h3 : ((x1 + (2 : Int)) ≤ ((x0 : Nat) : Int))) (h4 : (x2 = ((x1 + (2 : Int)) + ((6 : Int) * ((x3 : Nat) : Int))))) : ((0 : Int) ≤ ((x2 + (2 : Int)) + (2 : Int))) := by subst_vars; lia
theorem q97 {x0 : Nat} {x1 : Int} (h0 : (x0 ≤ (1000 : Nat))) (h1 : (((x1 + (2 : Int)) + (2 : Int)) ≤ ((x0 : Nat) : Int))) : (((x1 + (2 : Int)) + (2 : Int)) ≤ (200000 : Int)) := by lia
theorem q98 {x0 : Int} {x1 : Nat} : (((((x0 + (2 : Int)) + ((6 : Int) * ((x1 : Nat) : Int))) + (2 : Int)) + (2 : Int)) = (((x0 + (2 : Int)) + ((6 : Int) * ((x1 : Nat) : Int))) + (4 : Int))) := by grind
theorem q99 {x0 : Int} {x1 : Int} {x2 : Int} {x3 : Int} (h0 : (x0 = ((x1 * (256 : Int)) + x2))) (h1 : (x0 = x3)) (h2 : (((0 : Int) ≤ x0) ∧ (x0 ≤ (65535 : Int)))) : ((-((2 : Int) ^ (62 : Nat))) ≤ x0) := by grind
theorem q100 {x0 : Int} {x1 : Int} {x2 : Int} {x3 : Int} (h0 : (x0 = ((x1 * (256 : Int)) + x2))) (h1 : (x0 = x3)) (h2 : (((0 : Int) ≤ x0) ∧ (x0 ≤ (65535 : Int)))) : (x0 < ((2 : Int) ^ (62 : Nat))) := by grind
theorem q101 {x0 : Int} {x1 : Int} {x2 : Int} {x3 : Int} (h0 : (x0 = ((x1 * (256 : Int)) + x2))) (h1 : (x0 = x3)) (h2 : (((0 : Int) ≤ x0) ∧ (x0 ≤ (65535 : Int)))) : ((-((2 : Int) ^ (62 : Nat))) ≤ (x0 + (1 : Int))) := by grind
theorem q102 {x0 : Int} {x1 : Int} {x2 : Int} {x3 : Int} (h0 : (x0 = ((x1 * (256 : Int)) + x2))) (h1 : (x0 = x3)) (h2 : (((0 : Int) ≤ x0) ∧ (x0 ≤ (65535 : Int)))) : ((x0 + (1 : Int)) < ((2 : Int) ^ (62 : Nat))) := by grind
theorem q103 {x0 : Int} {x1 : Int} {x2 : Int} {x3 : Int} {x4 : Int} {x5 : Int} {x6 : Int} {x7 : Int} (h0 : (x0 = ((x1 * (256 : Int)) + x2))) (h1 : (x0 = x3)) (h2 : (x4 = ((x5 * (256 : Int)) + x6))) (h3 : (x4 = x7)) (h4 : (¬ (x4 < x0))) (h5 : (((0 : Int) ≤ x0) ∧ (x0 ≤ (65535 : Int)))) (h6 : (((0 : Int) ≤ x4) ∧ (x4 ≤ (65535 : Int)))) : ((Int.toNat ((x4 + (1 : Int)) - x0)) ≤ (16777216 : Nat)) := by subst_vars; lia
theorem q104 {x0 : Int} (h0 : (((0 : Int) ≤ x0) ∧ (x0 ≤ (65535 : Int)))) : ((x0 + (1 : Int)) ≤ (65536 : Int)) := by lia
theorem q105 {x0 : Nat} {x1 : Int} {x2 : Nat} (h0 : (((x0 : Nat) : Int) ≤ x1)) (h1 : (x2 = x0)) (h2 : (x1 ≤ (65536 : Int))) : (x2 ≤ (65536 : Nat)) := by subst_vars; lia
theorem q108 {x0 : Nat} (h0 : (x0 ≤ (65536 : Nat))) : (x0 ≤ (16777216 : Nat)) := Nat.le_trans h0 (Nat.le_of_ble_eq_true rfl)
theorem q110 {x0 : Int} {x1 : Int} {x2 : Nat} (h0 : (x0 = ((x1 + (2 : Int)) + ((6 : Int) * ((x2 : Nat) : Int))))) : ((((x0 + (2 : Int)) + (2 : Int)) + (2 : Int)) = ((x1 + (2 : Int)) + ((6 : Int) * (((x2 + (1 : Nat)) : Nat) : Int)))) := by subst_vars; lia
theorem q111 {x0 : Int} {x1 : Int} {x2 : Nat} {x3 : Nat} (h0 : (x0 = ((x1 + (2 : Int)) + ((6 : Int) * ((x2 : Nat) : Int))))) (h1 : ((((x0 + (2 : Int)) + (2 : Int)) + (2 : Int)) ≤ ((x3 : Nat) : Int))) : (((x1 + (2 : Int)) + ((6 : Int) * (((x2 + (1 : Nat)) : Nat) : Int))) ≤ ((x3 : Nat) : Int)) := by subst_vars; lia
theorem q114 {x0 : Int} {x1 : Int} {x2 : Nat} {x3 : Nat} (h0 : (x0 = ((x1 + (2 : Int)) + ((6 : Int) * ((x2 : Nat) : Int))))) (h1 : (((x0 + (2 : Int)) + (2 : Int)) ≤ ((x3 : Nat) : Int))) (h2 : (((x3 : Nat) : Int) < (((x0 + (2 : Int)) + (2 : Int)) + (2 : Int)))) : ((((x1 + (2 : Int)) + ((6 : Int) * ((x2 : Nat) : Int))) + (4 : Int)) ≤ ((x3 : Nat) : Int)) := by subst_vars; lia
theorem q116 {x0 : Int} {x1 : Int} {x2 : Nat} {x3 : Nat} (h0 : (x0 = ((x1 + (2 : Int)) + ((6 : Int) * ((x2 : Nat) : Int))))) (h1 : (((x0 + (2 : Int)) + (2 : Int)) ≤ ((x3 : Nat) : Int))) (h2 : (((x3 : Nat) : Int) < (((x0 + (2 : Int)) + (2 : Int)) + (2 : Int)))) : (((x3 : Nat) : Int) < (((x1 + (2 : Int)) + ((6 : Int) * ((x2 : Nat) : Int))) + (6 : Int))) := by subst_vars; lia
theorem q117 {x0 : Int} {x1 : Int} {x2 : Nat} (h0 : (x0 = ((x1 + (2 : Int)) + ((6 : Int) * ((x2 : Nat) : Int))))) : (((x0 + (2 : Int)) + (2 : Int)) = (((x1 + (2 : Int)) + ((6 : Int) * ((x2 : Nat) : Int))) + (4 : Int))) := by subst_vars; lia
theorem q118 {x0 : Int} {x1 : Int} {x2 : Nat} {x3 : Nat} (h0 : (x0 = ((x1 + (2 : Int)) + ((6 : Int) * ((x2 : Nat) : Int))))) (h1 : ((x0 + (2 : Int)) ≤ ((x3 : Nat) : Int))) (h2 : (((x3 : Nat) : Int) < ((x0 + (2 : Int)) + (2 : Int)))) : ((((x1 + (2 : Int)) + ((6 : Int) * ((x2 : Nat) : Int))) + (2 : Int)) ≤ ((x3 : Nat) : Int)) := by simp_all
theorem q119 {x0 : Int} {x1 : Int} {x2 : Nat} {x3 : Nat} (h0 : (x0 = ((x1 + (2 : Int)) + ((6 : Int) * ((x2 : Nat) : Int))))) (h1 : ((x0 + (2 : Int)) ≤ ((x3 : Nat) : Int))) (h2 : (((x3 : Nat) : Int) < ((x0 + (2 : Int)) + (2 : Int)))) : (((x3 : Nat) : Int) < (((x1 + (2 : Int)) + ((6 : Int) * ((x2 : Nat) : Int))) + (4 : Int))) := by subst_vars; lia
theorem q120 {x0 : Int} {x1 : Int} {x2 : Nat} {x3 : Nat} (h0 : (x0 = ((x1 + (2 : Int)) + ((6 : Int) * ((x2 : Nat) : Int))))) (h1 : (((x1 + (2 : Int)) + ((6 : Int) * ((x2 : Nat) : Int))) ≤ ((x3 : Nat) : Int))) (h2 : (((x3 : Nat) : Int) < (x0 + (2 : Int)))) : (((x3 : Nat) : Int) < (((x1 + (2 : Int)) + ((6 : Int) * ((x2 : Nat) : Int))) + (2 : Int))) := by simp_all
theorem q121 {x0 : Nat} (h0 : ((2 : Nat) ≤ x0)) : (¬ ((0 : Nat) ≥ x0)) := by lia
theorem q122 {x0 : Nat} (h0 : ((2 : Nat) ≤ x0)) : ((1 : Nat) ≤ x0) := Nat.le_of_lt h0
theorem q123  : ((1 : Nat) ≤ (1 : Nat)) := by constructor <;> omega
theorem q125 {x0 : Nat} {x1 : Nat} (h0 : (x0 ≤ (100000 : Nat))) (h1 : (x1 = x0)) : (x1 ≤ (16777216 : Nat)) := by subst_vars; lia
theorem q126 {x0 : Nat} {x1 : Nat} {x2 : Nat} (h0 : (x0 ≤ (100000 : Nat))) (h1 : (x1 = x0)) (h2 : (x2 = x1)) : (x1 ≤ (100000 : Nat)) := by subst_vars; omega
theorem q127 {x0 : Nat} {x1 : Nat} {x2 : Nat} (h0 : (x0 ≤ (100000 : Nat))) (h1 : (x1 = x0)) (h2 : (x2 = x1)) : (x1 ≤ (16777216 : Nat)) := by subst_vars; lia
theorem q128 {x0 : Nat} (h0 : (x0 ≤ (100000 : Nat))) : (x0 ≤ (16777216 : Nat)) := Nat.le_trans h0 (Nat.le_of_ble_eq_true rfl)
theorem q129 {x0 : Nat} {x1 : Nat} {x2 : Nat} (h0 : (x0 ≤ x1)) (h1 : (x2 = x0)) : (x0 ≤ (x1 + (1 : Nat))) := by constructor <;> omega
theorem q130 {x0 : Nat} {x1 : Nat} (h0 : (x0 ≤ x1)) (h1 : (x1 < (1 : Nat))) : (x0 = x1) := by simp_all
theorem q131 {x0 : Nat} (h0 : ((1 : Nat) ≤ x0)) : ((x0 - (1 : Nat)) ≤ x0) := by simp_all
theorem q132 {x0 : Nat} {x1 : Nat} (h0 : (x0 ≤ x1)) (h1 : (¬ (x0 < x1))) : (x0 = x1) := by subst_vars; lia
theorem q133 {x0 : Nat} {x1 : Nat} {x2 : Nat} (h0 : (x0 = x1)) (h1 : (x2 < x0)) : (x2 < x1) := by simp_all
theorem q134 {x0 : Nat} {x1 : Nat} {x2 : Nat} {x3 : Nat} (h0 : (x0 ≤ x1)) (h1 : (x1 < x2)) (h2 : (x2 = x3)) : (x0 < x2) := by lia
theorem q135 {x0 : Nat} {x1 : Nat} {x2 : Nat} {x3 : Nat} (h0 : (x0 ≤ x1)) (h1 : (x1 < x2)) (h2 : (x2 = x3)) : (x0 < x3) := by subst_vars; lia
theorem q136 {x0 : Nat} {x1 : Nat} {x2 : Nat} (h0 : (x0 < x1)) (h1 : (x1 = x2)) : (x0 < x2) := by simp_all
theorem q137 {x0 : Nat} {x1 : Nat} (h0 : (x0 ≤ x1)) (h1 : (¬ (x0 = x1))) : (x0 < x1) := by subst_vars; lia
theorem q138 {x0 : Nat} {x1 : Nat} {x2 : Nat} (h0 : (¬ (x0 < (64 : Nat)))) (h1 : (x1 ≤ ((x0 / (2 : Nat)) + (max x2 (x0 % (2 : Nat)))))) : (x1 ≤ (x0 + x2)) := by lia
theorem q139 {x0 : Int} {x1 : Int} (h0 : (x0 < x1)) : (¬ (x0 = x1)) := by subst_vars; lia
theorem q140 {x0 : Nat} {x1 : Nat} {x2 : Nat} (h0 : (x0 < (min x1 x2))) : (x0 < x1) := by grind
theorem q141 {x0 : Nat} {x1 : Nat} (h0 : (x0 ≤ (65536 : Nat))) (h1 : (x1 < x0)) : ((min x1 x0) ≤ (16777216 : Nat)) := by grind
theorem q142 {x0 : Nat} (h0 : (x0 ≤ (65536 : Nat))) : (x0 ≤ (100000 : Nat)) := Nat.le_trans h0 (Nat.le_of_ble_eq_true rfl)
theorem q143 {x0 : Nat} {x1 : Nat} {x2 : Int} (h0 : (x0 < x1)) : ((x2 + ((x0 : Nat) : Int)) < (x2 + ((x1 : Nat) : Int))) := by simp at *; omega
theorem q144 {x0 : Int} {x1 : Nat} (h0 : (((0 : Int) ≤ x0) ∧ (x0 ≤ (65535 : Int)))) : ((0 : Int) ≤ (x0 + ((x1 : Nat) : Int))) := by subst_vars; lia
theorem q145 {x0 : Int} {x1 : Int} {x2 : Nat} (h0 : ((x0 + x1) ≤ (65536 : Int))) (h1 : (x2 < (Int.toNat x1))) : ((x0 + ((x2 : Nat) : Int)) ≤ (65535 : Int)) := by simp at *; omega
theorem q146 {x0 : Int} (h0 : (((0 : Int) ≤ x0) ∧ (x0 ≤ (65535 : Int)))) : ((Int.toNat x0) ≤ (65536 : Nat)) := by simp at *; omega
theorem q147 {x0 : Int} {x1 : Int} {x2 : Int} (h0 : (x0 ≤ (65536 : Int))) (h1 : (((0 : Int) ≤ x1) ∧ ((x1 < x0) ∧ (((0 : Int) ≤ x2) ∧ (x2 ≤ (65535 : Int)))))) : (((0 : Int) ≤ x1) ∧ ((x1 ≤ (65535 : Int)) ∧ (((0 : Int) ≤ x2) ∧ (x2 ≤ (65535 : Int))))) := by grind
theorem q148 {x0 : Int} {x1 : Nat} (h0 : (x0 ≤ (65536 : Int))) (h1 : (((x1 : Nat) : Int) ≤ x0)) : (x1 ≤ (65536 : Nat)) := by subst_vars; lia
theorem q149 {x0 : Nat} (h0 : (x0 ≤ (550 : Nat))) : (x0 < (1000 : Nat)) := Nat.lt_of_le_of_lt h0 (Nat.le_of_ble_eq_true rfl)
theorem q150 {x0 : Nat} (h0 : (x0 ≤ (550 : Nat))) : ((x0 + (1 : Nat)) ≤ (570 : Nat)) := Nat.lt_of_le_of_lt h0 (Nat.le_of_ble_eq_true rfl)
theorem q151 {x0 : Nat} (h0 : (x0 ≤ (6500 : Nat))) : ((x0 + (3 : Nat)) ≤ (6700 : Nat)) := Nat.le_trans (Nat.add_le_add_right h0 _) (Nat.le_of_ble_eq_true rfl)
theorem q152 {x0 : Nat} (h0 : (x0 ≤ (900 : Nat))) : (x0 ≤ (100000 : Nat)) := Nat.le_trans h0 (Nat.le_of_ble_eq_true rfl)
theorem q153 {x0 : Int} (h0 : ((0 : Int) ≤ x0)) (h1 : (x0 ≤ (900 : Int))) : (x0 ≤ (200000 : Int)) := Int.le_trans h1 (by decide)
theorem q154 {x0 : Nat} (h0 : (x0 ≤ (550 : Nat))) : ((x0 + (1 : Nat)) ≤ (560 : Nat)) := Nat.lt_of_le_of_lt h0 (Nat.le_of_ble_eq_true rfl)
theorem q155 {x0 : Nat} (h0 : (x0 ≤ (6500 : Nat))) : ((x0 + (3 : Nat)) ≤ (6600 : Nat)) := Nat.le_trans (Nat.add_le_add_right h0 _) (Nat.le_of_ble_eq_true rfl)
theorem q156 {x0 : Nat} (h0 : (x0 ≤ (900 : Nat))) : (x0 ≤ (1000 : Nat)) := Nat.le_trans h0 (Nat.le_of_ble_eq_true rfl)
theorem q157 {x0 : Int} (h0 : ((0 : Int) ≤ x0)) (h1 : (x0 ≤ (900 : Int))) : ((0 : Int) ≤ (x0 + (2 : Int))) := Int.add_nonneg h0 (by decide)
theorem q158 {x0 : Int} (h0 : ((0 : Int) ≤ x0)) (h1 : (x0 ≤ (900 : Int))) : ((x0 + (2 : Int)) ≤ (1000 : Int)) := by lia
theorem q159 {x0 : Nat} (h0 : (x0 ≤ (550 : Nat))) : (x0 ≤ (680 : Nat)) := Nat.le_trans h0 (Nat.le_of_ble_eq_true rfl)
theorem q160 {x0 : Nat} (h0 : (x0 ≤ (6500 : Nat))) : (x0 ≤ (7800 : Nat)) := Nat.le_trans h0 (Nat.le_of_ble_eq_true rfl)
theorem q161 {x0 : Int} {x1 : Nat} : (x0 ≤ (x0 + ((x1 : Nat) : Int))) := by lia
theorem q162 {x0 : Int} {x1 : Int} {x2 : Int} {x3 : Nat} (h0 : ((x0 ≤ x1) ∧ (x1 ≤ x2))) (h1 : (x3 < (Int.toNat ((x2 + (1 : Int)) - x1)))) : ((x1 + ((x3 : Nat) : Int)) ≤ x2) := by simp at *; omega
theorem q164 {x0 : Int} {x1 : Int} {x2 : Int} {x3 : Int} {x4 : Int} (h0 : ((x0 ≤ x1) ∧ (x1 ≤ x2))) (h1 : (((0 : Int) ≤ x3) ∧ ((x3 < x0) ∧ (((0 : Int) ≤ x4) ∧ (x4 ≤ (65535 : Int)))))) : (x3 < (x2 + (1 : Int))) := by omega
theorem q165 {x0 : Int} {x1 : Int} {x2 : Int} {x3 : Int} {x4 : Int} (h0 : ((x0 ≤ x1) ∧ ((x1 ≤ x2) ∧ (x3 = x4)))) (h1 : ((0 : Int) ≤ x0)) : ((0 : Int) ≤ x1) := by subst_vars; lia
theorem q166 {x0 : Int} {x1 : Int} {x2 : Int} {x3 : Int} {x4 : Int} (h0 : ((x0 ≤ x1) ∧ ((x1 ≤ x2) ∧ (x3 = x4)))) : (x1 < (x2 + (1 : Int))) := by lia
theorem q167 {x0 : Int} {x1 : Int} (h0 : ((0 : Int) ≤ x0)) (h1 : (x0 ≤ (1000 : Int))) (h2 : (x1 ≤ (1000 : Int))) : ((((Int.toNat (((x1 + (1 : Int)) - x0) / (2 : Int))) : Nat) : Int) ≤ (1001 : Int)) := by grind
theorem q168 {x0 : Int} {x1 : Int} (h0 : ((0 : Int) ≤ x0)) (h1 : (x0 ≤ (1000 : Int))) (h2 : (x0 ≤ (x1 + (1 : Int)))) (h3 : (x1 ≤ (1000 : Int))) (h4 : ((((Int.toNat (((x1 + (1 : Int)) - x0) / (2 : Int))) : Nat) : Int) ≤ (1001 : Int))) : (((((((-((2 : Int) ^ (63 : Nat))) ≤ x0) ∧ (x0 < ((2 : Int) ^ (63 : Nat)))) ∧ (((-((2 : Int) ^ (63 : Nat))) ≤ x1) ∧ (x1 < ((2 : Int) ^ (63 : Nat))))) ∧ (((-((2 : Int) ^ (63 : Nat))) ≤ (2 : Int)) ∧ ((2 : Int) < ((2 : Int) ^ (63 : Nat))))) ∧ (((-((2 : Int) ^ (63 : Nat))) ≤ (((Int.toNat (((x1 + (1 : Int)) - x0) / (2 : Int))) : Nat) : Int)) ∧ ((((Int.toNat (((x1 + (1 : Int)) - x0) / (2 : Int))) : Nat) : Int) < ((2 : Int) ^ (63 : Nat))))) ∧ (((((Int.toNat (((x1 + (1 : Int)) - x0) / (2 : Int))) : Nat) : Int) = (0 : Int)) ∨ (((-((2 : Int) ^ (63 : Nat))) ≤ (x1 + ((2 : Int) - (1 : Int)))) ∧ ((x1 + ((2 : Int) - (1 : Int))) < ((2 : Int) ^ (63 : Nat)))))) := by grind
theorem q169 {x0 : Int} {x1 : Int} (h0 : (x0 < x1)) : (((((x1 - x0) - (1 : Int)) / (2 : Int)) + (1 : Int)) = (((Int.toNat (((x1 + (1 : Int)) - x0) / (2 : Int))) : Nat) : Int)) := by lia
theorem q170 {x0 : Int} {x1 : Int} (h0 : (x0 ≤ (x1 + (1 : Int)))) (h1 : (¬ (x0 < x1))) : ((0 : Int) = (((Int.toNat (((x1 + (1 : Int)) - x0) / (2 : Int))) : Nat) : Int)) := by lia
theorem q171 {x0 : Int} {x1 : Int} {x2 : Int} {x3 : Int} {x4 : Nat} (h0 : (x0 ≤ x1)) (h1 : (((0 : Int) ≤ x2) ∧ ((x2 < x0) ∧ (((0 : Int) ≤ x3) ∧ (x3 ≤ (65535 : Int)))))) : (¬ (x2 = (x1 + ((x4 : Nat) : Int)))) := by omega
theorem q172 {x0 : Nat} {x1 : Nat} {x2 : Int} (h0 : (x0 < x1)) : (¬ ((x2 + ((x0 : Nat) : Int)) = (x2 + ((x1 : Nat) : Int)))) := by grind
theorem q173 {x0 : Nat} {x1 : Int} : ((((((x0 : Nat) : Int) - (1 : Int)) + (1 : Int)) - x1) = (((x0 : Nat) : Int) - x1)) := by simp_all
theorem q174 {x0 : Nat} {x1 : Int} (h0 : (x0 ≤ (900 : Nat))) (h1 : (x1 ≤ ((x0 : Nat) : Int))) : (x1 ≤ (1000 : Int)) := by subst_vars; lia
theorem q175 {x0 : Int} {x1 : Nat} (h0 : (x0 ≤ ((x1 : Nat) : Int))) : (x0 ≤ ((((x1 : Nat) : Int) - (1 : Int)) + (1 : Int))) := by simp at *; omega
theorem q176 {x0 : Nat} (h0 : (x0 ≤ (900 : Nat))) : ((((x0 : Nat) : Int) - (1 : Int)) ≤ (1000 : Int)) := by lia
theorem q177 {x0 : Nat} {x1 : Nat} {x2 : Int} (h0 : (x0 = x1)) : ((Int.toNat (x2 + ((2 : Int) * ((x1 : Nat) : Int)))) = (Int.toNat (x2 + (((x1 : Nat) : Int) * (2 : Int))))) := by subst_vars; lia
theorem q178 {x0 : Nat} {x1 : Int} {x2 : Nat} {x3 : Nat} (h0 : (x0 ≤ (900 : Nat))) (h1 : ((0 : Int) ≤ x1)) (h2 : (x1 ≤ ((x0 : Nat) : Int))) (h3 : (x2 = x3)) : ((Int.toNat ((x1 + (((x3 : Nat) : Int) * (2 : Int))) + (1 : Int))) = ((Int.toNat (x1 + (((x3 : Nat) : Int) * (2 : Int)))) + (1 : Nat))) := by lia
theorem q180 {x0 : Nat} {x1 : Int} {x2 : Nat} (h0 : ((Int.toNat ((((x0 : Nat) : Int) - x1) / (2 : Int))) = x2)) (h1 : ((0 : Nat) = x2)) : (((x0 : Nat) : Int) < (x1 + (2 : Int))) := by lia
theorem q181 {x0 : Nat} {x1 : Int} {x2 : Nat} {x3 : Nat} (h0 : ((Int.toNat ((((x0 : Nat) : Int) - x1) / (2 : Int))) = x2)) (h1 : (x3 = x2)) (h2 : ((0 : Nat) < x3)) : ((x1 + ((2 : Int) * ((x2 : Nat) : Int))) ≤ ((x0 : Nat) : Int)) := by subst_vars; lia
theorem q182 {x0 : Nat} {x1 : Int} {x2 : Nat} {x3 : Nat} (h0 : ((Int.toNat ((((x0 : Nat) : Int) - x1) / (2 : Int))) = x2)) (h1 : (x3 = x2)) (h2 : ((0 : Nat) < x3)) : (((x0 : Nat) : Int) < ((x1 + ((2 : Int) * ((x2 : Nat) : Int))) + (2 : Int))) := by lia
theorem q183 {x0 : Nat} {x1 : Nat} (h0 : (x0 = x1)) (h1 : ((0 : Nat) < x0)) : ((0 : Nat) < x1) := by simp_all
theorem q184 {x0 : Int} : ((x0 + ((2 : Int) * (((2 : Nat) : Nat) : Int))) = ((x0 + (2 : Int)) + (2 : Int))) := by grind
theorem q185 {x0 : Int} {x1 : Nat} {x2 : Nat} {x3 : Nat} (h0 : (x0 ≤ ((x1 : Nat) : Int))) (h1 : (x2 = x3)) (h2 : ((0 : Nat) < x2)) (h3 : ((x0 + ((2 : Int) * ((x3 : Nat) : Int))) ≤ ((x1 : Nat) : Int))) (h4 : (((x1 : Nat) : Int) < ((x0 + ((2 : Int) * ((x3 : Nat) : Int))) + (2 : Int)))) (h5 : (((x2 : Nat) : Int) < (3 : Int))) : ((x0 + (2 : Int)) ≤ ((x1 : Nat) : Int)) := by subst_vars; lia
theorem q187 {x0 : Nat} {x1 : Nat} {x2 : Int} (h0 : (x0 = x1)) (h1 : (x1 = (1 : Nat))) : ((x2 + ((2 : Int) * ((x0 : Nat) : Int))) = (x2 + (2 : Int))) := by simp_all
theorem q188 {x0 : Int} {x1 : Nat} {x2 : Nat} {x3 : Nat} (h0 : (x0 ≤ ((x1 : Nat) : Int))) (h1 : (x2 = x3)) (h2 : ((0 : Nat) < x2)) (h3 : ((x0 + ((2 : Int) * ((x3 : Nat) : Int))) ≤ ((x1 : Nat) : Int))) (h4 : (((x1 : Nat) : Int) < ((x0 + ((2 : Int) * ((x3 : Nat) : Int))) + (2 : Int)))) (h5 : (((x2 : Nat) : Int) < (3 : Int))) (h6 : (¬ (x3 = (1 : Nat)))) : (((x0 + (2 : Int)) + (2 : Int)) ≤ ((x1 : Nat) : Int)) := by subst_vars; lia
theorem q189 {x0 : Nat} {x1 : Nat} {x2 : Int} {x3 : Nat} (h0 : (x0 = x1)) (h1 : ((0 : Nat) < x0)) (h2 : ((x2 + ((2 : Int) * ((x1 : Nat) : Int))) ≤ ((x3 : Nat) : Int))) (h3 : (((x3 : Nat) : Int) < ((x2 + ((2 : Int) * ((x1 : Nat) : Int))) + (2 : Int)))) (h4 : (((x0 : Nat) : Int) < (3 : Int))) : (((x3 : Nat) : Int) < ((x2 + (2 : Int)) + (4 : Int))) := by subst_vars; lia
theorem q190 {x0 : Nat} {x1 : Nat} {x2 : Int} (h0 : (x0 = x1)) (h1 : ((0 : Nat) < x0)) (h2 : (((x0 : Nat) : Int) < (3 : Int))) (h3 : (¬ (x1 = (1 : Nat)))) : ((x2 + ((2 : Int) * ((x0 : Nat) : Int))) = ((x2 + (2 : Int)) + (2 : Int))) := by grind
theorem q191 {x0 : Int} {x1 : Nat} {x2 : Nat} {x3 : Nat} (h0 : (x0 ≤ ((x1 : Nat) : Int))) (h1 : (x2 = x3)) (h2 : ((x0 + ((2 : Int) * ((x3 : Nat) : Int))) ≤ ((x1 : Nat) : Int))) (h3 : (((x1 : Nat) : Int) < ((x0 + ((2 : Int) * ((x3 : Nat) : Int))) + (2 : Int)))) (h4 : (¬ (((x2 : Nat) : Int) < (3 : Int)))) : ((x0 + (2 : Int)) ≤ ((x1 : Nat) : Int)) := by subst_vars; lia
theorem q192 {x0 : Int} {x1 : Nat} {x2 : Nat} {x3 : Nat} (h0 : (x0 ≤ ((x1 : Nat) : Int))) (h1 : (x2 = x3)) (h2 : ((x0 + ((2 : Int) * ((x3 : Nat) : Int))) ≤ ((x1 : Nat) : Int))) (h3 : (((x1 : Nat) : Int) < ((x0 + ((2 : Int) * ((x3 : Nat) : Int))) + (2 : Int)))) (h4 : (¬ (((x2 : Nat) : Int) < (3 : Int)))) : (((x0 + (2 : Int)) + (4 : Int)) ≤ ((x1 : Nat) : Int)) := by subst_vars; lia
theorem q193 {x0 : Nat} {x1 : Nat} (h0 : (x0 = x1)) (h1 : (¬ (((x0 : Nat) : Int) < (3 : Int)))) : ((2 : Nat) < x1) := by subst_vars; omega
theorem q194 {x0 : Nat} {x1 : Nat} (h0 : (x0 = x1)) (h1 : (¬ (((x0 : Nat) : Int) < (3 : Int)))) : ((1 : Nat) < x1) := by subst_vars; omega
theorem q195 {x0 : Int} : ((x0 + (4 : Int)) = ((x0 + (2 : Int)) + (2 : Int))) := by lia
theorem q196 {x0 : Int} {x1 : Int} (h0 : (¬ ((65536 : Int) < (x0 + x1)))) : ((x0 + x1) ≤ (65536 : Int)) := by simp at *; omega
theorem q197 {x0 : Nat} {x1 : Nat} {x2 : Int} (h0 : (x0 = x1)) (h1 : (¬ (((x0 : Nat) : Int) < (3 : Int)))) (h2 : ((((x0 : Nat) : Int) - (3 : Int)) < x2)) : ((((x1 - (3 : Nat)) : Nat) : Int) < x2) := by subst_vars; omega
theorem q198 {x0 : Nat} {x1 : Nat} {x2 : Int} {x3 : Nat} (h0 : (x0 = x1)) (h1 : ((x2 + ((2 : Int) * ((x1 : Nat) : Int))) ≤ ((x3 : Nat) : Int))) (h2 : (((x3 : Nat) : Int) < ((x2 + ((2 : Int) * ((x1 : Nat) : Int))) + (2 : Int)))) (h3 : (¬ (((x0 : Nat) : Int) < (3 : Int)))) : ((((x2 + (2 : Int)) + (4 : Int)) + ((2 : Int) * (((x1 - (3 : Nat)) : Nat) : Int))) ≤ ((x3 : Nat) : Int)) := by lia
theorem q199 {x0 : Nat} {x1 : Nat} {x2 : Int} {x3 : Nat} (h0 : (x0 = x1)) (h1 : ((x2 + ((2 : Int) * ((x1 : Nat) : Int))) ≤ ((x3 : Nat) : Int))) (h2 : (((x3 : Nat) : Int) < ((x2 + ((2 : Int) * ((x1 : Nat) : Int))) + (2 : Int)))) (h3 : (¬ (((x0 : Nat) : Int) < (3 : Int)))) : (((x3 : Nat) : Int) < ((((x2 + (2 : Int)) + (4 : Int)) + ((2 : Int) * (((x1 - (3 : Nat)) : Nat) : Int))) + (2 : Int))) := by lia
theorem q200 {x0 : Nat} {x1 : Nat} {x2 : Int} (h0 : (x0 = x1)) (h1 : (¬ (((x0 : Nat) : Int) < (3 : Int)))) : ((x2 + ((2 : Int) * ((x0 : Nat) : Int))) = (((x2 + (2 : Int)) + (4 : Int)) + ((2 : Int) * (((x1 - (3 : Nat)) : Nat) : Int)))) := by subst_vars; lia
theorem q201 {x0 : Int} (h0 : (((0 : Int) ≤ x0) ∧ (x0 ≤ (65535 : Int)))) : ((-((2 : Int) ^ (62 : Nat))) ≤ x0) := by subst_vars; lia
theorem q202 {x0 : Int} (h0 : (((0 : Int) ≤ x0) ∧ (x0 ≤ (65535 : Int)))) : (x0 < ((2 : Int) ^ (62 : Nat))) := by simp at *; omega
theorem q203 {x0 : Int} {x1 : Nat} : ((x0 + ((0 : Int) + ((x1 : Nat) : Int))) = (x0 + ((x1 : Nat) : Int))) := by simp_all
theorem q204 {x0 : Nat} : ((Int.toNat ((3 : Int) + ((0 : Int) + ((x0 : Nat) : Int)))) = ((3 : Nat) + x0)) := by grind
theorem q205 {x0 : Nat} {x1 : Nat} {x2 : Int} {x3 : Nat} (h0 : (x0 = x1)) (h1 : (¬ ((((x0 : Nat) : Int) - (3 : Int)) < x2))) (h2 : (x3 < (Int.toNat x2))) : (((3 : Nat) + x3) < x1) := by simp at *; omega
theorem q206 {x0 : Int} {x1 : Nat} : ((x0 + ((2 : Int) * ((((3 : Nat) + x1) : Nat) : Int))) = (((x0 + (2 : Int)) + (4 : Int)) + ((2 : Int) * ((x1 : Nat) : Int)))) := by subst_vars; lia
theorem q209 {x0 : Int} {x1 : Int} (h0 : (x0 = x1)) (h1 : (x0 ≠ (1 : Int))) (h2 : (((1 : Int) = x0) ∨ ((2 : Int) = x0))) : (x0 = (2 : Int)) := by lia
theorem q210 {x0 : Int} {x1 : Nat} {x2 : Nat} {x3 : Nat} (h0 : (x0 ≤ ((x1 : Nat) : Int))) (h1 : (x2 = x3)) (h2 : ((0 : Nat) < x2)) (h3 : ((x0 + ((2 : Int) * ((x3 : Nat) : Int))) ≤ ((x1 : Nat) : Int))) (h4 : (((x1 : Nat) : Int) < ((x0 + ((2 : Int) * ((x3 : Nat) : Int))) + (2 : Int)))) (h5 : (((x2 : Nat) : Int) < (2 : Int))) : ((x0 + (2 : Int)) ≤ ((x1 : Nat) : Int)) := by subst_vars; lia
theorem q211 {x0 : Nat} {x1 : Nat} {x2 : Int} {x3 : Nat} (h0 : (x0 = x1)) (h1 : ((0 : Nat) < x0)) (h2 : ((x2 + ((2 : Int) * ((x1 : Nat) : Int))) ≤ ((x3 : Nat) : Int))) (h3 : (((x3 : Nat) : Int) < ((x2 + ((2 : Int) * ((x1 : Nat) : Int))) + (2 : Int)))) (h4 : (((x0 : Nat) : Int) < (2 : Int))) : (((x3 : Nat) : Int) < ((x2 + (2 : Int)) + (2 : Int))) := by subst_vars; lia
theorem q213 {x0 : Int} {x1 : Nat} (h0 : (((0 : Int) ≤ x0) ∧ (x0 ≤ (65535 : Int)))) (h1 : (x1 < (Int.toNat x0))) : (((x1 : Nat) : Int) < x0) := by simp at *; omega
theorem q214 {x0 : Nat} {x1 : Nat} (h0 : (x0 = x1)) (h1 : (¬ (((x0 : Nat) : Int) < (2 : Int)))) : ((1 : Nat) < x1) := by subst_vars; omega
theorem q215 {x0 : Int} {x1 : Nat} (h0 : (((x0 + (2 : Int)) + (2 : Int)) ≤ ((x1 : Nat) : Int))) : ((((x0 + (2 : Int)) + (2 : Int)) + ((6 : Int) * (((0 : Nat) : Nat) : Int))) ≤ ((x1 : Nat) : Int)) := by simp at *; omega
theorem q216 {x0 : Nat} : ((Int.toNat ((2 : Int) + ((3 : Int) * ((0 : Int) + ((x0 : Nat) : Int))))) = ((2 : Nat) + ((3 : Nat) * x0))) := by subst_vars; lia
theorem q217 {x0 : Int} {x1 : Nat} : ((x0 + ((2 : Int) * ((((2 : Nat) + ((3 : Nat) * x1)) : Nat) : Int))) = (((x0 + (2 : Int)) + (2 : Int)) + ((6 : Int) * ((x1 : Nat) : Int)))) := by subst_vars; lia
theorem q218 {x0 : Nat} : ((Int.toNat (((2 : Int) + ((3 : Int) * ((0 : Int) + ((x0 : Nat) : Int)))) + (1 : Int))) = (((2 : Nat) + ((3 : Nat) * x0)) + (1 : Nat))) := by grind
theorem q219 {x0 : Int} {x1 : Nat} : ((x0 + ((2 : Int) * (((((2 : Nat) + ((3 : Nat) * x1)) + (1 : Nat)) : Nat) : Int))) = ((((x0 + (2 : Int)) + (2 : Int)) + ((6 : Int) * ((x1 : Nat) : Int))) + (2 : Int))) := by subst_vars; lia
theorem q220 {x0 : Nat} : ((Int.toNat (((2 : Int) + ((3 : Int) * ((0 : Int) + ((x0 : Nat) : Int)))) + (2 : Int))) = (((2 : Nat) + ((3 : Nat) * x0)) + (2 : Nat))) := by grind
theorem q221 {x0 : Int} {x1 : Nat} : ((x0 + ((2 : Int) * (((((2 : Nat) + ((3 : Nat) * x1)) + (2 : Nat)) : Nat) : Int))) = ((((x0 + (2 : Int)) + (2 : Int)) + ((6 : Int) * ((x1 : Nat) : Int))) + (4 : Int))) := by lia
theorem q222 {x0 : Int} {x1 : Nat} (h0 : (((x0 + (2 : Int)) + (2 : Int)) ≤ ((x1 : Nat) : Int))) : ((x0 + (2 : Int)) ≤ ((x1 : Nat) : Int)) := by lia
theorem q224 {x0 : Int} {x1 : Nat} : ((x0 + ((2 : Int) * ((2 : Int) + ((3 : Int) * ((0 : Int) + ((x1 : Nat) : Int)))))) = (((x0 + (2 : Int)) + (2 : Int)) + ((6 : Int) * ((x1 : Nat) : Int)))) := by lia
theorem q226 {x0 : Int} {x1 : Int} {x2 : Int} (h0 : (x0 = x1)) (h1 : (x2 < x0)) : (x2 < x1) := by simp_all
theorem q227 {x0 : Nat} {x1 : Nat} {x2 : Nat} (h0 : (x0 = x1)) (h1 : (¬ (((x0 : Nat) : Int) ≤ ((2 : Int) + ((3 : Int) * ((0 : Int) + ((x2 : Nat) : Int))))))) : (((2 : Nat) + ((3 : Nat) * x2)) < x1) := by subst_vars; lia
theorem q229 {x0 : Int} {x1 : Int} {x2 : Int} (h0 : (x0 = x1)) (h1 : (¬ (x2 < x0))) : (x1 ≤ x2) := by simp_all
theorem q230 {x0 : Nat} {x1 : Nat} {x2 : Nat} (h0 : (x0 = x1)) (h1 : (¬ (((x0 : Nat) : Int) ≤ ((2 : Int) + ((3 : Int) * ((0 : Int) + ((x2 : Nat) : Int))))))) (h2 : (((x0 : Nat) : Int) ≤ (((2 : Int) + ((3 : Int) * ((0 : Int) + ((x2 : Nat) : Int)))) + (1 : Int)))) : (((2 : Nat) + ((3 : Nat) * x2)) < x1) := by lia
theorem q232 {x0 : Int} {x1 : Nat} : (((x0 + ((2 : Int) * ((2 : Int) + ((3 : Int) * ((0 : Int) + ((x1 : Nat) : Int)))))) + (2 : Int)) = ((((x0 + (2 : Int)) + (2 : Int)) + ((6 : Int) * ((x1 : Nat) : Int))) + (2 : Int))) := by lia
theorem q234 {x0 : Nat} {x1 : Nat} {x2 : Nat} (h0 : (x0 = x1)) (h1 : (¬ (((x0 : Nat) : Int) ≤ (((2 : Int) + ((3 : Int) * ((0 : Int) + ((x2 : Nat) : Int)))) + (1 : Int))))) : (((2 : Nat) + ((3 : Nat) * x2)) < x1) := by lia
theorem q235 {x0 : Nat} {x1 : Nat} {x2 : Nat} (h0 : (x0 = x1)) (h1 : (¬ (((x0 : Nat) : Int) ≤ (((2 : Int) + ((3 : Int) * ((0 : Int) + ((x2 : Nat) : Int)))) + (1 : Int))))) : ((((2 : Nat) + ((3 : Nat) * x2)) + (1 : Nat)) < x1) := by lia
theorem q237 {x0 : Nat} {x1 : Nat} {x2 : Nat} (h0 : (x0 = x1)) (h1 : (¬ (((x0 : Nat) : Int) ≤ (((2 : Int) + ((3 : Int) * ((0 : Int) + ((x2 : Nat) : Int)))) + (1 : Int))))) (h2 : (((x0 : Nat) : Int) ≤ (((2 : Int) + ((3 : Int) * ((0 : Int) + ((x2 : Nat) : Int)))) + (2 : Int)))) : (((2 : Nat) + ((3 : Nat) * x2)) < x1) := by grind
theorem q238 {x0 : Int} {x1 : Int} (h0 : (¬ (x0 < x1))) : (x1 ≤ x0) := by simp at *; omega
theorem q239 {x0 : Nat} {x1 : Nat} {x2 : Nat} (h0 : (x0 = x1)) (h1 : (¬ (((x0 : Nat) : Int) ≤ (((2 : Int) + ((3 : Int) * ((0 : Int) + ((x2 : Nat) : Int)))) + (1 : Int))))) (h2 : (((x0 : Nat) : Int) ≤ (((2 : Int) + ((3 : Int) * ((0 : Int) + ((x2 : Nat) : Int)))) + (2 : Int)))) : ((((2 : Nat) + ((3 : Nat) * x2)) + (1 : Nat)) < x1) := by lia
theorem q241 {x0 : Int} {x1 : Nat} : (((x0 + ((2 : Int) * ((2 : Int) + ((3 : Int) * ((0 : Int) + ((x1 : Nat) : Int)))))) + (4 : Int)) = ((((x0 + (2 : Int)) + (2 : Int)) + ((6 : Int) * ((x1 : Nat) : Int))) + (4 : Int))) := by grind
theorem q242 {x0 : Nat} {x1 : Nat} {x2 : Nat} (h0 : (x0 = x1)) (h1 : (¬ (((x0 : Nat) : Int) ≤ (((2 : Int) + ((3 : Int) * ((0 : Int) + ((x2 : Nat) : Int)))) + (2 : Int))))) : ((((2 : Nat) + ((3 : Nat) * x2)) + (1 : Nat)) < x1) := by lia
theorem q243 {x0 : Nat} {x1 : Nat} {x2 : Nat} (h0 : (x0 = x1)) (h1 : (¬ (((x0 : Nat) : Int) ≤ (((2 : Int) + ((3 : Int) * ((0 : Int) + ((x2 : Nat) : Int)))) + (2 : Int))))) : (((2 : Nat) + ((3 : Nat) * x2)) < x1) := by lia
theorem q244 {x0 : Int} (h0 : (((0 : Int) ≤ x0) ∧ (x0 ≤ (65535 : Int)))) : ((-((2 : Int) ^ (62 : Nat))) ≤ (x0 + (1 : Int))) := by subst_vars; lia
theorem q245 {x0 : Int} (h0 : (((0 : Int) ≤ x0) ∧ (x0 ≤ (65535 : Int)))) : ((x0 + (1 : Int)) < ((2 : Int) ^ (62 : Nat))) := by lia
theorem q246 {x0 : Int} {x1 : Int} {x2 : Int} {x3 : Int} {x4 : Nat} {x5 : Nat} (h0 : (x0 = x1)) (h1 : (¬ (x2 < x0))) (h2 : (¬ (x3 < x2))) (h3 : (((0 : Int) ≤ x3) ∧ (x3 ≤ (65535 : Int)))) (h4 : (x4 < (Int.toNat ((x3 + (1 : Int)) - x2)))) (h5 : (((x5 : Nat) : Int) ≤ x1)) : ((x5 + x4) ≤ (16777216 : Nat)) := by simp at *; omega
theorem q247 {x0 : Nat} {x1 : Nat} {x2 : Nat} (h0 : (x0 = x1)) (h1 : (¬ (((x0 : Nat) : Int) ≤ (((2 : Int) + ((3 : Int) * ((0 : Int) + ((x2 : Nat) : Int)))) + (2 : Int))))) : ((((2 : Nat) + ((3 : Nat) * x2)) + (2 : Nat)) < x1) := by lia
theorem q249 {x0 : Int} {x1 : Nat} {x2 : Nat} {x3 : Nat} (h0 : (x0 ≤ ((x1 : Nat) : Int))) (h1 : (x2 = x3)) (h2 : ((0 : Nat) < x2)) (h3 : ((x0 + ((2 : Int) * ((x3 : Nat) : Int))) ≤ ((x1 : Nat) : Int))) (h4 : (((x1 : Nat) : Int) < ((x0 + ((2 : Int) * ((x3 : Nat) : Int))) + (2 : Int)))) : ((x0 + (2 : Int)) ≤ ((x1 : Nat) : Int)) := by subst_vars; lia
theorem q250 {x0 : Nat} {x1 : Nat} {x2 : Int} {x3 : Nat} {x4 : Int} (h0 : (x0 < x1)) (h1 : (((x2 + (2 : Int)) + ((6 : Int) * ((x1 : Nat) : Int))) ≤ ((x3 : Nat) : Int))) (h2 : ((((x3 : Nat) : Int) < (((x2 + (2 : Int)) + ((6 : Int) * ((x0 : Nat) : Int))) + (2 : Int))) ∧ (x4 = ((x2 + (2 : Int)) + ((6 : Int) * ((x0 : Nat) : Int)))))) : False := by subst_vars; lia
theorem q251 {x0 : Int} {x1 : Int} {x2 : Int} {x3 : Int} {x4 : Nat} {x5 : Nat} {x6 : Int} (h0 : ((x0 ≤ x1) ∧ (x1 ≤ x2))) (h1 : (((((x3 + (2 : Int)) + ((6 : Int) * ((x4 : Nat) : Int))) + (2 : Int)) ≤ ((x5 : Nat) : Int)) ∧ ((x1 < x0) ∧ (x6 = ((x3 + (2 : Int)) + ((6 : Int) * ((x4 : Nat) : Int))))))) : False := by subst_vars; omega
theorem q252 {x0 : Nat} {x1 : Nat} {x2 : Int} {x3 : Nat} {x4 : Int} {x5 : Int} {x6 : Int} (h0 : (x0 < x1)) (h1 : (((x2 + (2 : Int)) + ((6 : Int) * ((x1 : Nat) : Int))) ≤ ((x3 : Nat) : Int))) (h2 : (((((x2 + (2 : Int)) + ((6 : Int) * ((x0 : Nat) : Int))) + (2 : Int)) ≤ ((x3 : Nat) : Int)) ∧ ((x4 ≤ x5) ∧ ((((x3 : Nat) : Int) < (((x2 + (2 : Int)) + ((6 : Int) * ((x0 : Nat) : Int))) + (4 : Int))) ∧ (x6 = (((x2 + (2 : Int)) + ((6 : Int) * ((x0 : Nat) : Int))) + (2 : Int))))))) : False := by grind
theorem q253 {x0 : Int} {x1 : Int} {x2 : Int} {x3 : Int} {x4 : Nat} {x5 : Nat} {x6 : Int} (h0 : ((x0 ≤ x1) ∧ (x1 ≤ x2))) (h1 : (((((x3 + (2 : Int)) + ((6 : Int) * ((x4 : Nat) : Int))) + (4 : Int)) ≤ ((x5 : Nat) : Int)) ∧ ((x0 ≤ x1) ∧ ((x2 < x1) ∧ (x6 = (((x3 + (2 : Int)) + ((6 : Int) * ((x4 : Nat) : Int))) + (2 : Int))))))) : False := by omega
theorem q254 {x0 : Nat} {x1 : Nat} {x2 : Int} {x3 : Nat} {x4 : Int} {x5 : Int} {x6 : Int} {x7 : Int} (h0 : (x0 < x1)) (h1 : (((x2 + (2 : Int)) + ((6 : Int) * ((x1 : Nat) : Int))) ≤ ((x3 : Nat) : Int))) (h2 : (((((x2 + (2 : Int)) + ((6 : Int) * ((x0 : Nat) : Int))) + (4 : Int)) ≤ ((x3 : Nat) : Int)) ∧ ((x4 ≤ x5) ∧ ((x5 ≤ x6) ∧ ((((x3 : Nat) : Int) < (((x2 + (2 : Int)) + ((6 : Int) * ((x0 : Nat) : Int))) + (6 : Int))) ∧ (x7 = (((x2 + (2 : Int)) + ((6 : Int) * ((x0 : Nat) : Int))) + (4 : Int)))))))) : False := by lia
theorem q255 {x0 : Nat} {x1 : Int} {x2 : Int} {x3 : Int} (h0 : ((((x0 : Nat) : Int) < (x1 + (2 : Int))) ∧ (x2 = x1))) (h1 : ((((x0 : Nat) : Int) < (x1 + (2 : Int))) ∧ (x3 = x1))) : (x2 = x3) := by simp_all
theorem q304 {x0 : Int} {x1 : Int} {x2 : Nat} {x3 : Int} {x4 : Int} (h0 : (x0 = (1 : Int))) (h1 : (((x1 + (2 : Int)) ≤ ((x2 : Nat) : Int)) ∧ ((x0 ≠ (1 : Int)) ∧ ((x0 ≠ (2 : Int)) ∧ (x3 = x1))))) : (x4 = x3) := by simp_all
theorem q305 {x0 : Int} {x1 : Int} {x2 : Nat} {x3 : Int} {x4 : Int} (h0 : (x0 = (2 : Int))) (h1 : (((x1 + (2 : Int)) ≤ ((x2 : Nat) : Int)) ∧ ((x0 ≠ (1 : Int)) ∧ ((x0 ≠ (2 : Int)) ∧ (x3 = x1))))) : (x4 = x3) := by simp_all
theorem q307 {x0 : Int} {x1 : Nat} {x2 : Int} {x3 : Int} {x4 : Int} (h0 : (((x0 + (2 : Int)) ≤ ((x1 : Nat) : Int)) ∧ ((x2 ≠ (1 : Int)) ∧ ((x2 ≠ (2 : Int)) ∧ (x3 = x0))))) (h1 : (x2 = (1 : Int))) : (x3 = x4) := by simp_all
theorem q308 {x0 : Int} {x1 : Nat} {x2 : Int} {x3 : Int} {x4 : Int} (h0 : (((x0 + (2 : Int)) ≤ ((x1 : Nat) : Int)) ∧ ((x2 ≠ (1 : Int)) ∧ ((x2 ≠ (2 : Int)) ∧ (x3 = x0))))) (h1 : (x2 = (2 : Int))) : (x3 = x4) := by simp_all
theorem q309 {x0 : Int} {x1 : Nat} {x2 : Int} {x3 : Int} {x4 : Int} (h0 : (((x0 + (2 : Int)) ≤ ((x1 : Nat) : Int)) ∧ ((x2 ≠ (1 : Int)) ∧ ((x2 ≠ (2 : Int)) ∧ (x3 = x0))))) (h1 : (((x0 + (2 : Int)) ≤ ((x1 : Nat) : Int)) ∧ ((x2 ≠ (1 : Int)) ∧ ((x2 ≠ (2 : Int)) ∧ (x4 = x0))))) : (x3 = x4) := by simp_all
theorem q310 {x0 : Int} {x1 : Nat} {x2 : Int} (h0 : ((x0 + (2 : Int)) ≤ ((x1 : Nat) : Int))) (h1 : ((((x1 : Nat) : Int) < (x0 + (2 : Int))) ∧ (x2 = x0))) : False := by lia
theorem q311 {x0 : Int} (h0 : (x0 = (1 : Int))) (h1 : (x0 = (2 : Int))) : False := by simp_all
theorem q313 {x0 : Int} {x1 : Nat} {x2 : Int} {x3 : Int} (h0 : (((x0 + (2 : Int)) ≤ ((x1 : Nat) : Int)) ∧ ((x2 ≠ (1 : Int)) ∧ ((x2 ≠ (2 : Int)) ∧ (x3 = x0))))) (h1 : (x2 = (1 : Int))) : False := by simp_all
theorem q314 {x0 : Int} {x1 : Nat} {x2 : Int} {x3 : Int} (h0 : (((x0 + (2 : Int)) ≤ ((x1 : Nat) : Int)) ∧ ((x2 ≠ (1 : Int)) ∧ ((x2 ≠ (2 : Int)) ∧ (x3 = x0))))) (h1 : (x2 = (2 : Int))) : False := by simp_all
theorem q315 {x0 : Nat} {x1 : Int} (h0 : (((x0 : Nat) : Int) < x1)) : (x0 < (Int.toNat x1)) := by simp at *; omega
theorem q316 {x0 : Int} {x1 : Int} (h0 : (¬ (x0 > x1))) : (x1 = (max x1 x0)) := by grind
theorem q317 {x0 : Int} {x1 : Int} (h0 : (x0 > x1)) : (x0 = (max x1 x0)) := by subst_vars; lia
theorem q318 {x0 : Nat} {x1 : Nat} (h0 : (x0 ≤ (65536 : Nat))) (h1 : (x1 = x0)) : (x1 ≤ (16777216 : Nat)) := by subst_vars; lia
theorem q319 {x0 : Nat} {x1 : Nat} (h0 : (x0 = x1)) : (x1 ≤ x0) := by simp_all
theorem q320 {x0 : Nat} {x1 : Nat} {x2 : Nat} (h0 : (x0 = x1)) (h1 : ((x0 - x2) = (0 : Nat))) (h2 : (x2 ≤ x0)) : (x2 = x0) := by grind
theorem q321 {x0 : Nat} {x1 : Nat} {x2 : Nat} {x3 : Nat} (h0 : (x0 = x1)) (h1 : ((x0 - x2) = (x3 + (1 : Nat)))) (h2 : (x2 ≤ x0)) : (x2 < x0) := by grind
theorem q322 {x0 : Nat} {x1 : Nat} {x2 : Nat} (h0 : (x0 = x1)) (h1 : (x0 ≤ (100000 : Nat))) (h2 : (x2 < x0)) : ((min x2 x1) ≤ (100000 : Nat)) := by grind
theorem q324 {x0 : Nat} {x1 : Nat} {x2 : Nat} {x3 : Nat} (h0 : (x0 = x1)) (h1 : ((x0 - x2) = (x3 + (1 : Nat)))) (h2 : (x2 < x0)) : ((x0 - (x2 + (1 : Nat))) = x3) := by grind
theorem q325 {x0 : Int} {x1 : Int} {x2 : Int} (h0 : (x0 = x1)) (h1 : (x0 < x2)) : (¬ (x2 = x1)) := by lia
theorem q326 {x0 : Int} (h0 : (x0 < ((2 : Int) ^ (64 : Nat)))) : ((Int.toNat x0) < ((2 : Nat) ^ (64 : Nat))) := by simp_all
theorem q327 {x0 : Nat} {x1 : Nat} (h0 : (x0 ≤ (x1 - (1 : Nat)))) (h1 : ((0 : Nat) < x1)) : ((x0 + (1 : Nat)) ≤ x1) := by subst_vars; lia
theorem q328 {x0 : Nat} : ((x0 - x0) ≤ (9 : Nat)) := by simp_all
theorem q329 {x0 : Nat} : (((x0 + (9 : Nat)) - x0) ≤ (9 : Nat)) := by simp_all
theorem q330 {x0 : Nat} {x1 : Nat} (h0 : (x0 ≤ (9 : Nat))) : ((((((10 : Nat) * x1) + x0) + (1 : Nat)) + ((9 : Nat) - x0)) = ((10 : Nat) * (x1 + (1 : Nat)))) := by grind
theorem q331 {x0 : Nat} {x1 : Nat} (h0 : ((x0 + (1 : Nat)) < (x1 + (1 : Nat)))) : (x0 < x1) := by simp at *; omega
theorem q332 {x0 : Nat} (h0 : (x0 = (0 : Nat))) : (¬ (x0 > (0 : Nat))) := by simp at *; omega
theorem q333 {x0 : Nat} {x1 : Nat} (h0 : (x0 = (x1 + (1 : Nat)))) : ((x0 - (1 : Nat)) = x1) := by simp_all
theorem q334 {x0 : Nat} {x1 : Nat} (h0 : (x0 = (x1 + (1 : Nat)))) : (x0 > (0 : Nat)) := by simp_all
theorem q335 {x0 : Nat} {x1 : Nat} {x2 : Nat} (h0 : (x0 = x1)) (h1 : ((x1 + (1 : Nat)) ≤ x2)) : (x0 ≤ x2) := by subst_vars; lia
theorem q336 {x0 : Nat} {x1 : Nat} {x2 : Nat} {x3 : Nat} (h0 : ((x0 + (1 : Nat)) ≤ x1)) (h1 : (x2 = (x0 + (1 : Nat)))) (h2 : (x3 = (x0 + (1 : Nat)))) : ((x3 + (0 : Nat)) ≤ x1) := by subst_vars; omega
theorem q337 {x0 : Nat} {x1 : Nat} (h0 : (x0 < (x1 + (1 : Nat)))) : (((14 : Nat) + x0) < (x1 + (15 : Nat))) := by lia
theorem q338 {x0 : Int} : (¬ ((x0 + (1 : Int)) = x0)) := by lia
theorem q340 {x0 : Nat} (h0 : (x0 < (32 : Nat))) (h1 : ((32 : Nat) = x0)) : False := by simp_all
theorem q341 {x0 : Nat} : ((0 : Nat) < ((x0 + (1 : Nat)) - x0)) := by simp_all
theorem q342 {x0 : Nat} : ((0 : Nat) < (((x0 + (9 : Nat)) + (1 : Nat)) - x0)) := by grind
theorem q343 {x0 : Nat} {x1 : Nat} (h0 : ((x0 + (x1 + (1 : Nat))) ≤ (31 : Nat))) : (x0 < (32 : Nat)) := by subst_vars; lia
theorem q344 {x0 : Nat} {x1 : Nat} (h0 : ((x0 + (x1 + (1 : Nat))) ≤ (31 : Nat))) : (((x0 + (1 : Nat)) + x1) ≤ (31 : Nat)) := by subst_vars; lia
theorem q345 {x0 : Nat} {x1 : Nat} : (((x0 + (1 : Nat)) + x1) = (x0 + (x1 + (1 : Nat)))) := by grind
theorem q346 {x0 : Nat} {x1 : Nat} : ((x0 + (x1 + (1 : Nat))) = ((x0 + (1 : Nat)) + x1)) := by grind
theorem q347 {x0 : Nat} {x1 : Nat} {x2 : Nat} {x3 : Nat} (h0 : (x0 = x1)) (h1 : (x2 = x1)) (h2 : ((x3 = (7 : Nat)) ∧ (x1 ≤ (4 : Nat)))) : (x1 ≤ x3) := by lia
theorem q348 {x0 : Nat} {x1 : Nat} {x2 : Nat} {x3 : Nat} (h0 : (x0 = x1)) (h1 : (x2 = x1)) (h2 : ((x3 = (31 : Nat)) ∧ (x1 ≤ (18 : Nat)))) : (x1 ≤ x3) := by lia
theorem q349 {x0 : Nat} {x1 : Nat} {x2 : Nat} {x3 : Nat} (h0 : (x0 = x1)) (h1 : (x2 = x1)) (h2 : ((x3 = (7 : Nat)) ∧ (x1 ≤ (4 : Nat)))) : (x1 < (4096 : Nat)) := by lia
theorem q350 {x0 : Nat} {x1 : Nat} {x2 : Nat} {x3 : Nat} (h0 : (x0 = x1)) (h1 : (x2 = x1)) (h2 : ((x3 = (31 : Nat)) ∧ (x1 ≤ (18 : Nat)))) : (x1 < (4096 : Nat)) := by lia
theorem q351 {x0 : Nat} {x1 : Nat} {x2 : Nat} {x3 : Nat} (h0 : (x0 = x1)) (h1 : (x2 = x1)) (h2 : ((x3 = (7 : Nat)) ∧ (x1 ≤ (4 : Nat)))) : ((x1 + (1 : Nat)) ≤ x3) := by lia
theorem q355 {x0 : Nat} {x1 : Nat} {x2 : Nat} {x3 : Nat} {x4 : Nat} {x5 : Nat} {x6 : Nat} (h0 : (x0 = x1)) (h1 : (x2 = x1)) (h2 : (x3 = (x1 + (1 : Nat)))) (h3 : (x4 = (x1 + (1 : Nat)))) (h4 : ((x4 = (5 : Nat)) ∧ (x5 = (7 : Nat)))) (h5 : (x6 = (5 : Nat))) : ((x0 + (1 : Nat)) = x6) := by simp_all
theorem q356 {x0 : Nat} {x1 : Nat} (h0 : (x0 = (5 : Nat))) (h1 : (x1 = (5 : Nat))) : (x0 = x1) := by simp_all
theorem q357 {x0 : Nat} (h0 : (x0 = (5 : Nat))) : (x0 ≤ (18 : Nat)) := by simp_all
theorem q358 {x0 : Nat} (h0 : (x0 = (5 : Nat))) : (x0 < (4096 : Nat)) := by simp_all
theorem q361 {x0 : Nat} {x1 : Nat} {x2 : Nat} {x3 : Nat} {x4 : Nat} (h0 : (x0 = x1)) (h1 : (x2 = x1)) (h2 : (x3 = (x1 + (1 : Nat)))) (h3 : (x4 = (x1 + (1 : Nat)))) : ((x0 + (1 : Nat)) = x4) := by simp_all
theorem q364 {x0 : Nat} {x1 : Nat} (h0 : ((x0 - x1) = (0 : Nat))) (h1 : (x1 ≤ x0)) : (x1 = x0) := by grind
theorem q365 {x0 : Nat} {x1 : Nat} {x2 : Nat} (h0 : ((x0 - x1) = (x2 + (1 : Nat)))) (h1 : (x1 ≤ x0)) : (x1 < x0) := by subst_vars; omega
theorem q366 {x0 : Nat} {x1 : Nat} {x2 : Nat} (h0 : ((x0 - x1) = (x2 + (1 : Nat)))) (h1 : (x1 < x0)) : ((x0 - (x1 + (1 : Nat))) = x2) := by grind
theorem q367 {x0 : Nat} {x1 : Nat} {x2 : Nat} (h0 : ((x0 + (1 : Nat)) ≤ x1)) (h1 : (x2 ≤ x0)) : ((x2 + (1 : Nat)) ≤ x1) := by lia
theorem q368 {x0 : Nat} {x1 : Nat} {x2 : Nat} (h0 : (x0 ≤ x1)) (h1 : ((x1 + (1 : Nat)) ≤ x2)) : (x0 ≤ x2) := by subst_vars; lia
theorem q369 {x0 : Nat} {x1 : Nat} (h0 : (x0 ≤ x1)) : (x0 ≤ (x1 + (1 : Nat))) := by constructor <;> omega
theorem q370 {x0 : Nat} {x1 : Nat} (h0 : ((x0 + (1 : Nat)) ≤ x1)) : (((x0 + (1 : Nat)) + (1 : Nat)) ≤ (x1 + (1 : Nat))) := by simp at *; omega
theorem q371 {x0 : Nat} {x1 : Nat} (h0 : ((x0 + (1 : Nat)) ≤ x1)) : ((x0 + (1 : Nat)) ≤ (x1 + (1 : Nat))) := by constructor <;> omega
theorem q372 {x0 : Nat} : ((x0 - (0 : Nat)) ≤ x0) := by simp_all
theorem q373 {x0 : Nat} {x1 : Nat} {x2 : Nat} (h0 : (x0 ≤ ((x1 + (1 : Nat)) + x2))) : (x0 ≤ (x1 + (x2 + (1 : Nat)))) := by subst_vars; lia
theorem q374 {x0 : Nat} {x1 : Nat} : (x0 ≤ (x0 + (x1 + (1 : Nat)))) := by simp_all
theorem q375 {x0 : Nat} {x1 : Nat} (h0 : (x0 ≤ x1)) (h1 : ((x1 - x0) ≤ (0 : Nat))) : (x0 = x1) := by grind
theorem q376 {x0 : Nat} {x1 : Nat} (h0 : (x0 < x1)) : ((((x0 + x1) / (2 : Nat)) + (1 : Nat)) ≤ x1) := by grind
theorem q377 {x0 : Nat} {x1 : Nat} {x2 : Nat} (h0 : ((x0 - x1) ≤ (x2 + (1 : Nat)))) (h1 : (x1 < x0)) : ((x0 - (((x1 + x0) / (2 : Nat)) + (1 : Nat))) ≤ x2) := by simp at *; omega
theorem q378 {x0 : Nat} {x1 : Nat} (h0 : (x0 < x1)) : (x0 ≤ ((x0 + x1) / (2 : Nat))) := by grind
theorem q379 {x0 : Nat} {x1 : Nat} {x2 : Nat} (h0 : ((x0 - x1) ≤ (x2 + (1 : Nat)))) (h1 : (x1 < x0)) : ((((x1 + x0) / (2 : Nat)) - x1) ≤ x2) := by simp at *; omega
theorem q380 {x0 : Nat} {x1 : Nat} {x2 : Nat} (h0 : (¬ (x0 < x1))) (h1 : (x0 = x2)) : (x1 ≤ x2) := by simp_all
theorem q381  : ((0 : Nat) < (5 : Nat)) := by simp_all
theorem q382 {x0 : Nat} {x1 : Nat} {x2 : Nat} {x3 : Nat} {x4 : Nat} (h0 : (x0 = x1)) (h1 : (x2 = x1)) (h2 : (x3 ≤ x1)) (h3 : ((x4 = (7 : Nat)) ∧ (x1 ≤ (4 : Nat)))) : (x3 ≤ (18 : Nat)) := by lia
theorem q383 {x0 : Nat} {x1 : Nat} {x2 : Nat} {x3 : Nat} {x4 : Nat} (h0 : (x0 = x1)) (h1 : (x2 = x1)) (h2 : (x3 ≤ x1)) (h3 : ((x4 = (31 : Nat)) ∧ (x1 ≤ (18 : Nat)))) : (x3 ≤ (18 : Nat)) := by lia
theorem q384 {x0 : Nat} (h0 : (x0 ≤ (18 : Nat))) : (x0 ≤ (16777216 : Nat)) := Nat.le_trans h0 (Nat.le_of_ble_eq_true rfl)
theorem q385 {x0 : Nat} {x1 : Nat} (h0 : (x0 ≤ (18 : Nat))) (h1 : (x1 = x0)) : (x1 < (64 : Nat)) := by subst_vars; lia
theorem q386 {x0 : Nat} {x1 : Nat} {x2 : Nat} {x3 : Nat} (h0 : (x0 = x1)) (h1 : (x2 ≤ x0)) (h2 : (x3 < x2)) : (((x0 + (1 : Nat)) - x3) = (((x0 + (1 : Nat)) - (x3 + (1 : Nat))) + (1 : Nat))) := by grind
theorem q387 {x0 : Nat} {x1 : Nat} {x2 : Nat} (h0 : (x0 = x1)) (h1 : (x2 ≤ x0)) : (((x0 + (1 : Nat)) - x2) = ((x0 - x2) + (1 : Nat))) := by grind
theorem q388 {x0 : Nat} {x1 : Nat} {x2 : Nat} (h0 : (x0 = x1)) (h1 : (x2 ≤ x0)) : (x2 ≤ x1) := by simp_all
theorem q389 {x0 : Int} {x1 : Nat} {x2 : Int} (h0 : ((0 : Int) ≤ x0)) (h1 : (x1 ≤ (33 : Nat))) (h2 : ((((x0 + (2 : Int)) + (4 : Int)) + ((2 : Int) * x2)) ≤ ((x1 : Nat) : Int))) : ((Int.toNat x2) ≤ (15 : Nat)) := by subst_vars; lia
theorem q390 {x0 : Int} {x1 : Nat} {x2 : Int} (h0 : ((0 : Int) ≤ x0)) (h1 : (x1 ≤ (33 : Nat))) (h2 : (((x0 + (2 : Int)) + (2 : Int)) ≤ ((x1 : Nat) : Int))) (h3 : ((((x0 + (2 : Int)) + (2 : Int)) + ((6 : Int) * (((Int.toNat x2) : Nat) : Int))) ≤ ((x1 : Nat) : Int))) : ((Int.toNat x2) ≤ (15 : Nat)) := by subst_vars; lia
theorem q391 {x0 : Nat} {x1 : Nat} (h0 : (x0 ≤ (100000 : Nat))) (h1 : (x1 = x0)) : (x0 ≤ (16777216 : Nat)) := Nat.le_trans h0 (Nat.le_of_ble_eq_true rfl)
theorem q392 {x0 : Int} {x1 : Int} (h0 : (x0 ≤ x1)) (h1 : (x1 ≤ x0)) : (x0 = x1) := by subst_vars; lia
theorem q393 {x0 : Nat} (h0 : (x0 ≤ (540 : Nat))) : (x0 < (1000 : Nat)) := Nat.lt_of_le_of_lt h0 (Nat.le_of_ble_eq_true rfl)
theorem q394 {x0 : Nat} (h0 : (x0 ≤ (540 : Nat))) : ((x0 + (1 : Nat)) ≤ (550 : Nat)) := Nat.lt_of_le_of_lt h0 (Nat.le_of_ble_eq_true rfl)
theorem q395 {x0 : Nat} (h0 : (x0 ≤ (6400 : Nat))) : ((x0 + (3 : Nat)) ≤ (6500 : Nat)) := Nat.le_trans (Nat.add_le_add_right h0 _) (Nat.le_of_ble_eq_true rfl)
theorem q396 {x0 : Nat} (h0 : (x0 ≤ (33 : Nat))) : (x0 ≤ (900 : Nat)) := Nat.le_trans h0 (Nat.le_of_ble_eq_true rfl)
theorem q397 {x0 : Nat} {x1 : Int} (h0 : (x0 ≤ (33 : Nat))) (h1 : (x1 ≤ ((x0 : Nat) : Int))) : (x1 ≤ (900 : Int)) := by subst_vars; lia
theorem q398 {x0 : Int} (h0 : ((0 : Int) < x0)) : (¬ (x0 = (0 : Int))) := by grind
theorem q399 {x0 : Int} (h0 : ((0 : Int) ≤ x0)) (h1 : (¬ ((0 : Int) < x0))) : (¬ (x0 ≠ (0 : Int))) := by lia
theorem q400 {x0 : Nat} {x1 : Nat} (h0 : (x0 ≤ (6400 : Nat))) (h1 : (x1 = (9900 : Nat))) : ((x0 + (3 : Nat)) < x1) := by subst_vars; lia
theorem q401 {x0 : Nat} (h0 : (x0 ≤ (540 : Nat))) : ((x0 + (1 : Nat)) ≤ (560 : Nat)) := Nat.lt_of_le_of_lt h0 (Nat.le_of_ble_eq_true rfl)
theorem q402 {x0 : Nat} (h0 : (x0 ≤ (6400 : Nat))) : ((x0 + (3 : Nat)) ≤ (6600 : Nat)) := Nat.le_trans (Nat.add_le_add_right h0 _) (Nat.le_of_ble_eq_true rfl)
theorem q403 {x0 : Nat} (h0 : (x0 ≤ (15 : Nat))) : ((((((0 : Nat) + (1 : Nat)) + (1 : Nat)) + (1 : Nat)) + x0) ≤ (18 : Nat)) := by subst_vars; lia
theorem q404 {x0 : Int} {x1 : Int} (h0 : (((0 : Int) ≤ x0) ∧ ((x0 ≤ (65535 : Int)) ∧ (((0 : Int) ≤ x1) ∧ (x1 ≤ (65535 : Int)))))) : (¬ (x0 = (65536 : Int))) := by subst_vars; omega
theorem q405 {x0 : Int} : ((x0 + (1 : Int)) = ((1 : Int) + x0)) := by subst_vars; lia
theorem q406 {x0 : Int} {x1 : Int} {x2 : Int} (h0 : (x0 = (max x1 x2))) (h1 : (x1 ≤ x2)) : (x0 = x2) := by grind
theorem q407 {x0 : Int} {x1 : Int} {x2 : Int} (h0 : (x0 = (max x1 x2))) (h1 : (¬ (x1 ≤ x2))) : (x0 = x1) := by grind
theorem q408 {x0 : Nat} (h0 : (x0 ≤ (560 : Nat))) : (((x0 + (1 : Nat)) + (10 : Nat)) < (1000 : Nat)) := Nat.lt_of_le_of_lt (Nat.add_le_add_right (Nat.add_le_add_right h0 _) _) (Nat.le_of_ble_eq_true rfl)
theorem q409 {x0 : Nat} {x1 : Nat} (h0 : (x0 ≤ (6600 : Nat))) (h1 : (x1 = (9900 : Nat))) : (((x0 + (3 : Nat)) + (300 : Nat)) < x1) := by subst_vars; lia
theorem q410  : ((0 : Int) < (2 : Int)) := by constructor <;> omega
theorem q411  : ((2 : Int) < (1000 : Int)) := by constructor <;> omega
theorem q412  : ((0 : Int) < (3 : Int)) := by constructor <;> omega
theorem q413  : ((3 : Int) < (1000 : Int)) := by constructor <;> omega
theorem q414  : ((0 : Int) < (4 : Int)) := by constructor <;> omega
theorem q415  : ((4 : Int) < (1000 : Int)) := by constructor <;> omega
theorem q416  : ((0 : Int) < (5 : Int)) := by constructor <;> omega
theorem q417  : ((5 : Int) < (1000 : Int)) := by constructor <;> omega
theorem q418 {x0 : Int} (h0 : ((0 : Int) ≤ x0)) (h1 : (x0 < (5 : Int))) : ((-((2 : Int) ^ (62 : Nat))) ≤ x0) := by lia
theorem q419 {x0 : Int} (h0 : ((0 : Int) ≤ x0)) (h1 : (x0 < (5 : Int))) : (x0 < ((2 : Int) ^ (62 : Nat))) := Int.le_trans h1 (by decide)
theorem q420 {x0 : Int} (h0 : ((0 : Int) ≤ x0)) (h1 : (x0 < (4 : Int))) : ((Int.toNat x0) < (4 : Nat)) := by simp_all
theorem q423  : (¬ ((3 : Nat) = (0 : Nat))) := by decide
theorem q424 {x0 : Nat} (h0 : (x0 ≤ (12 : Nat))) (h1 : ((x0 + ((((0 : Nat) + (1 : Nat)) + (1 : Nat)) + (1 : Nat))) > (16777216 : Nat))) : False := by subst_vars; lia
theorem q425 {x0 : Nat} (h0 : (x0 ≤ (12 : Nat))) : (x0 ≤ (16777216 : Nat)) := Nat.le_trans h0 (Nat.le_of_ble_eq_true rfl)
theorem q426 {x0 : Nat} (h0 : (x0 ≤ (12 : Nat))) : ((x0 + ((((0 : Nat) + (1 : Nat)) + (1 : Nat)) + (1 : Nat))) ≤ ((16777216 : Nat) + (1 : Nat))) := Nat.le_trans (Nat.add_le_add_right h0 _) (Nat.le_of_ble_eq_true rfl)
theorem q427 {x0 : Nat} : ((((3 : Nat) * x0) + ((((0 : Nat) + (1 : Nat)) + (1 : Nat)) + (1 : Nat))) = ((3 : Nat) * (x0 + (1 : Nat)))) := by constructor <;> omega
theorem q429 {x0 : Int} {x1 : Int} (h0 : ((0 : Int) ≤ x0)) (h1 : (x0 ≤ (65544 : Int))) (h2 : ((0 : Int) ≤ x1)) (h3 : (x1 < (4 : Int))) (h4 : (¬ ((65535 : Int) < (x0 + x1)))) : (((0 : Int) ≤ (x0 + x1)) ∧ ((x0 + x1) ≤ (65535 : Int))) := by lia
theorem q430 {x0 : Int} (h0 : ((0 : Int) ≤ x0)) (h1 : (x0 < (3 : Int))) : (((0 : Int) ≤ x0) ∧ (x0 ≤ (65535 : Int))) := by subst_vars; lia
theorem q431 {x0 : Int} {x1 : Int} {x2 : Int} (h0 : ((0 : Int) ≤ x0)) (h1 : (x0 ≤ (65544 : Int))) (h2 : ((0 : Int) ≤ x1)) (h3 : (x1 < (4 : Int))) (h4 : (((0 : Int) ≤ x2) ∧ (x2 ≤ (9 : Int)))) : ((0 : Int) ≤ ((x0 + x1) + x2)) := by grind
theorem q432 {x0 : Int} {x1 : Int} {x2 : Int} (h0 : (¬ ((65535 : Int) < (x0 + x1)))) (h1 : (((0 : Int) ≤ x2) ∧ (x2 ≤ (9 : Int)))) : (((x0 + x1) + x2) ≤ (65544 : Int)) := by subst_vars; lia
theorem q433 {x0 : Int} (h0 : ((0 : Int) ≤ x0)) (h1 : (x0 < (5 : Int))) : ((Int.toNat x0) ≤ (4 : Nat)) := by simp at *; omega
theorem q434 {x0 : Nat} {x1 : Nat} (h0 : (x0 ≤ (4 : Nat))) (h1 : (x1 = ((3 : Nat) * x0))) : (x1 ≤ (12 : Nat)) := by subst_vars; lia
theorem q435 {x0 : Nat} (h0 : (x0 ≤ (12 : Nat))) : (((x0 : Nat) : Int) < ((2 : Int) ^ (63 : Nat))) := by lia
theorem q436 {x0 : Nat} {x1 : Nat} (h0 : (x0 ≤ (4 : Nat))) (h1 : (x1 = ((3 : Nat) * x0))) : (((x1 + (1 : Nat)) + (1 : Nat)) ≤ (14 : Nat)) := by subst_vars; lia
theorem q437 {x0 : Nat} (h0 : (x0 ≤ (12 : Nat))) : (((0 : Int) ≤ (((x0 : Nat) : Int) / (3 : Int))) ∧ ((((x0 : Nat) : Int) / (3 : Int)) ≤ (65535 : Int))) := by lia
theorem q438  : ((0 : Int) < (7 : Int)) := by constructor <;> omega
theorem q439  : ((7 : Int) < (1000 : Int)) := by constructor <;> omega
theorem q440 {x0 : Int} (h0 : ((0 : Int) ≤ x0)) (h1 : (x0 < (7 : Int))) : ((-((2 : Int) ^ (62 : Nat))) ≤ x0) := by subst_vars; lia
theorem q441 {x0 : Int} (h0 : ((0 : Int) ≤ x0)) (h1 : (x0 < (7 : Int))) : (x0 < ((2 : Int) ^ (62 : Nat))) := Int.le_trans h1 (by decide)
theorem q442 {x0 : Int} (h0 : ((0 : Int) ≤ x0)) (h1 : (x0 < (7 : Int))) : ((Int.toNat x0) ≤ (16777216 : Nat)) := by subst_vars; lia
theorem q443 {x0 : Int} (h0 : ((0 : Int) ≤ x0)) (h1 : (x0 < (4 : Int))) : (((0 : Int) ≤ x0) ∧ (x0 ≤ (65535 : Int))) := by lia
theorem q447 {x0 : Nat} {x1 : Nat} {x2 : Nat} (h0 : (x0 ≤ (6 : Nat))) (h1 : (x0 = x1)) : (((((min x2 x1) + (1 : Nat)) + (1 : Nat)) + (1 : Nat)) ≤ (14 : Nat)) := by grind
theorem q448 {x0 : Nat} {x1 : Nat} (h0 : (x0 ≤ (6 : Nat))) (h1 : (x0 = x1)) : (((0 : Int) ≤ ((x0 : Nat) : Int)) ∧ (((x0 : Nat) : Int) ≤ (65535 : Int))) := by lia
theorem q449 {x0 : Nat} (h0 : ((1 : Nat) ≤ x0)) : ((0 : Nat) < x0) := Nat.lt_of_lt_of_le (Nat.lt_of_lt_of_le (Nat.lt_succ_self _) h0) (Nat.le_refl _)
theorem q450 {x0 : Nat} (h0 : (x0 ≤ (14 : Nat))) : (((x0 : Nat) : Int) < ((2 : Int) ^ (63 : Nat))) := by lia
theorem q451 {x0 : Nat} {x1 : Nat} (h0 : (x0 ≤ (14 : Nat))) (h1 : ((1 : Nat) ≤ x0)) (h2 : (x1 = x0)) : ((0 : Int) < ((x1 : Nat) : Int)) := by subst_vars; lia
theorem q452 {x0 : Nat} {x1 : Nat} (h0 : (x0 ≤ (14 : Nat))) (h1 : ((1 : Nat) ≤ x0)) (h2 : (x1 = x0)) : (((x1 : Nat) : Int) < (1000 : Int)) := by subst_vars; lia
theorem q453 {x0 : Nat} {x1 : Nat} {x2 : Int} (h0 : (x0 = x1)) (h1 : ((0 : Int) ≤ x2)) (h2 : (x2 < ((x0 : Nat) : Int))) : ((Int.toNat x2) < x1) := by simp_all
theorem q454 {x0 : Nat} {x1 : Nat} {x2 : Int} (h0 : (x0 ≤ (14 : Nat))) (h1 : ((1 : Nat) ≤ x0)) (h2 : (x1 = x0)) (h3 : (x2 < ((x1 : Nat) : Int))) : (x2 < ((2 : Int) ^ (63 : Nat))) := by subst_vars; lia
theorem q455  : ((0 : Int) < (6 : Int)) := by constructor <;> omega
theorem q456  : ((6 : Int) < (1000 : Int)) := by constructor <;> omega
theorem q457 {x0 : Nat} {x1 : Nat} {x2 : Int} (h0 : (x0 = x1)) (h1 : (x2 < ((x0 : Nat) : Int))) (h2 : (x2 = (((Int.toNat x2) : Nat) : Int))) : ((Int.toNat x2) < x1) := by subst_vars; lia
theorem q458 {x0 : Nat} {x1 : Nat} (h0 : (x0 ≤ (14 : Nat))) (h1 : ((1 : Nat) ≤ x0)) (h2 : (x1 = x0)) : (x0 ≤ (16777216 : Nat)) := Nat.le_trans h0 (Nat.le_of_ble_eq_true rfl)
theorem q459 {x0 : Nat} {x1 : Nat} {x2 : Int} (h0 : (x0 = x1)) (h1 : (x2 < ((x0 : Nat) : Int))) (h2 : (x2 = (((Int.toNat x2) : Nat) : Int))) : ((Int.toNat x2) ≤ x1) := by subst_vars; lia
theorem q460 {x0 : Nat} {x1 : Nat} {x2 : Int} (h0 : (x0 = x1)) (h1 : (x2 < ((x0 : Nat) : Int))) (h2 : (x2 = (((Int.toNat x2) : Nat) : Int))) : ((min (Int.toNat x2) x1) = (Int.toNat x2)) := by subst_vars; lia
theorem q461 {x0 : Nat} {x1 : Nat} {x2 : Int} {x3 : Nat} (h0 : (x0 = x1)) (h1 : (x2 < ((x0 : Nat) : Int))) (h2 : (x2 = (((Int.toNat x2) : Nat) : Int))) (h3 : (x3 = (Int.toNat x2))) : (((Int.toNat x2) + (1 : Nat)) ≤ x1) := by subst_vars; lia
theorem q462 {x0 : Int} (h0 : (x0 = (((Int.toNat x0) : Nat) : Int))) : (((((Int.toNat x0) + (1 : Nat)) : Nat) : Int) = (x0 + (1 : Int))) := by lia
theorem q463 {x0 : Nat} {x1 : Nat} {x2 : Int} {x3 : Nat} (h0 : (x0 ≤ (14 : Nat))) (h1 : ((1 : Nat) ≤ x0)) (h2 : (x1 = x0)) (h3 : ((0 : Int) ≤ x2)) (h4 : (x2 < ((x1 : Nat) : Int))) (h5 : (x2 = (((Int.toNat x2) : Nat) : Int))) (h6 : (x3 = (Int.toNat x2))) : ((x0 - ((Int.toNat x2) + (1 : Nat))) ≤ (14 : Nat)) := by simp at *; omega
theorem q464 {x0 : Int} {x1 : Nat} {x2 : Nat} (h0 : ((0 : Int) ≤ x0)) (h1 : ((Int.toNat x0) < x1)) (h2 : (x0 = (((Int.toNat x0) : Nat) : Int))) (h3 : (x2 = (Int.toNat x0))) (h4 : (x1 ≤ (14 : Nat))) : ((1 : Nat) ≤ (((min (Int.toNat x0) x1) + (1 : Nat)) + (x1 - ((Int.toNat x0) + (1 : Nat))))) := by lia
theorem q465 {x0 : Int} {x1 : Nat} {x2 : Nat} (h0 : ((Int.toNat x0) < x1)) (h1 : (x2 = (Int.toNat x0))) (h2 : (x1 ≤ (14 : Nat))) : ((((min (Int.toNat x0) x1) + (1 : Nat)) + (x1 - ((Int.toNat x0) + (1 : Nat)))) ≤ (14 : Nat)) := by grind
theorem q466 {x0 : Int} (h0 : ((0 : Int) ≤ x0)) (h1 : (x0 < (65536 : Int))) : (x0 ≤ (65535 : Int)) := by lia
theorem q467 {x0 : Nat} {x1 : Nat} (h0 : (x0 ≤ (14 : Nat))) (h1 : ((1 : Nat) ≤ x0)) (h2 : (x1 = x0)) : (((x0 : Nat) : Int) < ((2 : Int) ^ (63 : Nat))) := by lia
theorem q468 {x0 : Nat} {x1 : Nat} (h0 : (x0 ≤ (14 : Nat))) (h1 : ((1 : Nat) ≤ x0)) (h2 : (x1 = x0)) : ((-((2 : Int) ^ (62 : Nat))) ≤ (((x1 : Nat) : Int) - (1 : Int))) := by lia
theorem q469 {x0 : Nat} {x1 : Nat} (h0 : (x0 ≤ (14 : Nat))) (h1 : ((1 : Nat) ≤ x0)) (h2 : (x1 = x0)) : ((((x1 : Nat) : Int) - (1 : Int)) < ((2 : Int) ^ (62 : Nat))) := by lia
theorem q470 {x0 : Nat} {x1 : Nat} (h0 : (x0 ≤ (14 : Nat))) (h1 : ((1 : Nat) ≤ x0)) (h2 : (x1 = x0)) : ((((Int.toNat (((x1 : Nat) : Int) - (1 : Int))) : Nat) : Int) = (((x0 - (1 : Nat)) : Nat) : Int)) := by simp_all
theorem q471 {x0 : Nat} {x1 : Nat} {x2 : Nat} (h0 : (x0 ≤ (14 : Nat))) (h1 : ((1 : Nat) ≤ x0)) (h2 : (x1 = x0)) (h3 : (x2 < (x0 - (1 : Nat)))) : (x2 < x0) := by lia
theorem q472 {x0 : Nat} {x1 : Nat} {x2 : Nat} (h0 : (x0 ≤ (14 : Nat))) (h1 : ((1 : Nat) ≤ x0)) (h2 : (x1 = x0)) (h3 : (x2 < (x0 - (1 : Nat)))) : ((x2 + (1 : Nat)) < x0) := by lia
theorem q473 {x0 : Nat} : ((0 : Int) ≤ ((0 : Int) + ((x0 : Nat) : Int))) := by constructor <;> omega
theorem q474 {x0 : Nat} {x1 : Nat} {x2 : Nat} (h0 : (x0 ≤ (14 : Nat))) (h1 : ((1 : Nat) ≤ x0)) (h2 : (x1 = x0)) (h3 : (x2 < (x0 - (1 : Nat)))) : (((0 : Int) + ((x2 : Nat) : Int)) < ((2 : Int) ^ (63 : Nat))) := by lia
theorem q475 {x0 : Nat} : ((0 : Int) ≤ (((0 : Int) + ((x0 : Nat) : Int)) + (1 : Int))) := by constructor <;> omega
theorem q476 {x0 : Nat} {x1 : Nat} {x2 : Nat} (h0 : (x0 ≤ (14 : Nat))) (h1 : ((1 : Nat) ≤ x0)) (h2 : (x1 = x0)) (h3 : (x2 < (x0 - (1 : Nat)))) : ((((0 : Int) + ((x2 : Nat) : Int)) + (1 : Int)) < ((2 : Int) ^ (63 : Nat))) := by lia
theorem q477 {x0 : Nat} : ((Int.toNat (((0 : Int) + ((x0 : Nat) : Int)) + (1 : Int))) = (x0 + (1 : Nat))) := by simp_all
theorem q478 {x0 : Nat} {x1 : Nat} (h0 : (x0 < x1)) : ((x1 - x0) = ((x1 - (x0 + (1 : Nat))) + (1 : Nat))) := by grind
theorem q479 {x0 : Nat} {x1 : Nat} (h0 : (x0 ≤ x1)) (h1 : ((x1 - x0) = (0 : Nat))) : (x0 = x1) := by grind
theorem q480 {x0 : Nat} {x1 : Nat} {x2 : Nat} : (((x0 + x1) + x2) = (x0 + (x1 + x2))) := by lia
theorem q481 {x0 : Nat} {x1 : Nat} {x2 : Nat} {x3 : Nat} (h0 : (¬ ((((63 : Nat) : Nat) : Int) < ((x0 : Nat) : Int)))) (h1 : (x1 = (min (60 : Nat) x0))) (h2 : (x1 ≤ x0)) (h3 : (x2 = x0)) (h4 : (x3 = x1)) : ((min (60 : Nat) x0) ≤ (63 : Nat)) := by lia
theorem q482 {x0 : Int} (h0 : ((0 : Int) ≤ x0)) (h1 : (x0 < (4 : Int))) : (x0 ≤ (16777216 : Int)) := by subst_vars; lia
theorem q483 {x0 : Int} (h0 : ((0 : Int) ≤ x0)) (h1 : (x0 < (4 : Int))) : (x0 ≤ (3 : Int)) := by lia
theorem q484 {x0 : Nat} {x1 : Nat} (h0 : (x0 ≤ (14 : Nat))) (h1 : (x1 = x0)) : (x1 ≤ (16777216 : Nat)) := by subst_vars; lia
theorem q485 {x0 : Int} (h0 : (((0 : Int) ≤ x0) ∧ (x0 ≤ (65535 : Int)))) : (((0 : Int) ≤ (x0 / (256 : Int))) ∧ ((x0 / (256 : Int)) < (256 : Int))) := by grind
theorem q486 {x0 : Int} : (((0 : Int) ≤ (x0 % (256 : Int))) ∧ ((x0 % (256 : Int)) < (256 : Int))) := by lia
theorem q487 {x0 : Nat} : (((2 : Nat) + ((2 : Nat) * x0)) = ((2 : Nat) * (x0 + (1 : Nat)))) := by subst_vars; lia
theorem q488 {x0 : Nat} {x1 : Nat} (h0 : (x0 = x1)) (h1 : (x1 ≤ (14 : Nat))) : (((2 : Nat) * x1) ≤ (16777216 : Nat)) := by lia
theorem q489 {x0 : Nat} {x1 : Nat} {x2 : Nat} {x3 : Nat} (h0 : (x0 ≤ (3 : Nat))) (h1 : (x1 = x2)) (h2 : (x2 ≤ (14 : Nat))) (h3 : (x0 = x3)) : ((x3 + ((2 : Nat) * x2)) ≤ (16777216 : Nat)) := by subst_vars; lia
theorem q490 {x0 : Nat} {x1 : Nat} {x2 : Nat} (h0 : (x0 = x1)) (h1 : (x1 ≤ (14 : Nat))) : ((x2 + ((2 : Nat) * x1)) ≤ (x2 + (28 : Nat))) := by subst_vars; lia
theorem q491 {x0 : Nat} {x1 : Nat} {x2 : Nat} (h0 : (x0 = ((2 : Nat) * x1))) : (x2 ≤ (x2 + x0)) := by simp_all
theorem q492 {x0 : Int} (h0 : ((0 : Int) ≤ x0)) (h1 : (x0 < (3 : Int))) : (x0 ≤ (16777216 : Int)) := by subst_vars; lia
theorem q493 {x0 : Nat} {x1 : Nat} {x2 : Int} {x3 : Nat} (h0 : (x0 ≤ (3 : Nat))) (h1 : (x1 ≤ (x0 + (28 : Nat)))) (h2 : (x0 ≤ x1)) (h3 : ((0 : Int) ≤ x2)) (h4 : (x2 < (3 : Int))) (h5 : (x1 = x3)) : ((x3 + (Int.toNat x2)) ≤ (16777216 : Nat)) := by subst_vars; lia
theorem q494 {x0 : Int} (h0 : ((0 : Int) ≤ x0)) (h1 : (x0 < (3 : Int))) : (x0 ≤ (2 : Int)) := by lia
theorem q495 {x0 : Nat} {x1 : Nat} : (x0 ≤ (x0 + x1)) := by simp_all
theorem q496 {x0 : Nat} {x1 : Nat} {x2 : Nat} {x3 : Nat} {x4 : Nat} (h0 : (x0 ≤ (x1 + (28 : Nat)))) (h1 : (x1 ≤ x0)) (h2 : (x2 ≤ (x0 + (2 : Nat)))) (h3 : (x0 ≤ x2)) (h4 : (x3 = x1)) (h5 : (x4 = x2)) : ((0 : Int) < ((((x4 : Nat) : Int) - ((x3 : Nat) : Int)) + (1 : Int))) := by subst_vars; lia
theorem q497 {x0 : Nat} {x1 : Nat} {x2 : Nat} {x3 : Nat} {x4 : Nat} (h0 : (x0 ≤ (x1 + (28 : Nat)))) (h1 : (x1 ≤ x0)) (h2 : (x2 ≤ (x0 + (2 : Nat)))) (h3 : (x0 ≤ x2)) (h4 : (x3 = x1)) (h5 : (x4 = x2)) : (((((x4 : Nat) : Int) - ((x3 : Nat) : Int)) + (1 : Int)) < (1000 : Int)) := by subst_vars; lia
theorem q498 {x0 : Int} {x1 : Nat} (h0 : ((0 : Int) ≤ x0)) : ((((x1 + (Int.toNat x0)) : Nat) : Int) = (((x1 : Nat) : Int) + x0)) := by lia
theorem q499 {x0 : Nat} {x1 : Nat} {x2 : Nat} {x3 : Nat} {x4 : Int} (h0 : (x0 = x1)) (h1 : (x2 = (min (min (x3 + (Int.toNat x4)) x0) x0))) : (x2 ≤ x1) := by grind
theorem q500 {x0 : Nat} {x1 : Nat} {x2 : Int} {x3 : Nat} {x4 : Nat} (h0 : (x0 = x1)) (h1 : ((0 : Int) ≤ x2)) (h2 : (x2 < ((((x3 : Nat) : Int) - ((x0 : Nat) : Int)) + (1 : Int)))) (h3 : (x4 = (min (min (x0 + (Int.toNat x2)) x3) x3))) : (x1 ≤ x4) := by subst_vars; lia
theorem q501 {x0 : Nat} {x1 : Nat} {x2 : Nat} {x3 : Nat} {x4 : Nat} (h0 : (x0 ≤ (x1 + (28 : Nat)))) (h1 : (x1 ≤ x0)) (h2 : (x2 ≤ (x0 + (2 : Nat)))) (h3 : (x0 ≤ x2)) (h4 : (x3 = x1)) (h5 : (x4 = x2)) : (x1 ≤ x2) := by lia
theorem q502 {x0 : Nat} {x1 : Nat} {x2 : Nat} {x3 : Nat} {x4 : Nat} {x5 : Nat} (h0 : (x0 ≤ (3 : Nat))) (h1 : (x1 ≤ (x0 + (28 : Nat)))) (h2 : (x0 ≤ x1)) (h3 : (x2 ≤ (x1 + (2 : Nat)))) (h4 : (x1 ≤ x2)) (h5 : (x3 ≤ x2)) (h6 : (x4 = x0)) (h7 : (x5 = x3)) : (x5 ≤ (33 : Nat)) := by subst_vars; lia
theorem q503 {x0 : Nat} {x1 : Nat} (h0 : (x0 ≤ (3 : Nat))) (h1 : (x1 = x0)) : ((0 : Int) ≤ ((x1 : Nat) : Int)) := by constructor <;> omega
theorem q504 {x0 : Nat} {x1 : Nat} {x2 : Nat} {x3 : Nat} (h0 : (x0 ≤ x1)) (h1 : (x2 = x0)) (h2 : (x3 = x1)) : (((x2 : Nat) : Int) ≤ ((x3 : Nat) : Int)) := by simp_all
theorem q505 {x0 : Nat} {x1 : Nat} (h0 : ((x0 - x1) > (0 : Nat))) : ((1 : Nat) ≤ (x0 - x1)) := Nat.lt_of_lt_of_le (Nat.lt_of_lt_of_le (Nat.lt_succ_self _) h0) (Nat.le_refl _)
theorem q506 {x0 : Nat} (h0 : (x0 = (9900 : Nat))) : ((((4 : Nat) + (3 : Nat)) + (300 : Nat)) < x0) := by simp_all
theorem q507 {x0 : Nat} {x1 : Nat} {x2 : Nat} (h0 : (((0 : Nat) + x0) = x1)) (h1 : (x2 = x0)) : (x2 = x1) := by simp_all
theorem q508 {x0 : Nat} {x1 : Nat} {x2 : Nat} {x3 : Nat} (h0 : (((x0 + (1 : Nat)) + x1) = x2)) (h1 : (x3 = x1)) : (x1 < x2) := by subst_vars; lia
theorem q509 {x0 : Nat} {x1 : Nat} {x2 : Nat} (h0 : (((x0 + (1 : Nat)) + x1) = x2)) : ((x0 + (x1 + (1 : Nat))) = x2) := by subst_vars; lia
end
section
/-- the frames below: functions, their blocks live, none of the base -/
noncomputable def Frs (base h : Heap) (l : List Env) : Prop :=
  ∀ env ∈ l, env.scope.kind = .function ∧ ∃ L m, env.frame = some L ∧ base.get? L = none ∧ h.Ns L m
theorem Frs.fun {base h : Heap} : ∀ {l : List Env}, Frs base h l → h.FunFrames base l
  | [], _ => trivial
  | env :: r, H => by
    refine via fun G_ hG_ => ?_
    obtain ⟨hk, L, m, hf, hn, hns⟩ := H env (.head _)
    refine hG_ ?_
    clear hG_ G_
    exact .cons (by rw [hk]; decide) hf hns hn (Frs.fun fun e he => H e (.tail _ he))
noncomputable def frAddrs (A : Around) : List Addr := match A.frames with
  | some l => l.filterMap (·.frame)
  | none => []
structure Gnd (w : World) (mean : ExcName → Option Value) (mg mb : Str → Option Value) (base : Heap) (A : Around) (h : Heap) : Prop where
  K : (frag.heap_1 w.params).In base
  T : Top viewK (looseW viewK [Str.ofString "ShapeError"]) mean mg mb base
  stays : base.StaysIn h
  fr : ∃ l, A.frames = some l ∧ Frs base h l
  hand : A.handled = none
/-- what stood stands, but for the addresses of S -/
noncomputable def Ext (S : List Addr) (h h' : Heap) : Prop := ∀ b o, h.get? b = some o → b ∉ S → h'.get? b = some o
theorem Ext.refl (S : List Addr) (h : Heap) : Ext S h h := fun _ _ e _ => e
theorem Ext.trans {S : List Addr} {h₁ h₂ h₃ : Heap} (x : Ext S h₁ h₂) (y : Ext S h₂ h₃) : Ext S h₁ h₃ := fun b o e n => y b o (x b o e n) n
theorem Ext.mono {S T : List Addr} {h h' : Heap} (x : Ext S h h') (k : ∀ a ∈ S, a ∈ T) : Ext T h h' := fun b o e n => x b o e fun m => n (k b m)

theorem ns_not {h : Heap} {L : Addr} {m : Str → Option Value} {o : Obj} (hn : h.Ns L m) (ho : h.get? L = some o) : ∃ es n, o.data = .dict es n := by
  refine via fun G_ hG_ => ?_
  obtain ⟨o', es, ep, ho', hd, _⟩ := hn
  refine hG_ ?_
  clear hG_ G_
  rw [ho] at ho'
  cases ho'
  exact ⟨es, ep, hd⟩
section
variable {w : World} {mean : ExcName → Option Value} {mg mb : Str → Option Value} {base : Heap} {A : Around} {E : Value → Shared → Prop} {s : Shared}
theorem Gnd.ext {S : List Addr} {h h' : Heap} (G : Gnd w mean mg mb base A h) (x : Ext S h h') (hS : ∀ a ∈ S, base.get? a = none ∧ a ∉ frAddrs A) : Gnd w mean mg mb base A h' := by
  refine via fun G_ hG_ => ?_
  obtain ⟨K, T, st, ⟨l, hl, F⟩, hh⟩ := G
  refine hG_ ?_
  clear hG_ G_
  refine ⟨K, T, fun b o e => x b o (st b o e) fun m => ?_, ⟨l, hl, fun env he => ?_⟩, hh⟩
  · rw [(hS b m).1] at e; cases e
  · refine via fun G_ hG_ => ?_
    obtain ⟨hk, L, m, hf, hn, o, es, ep, ho, r⟩ := F env he
    refine hG_ ?_
    clear hG_ G_
    refine ⟨hk, L, m, hf, hn, o, es, ep, x L o ho fun q => ?_, r⟩
    refine (hS L q).2 ?_
    unfold frAddrs
    rw [hl]
    exact List.mem_filterMap.mpr ⟨env, he, hf⟩
theorem Gnd.notFr {h : Heap} {a : Addr} {o : Obj} (G : Gnd w mean mg mb base A h) (ho : h.get? a = some o) (hd : ∀ es n, o.data ≠ .dict es n) : a ∉ frAddrs A := by
  refine via fun G_ hG_ => ?_
  obtain ⟨K, T, st, ⟨l, hl, F⟩, hh⟩ := G
  refine hG_ ?_
  clear hG_ G_
  unfold frAddrs
  rw [hl]
  intro q
  refine via fun G_ hG_ => ?_
  obtain ⟨env, he, hf⟩ := List.mem_filterMap.mp q
  refine hG_ ?_
  clear hG_ G_
  refine via fun G_ hG_ => ?_
  obtain ⟨_, L, m, hf', _, hns⟩ := F env he
  refine hG_ ?_
  clear hG_ G_
  rw [hf] at hf'
  cases hf'
  refine via fun G_ hG_ => ?_
  obtain ⟨es, n, e⟩ := ns_not hns ho
  refine hG_ ?_
  clear hG_ G_
  exact hd es n e

/-- into a def -/
theorem enter {R : Result → Shared → Prop} {news : List (Addr × Obj)} {name qual : Str} {params : Arguments} {body : List Stmt} {scope : Scope} {dV kV doc pm cdv ct oc : Value} {an od : Option Addr} {osl : Array (Option Value)} {f : Addr} {args : Args} {binds : List (Str × Value)}
    (G : Gnd w mean mg mb base A s.heap) (hn : ∀ p ∈ news, s.heap.get? p.1 = some p.2 ∧ base.get? p.1 = none ∧ p.1 ∉ frAddrs A)
    (ho : (frag.heap_1 w.params).lookup f = some ⟨oc, od, .func (fnOf name qual params body scope dV kV doc pm an cdv ct), osl⟩) (hcd : codeIn (frag.heap_1 w.params) cdv qual = true) (hroom : A.depth < recursionLimit)
    (hbind : BindsTo s (fnOf name qual params body scope dV kV doc pm an cdv ct) args binds) (hloc : ∀ y ∈ binds, scope.names.lookup y.1 = some .local)
    (h : ∀ g L' h₁ l, (∀ b o, s.heap.get? b = some o → b ∉ news.map (·.1) → g.get? b = some o) → (∀ b o, g.get? b = some o → s.heap.get? b = some o) → L' = s.heap.objs.size →
      Fr g L' h₁ (fun y => binds.reverse.lookup y) → News g L' h₁ news → Below A base l g → (frag.heap_1 w.params).In g → Top viewK (looseW viewK [Str.ofString "ShapeError"]) mean mg mb g → Frs base g l →
      wpAny (model PySem.Challenge.rw_pb0173_01.row.prog w) (A.deeper (envOf qual scope L' f cdv)) (execs body (envOf qual scope L' f cdv))
        (fun fl s' => R (.ok (.ret (match fl with | .ret v => v | _ => .none))) s')
        (fun e s' => wpAny (model PySem.Challenge.rw_pb0173_01.row.prog w) (A.deeper (envOf qual scope L' f cdv)) (leaving (envOf qual scope L' f cdv) e) (fun _ s'' => R (.error e) s'') (fun e' s'' => R (.error e') s'') s')
        { s with heap := h₁, toks := s.toks + binds.length })
    (hco : scope.isCoroutine = false) (hgen : scope.isGenerator = false) (hk : scope.kind = .function)
    (hcell : ∀ x ∈ scope.names, x.2 ≠ .cell) : codeAny (model PySem.Challenge.rw_pb0173_01.row.prog w) A (.call (.ref f) args) R s := by
  refine via fun G_ hG_ => ?_
  obtain ⟨K, T, st, ⟨l, hl, FF⟩, hh⟩ := G
  refine hG_ ?_
  clear hG_ G_
  have nb : ∀ b o, base.get? b = some o → b ∉ news.map (·.1) := fun b o e q => by
    refine via fun G_ hG_ => ?_
    obtain ⟨p, hp, rfl⟩ := List.mem_map.mp q
    refine hG_ ?_
    clear hG_ G_
    rw [(hn p hp).2.1] at e; cases e
  have stg : base.StaysIn (hideAll s.heap (news.map (·.1))) := fun b o e => hideAll_get _ (st b o e) (nb b o e)
  have FG : Frs base (hideAll s.heap (news.map (·.1))) l := fun env he => by
    refine via fun G_ hG_ => ?_
    obtain ⟨hk, L, m, hf, hnb, o, es, ep, hb, r⟩ := FF env he
    refine hG_ ?_
    clear hG_ G_
    refine ⟨hk, L, m, hf, hnb, o, es, ep, hideAll_get _ hb fun q => ?_, r⟩
    refine via fun G_ hG_ => ?_
    obtain ⟨p, hp, rfl⟩ := List.mem_map.mp q
    refine hG_ ?_
    clear hG_ G_
    refine (hn p hp).2.2 ?_
    unfold frAddrs
    rw [hl]
    exact List.mem_filterMap.mpr ⟨env, he, hf⟩
  refine codeAny_call_def (fd := fnX name qual params body scope [] dV kV doc pm an cdv ct) (body := body) (binds := binds) hroom ((K.keeps st) _ _ ho) rfl (T.nolimit.keeps st) (codeRec_of (K.keeps st) hcd) rfl hbind hcell hloc (fun h₁ hns hk₁ => ?_) hco hgen hk
  exact h _ s.heap.objs.size h₁ l (fun b o e n => hideAll_get _ e n) (fun b o e => of_hideAll _ e) rfl
    ⟨hns, fun b o e => hk₁ b o (of_hideAll _ e), Nat.le_of_eq (hideAll_size _ _)⟩
    (fun p hp => ⟨hk₁ _ _ (hn p hp).1, Nat.ne_of_lt (Heap.lt_size (hn p hp).1), hideAll_none _ (List.mem_map_of_mem hp)⟩)
    ⟨hl, stg, FG.fun⟩ (K.keeps stg) (T.keeps stg) FG
theorem ext_of {S : List Addr} {g h h' : Heap} {L' : Addr} {m : Str → Option Value} (hsub : ∀ b o, h.get? b = some o → b ∉ S → g.get? b = some o) (F : Fr g L' h' m) : Ext S h h' := fun b o e n => F.keep b o (hsub b o e n)
end
end
section
open PySem.W.X

/-- room for everything: a claim shown here holds wherever there is more room -/
noncomputable abbrev bigA : Around := { handled := none, depth := 900, frames := none, guards := none, units := 9000 }
theorem of_big {α : Type} {M : Model} {A : Around} {t : Sem α} {Q : α → Shared → Prop} {E : Value → Shared → Prop} {s : Shared} (h : wpAny M bigA t Q E s) (hh : A.handled = none) (hd : A.depth ≤ 900) (hu : A.units ≤ 9000) : wpAny M A t Q E s := by
  intro Γ p hΓ
  refine h Γ p ⟨hΓ.1.trans hh, Nat.le_trans hΓ.2.1 hd, ?_, ?_, Nat.le_trans hΓ.2.2.2.2 hu⟩
  · intro l hl; cases hl
  · intro l hl; cases hl

set_option hygiene false in
local macro_rules | `(tactic| x_close) => `(tactic| (refine' ret _ _ _ ?k; (case k => with_unfolding_all assumption)))
theorem tf_new {w : World} {E : Value → Shared → Prop} {s : Shared} {msg : Str} {x : Int} {tx tm : Tok} {Q : Value → Shared → Prop} (X : (frag.heap_1 w.params).In s.heap)
    (ret : ∀ e t' h', Mem s.heap h' [] [(e, { cls := .ref 61, data := .fields #[.ref t', .none, .none, .none, .bool false, .none] }), (t', { cls := .type "tuple", data := .seq #[.str msg tm, .int x tx] })] → Q (.ref e) { s with heap := h' }) :
    wpAny (model PySem.Challenge.rw_pb0173_01.row.prog w) bigA (call (.builtin "Exception.__new__") [.ref 61, .str msg tm, .int x tx]) Q E s := by
  x_run
end
section
open PySem.W.X

theorem wd_type : typeOf (.builtin "Exception.__init__") = pure (.type "wrapper_descriptor") := by kernel_rfl
theorem wd_get : typeLookup (.type "wrapper_descriptor") "__get__" = pure (some (.builtin "wrapper_descriptor.__get__")) := by rw [typeLookup_type, builtinLookup_eq_fast]; kernel_rfl
set_option hygiene false in
local macro_rules | `(tactic| x_close) => `(tactic| (refine' ret _ _ ?k; (case k => with_unfolding_all assumption)))
theorem tf_wget {w : World} {E : Value → Shared → Prop} {s : Shared} {e : Addr} {od : Option Addr} {vs : Array Value} {sl : Array (Option Value)} {Q : Value → Shared → Prop} (X : (frag.heap_1 w.params).In s.heap) (he : s.heap.get? e = some ⟨.ref 61, od, .fields vs, sl⟩)
    (ret : ∀ q h', Mem s.heap h' [] [(q, { cls := .type "method-wrapper", data := .fields #[.builtin "Exception.__init__", .ref e] })] → Q (.ref q) { s with heap := h' }) :
    wpAny (model PySem.Challenge.rw_pb0173_01.row.prog w) bigA (call (.builtin "wrapper_descriptor.__get__") [.builtin "Exception.__init__", .ref e, .ref 61]) Q E s := by
  x_run
section
variable {w : World} {A : Around} {E : Value → Shared → Prop} {h : Heap} {g : Array GenState} {d : Drawn} {t : Nat} {os : OsState}
theorem tf_mro (X : (frag.heap_1 w.params).In h) : Looks (model PySem.Challenge.rw_pb0173_01.row.prog w) h (mroOf (.ref 61)) [.ref 61, .ref 48, .type "Exception", .type "BaseException", .type "object"] := Looks.of_peek X (by kernel_rfl)
theorem tf_along (X : (frag.heap_1 w.params).In h) : alongIn (frag.heap_1 w.params) "__init__" [.type "Exception", .type "BaseException", .type "object"] = some (some (.builtin "Exception.__init__")) := by kernel_rfl
theorem tf_ga {so e : Addr} {tk : Tok} {od : Option Addr} {vs : Array Value} {sl : Array (Option Value)} {Q : Fin → Shared → Prop} (X : (frag.heap_1 w.params).In h)
    (hso : h.get? so = some { cls := .type "super", dict := none, data := .fields #[.ref 48, .ref e, .ref 61], slots := #[] }) (he : h.get? e = some ⟨.ref 61, od, .fields vs, sl⟩)
    (hh : A.handled = none) (hdp : A.depth ≤ 900) (hu : A.units ≤ 9000) (hne : e ≠ 61)
    (hq : ∀ q h', Mem h h' [] [(q, { cls := .type "method-wrapper", data := .fields #[.builtin "Exception.__init__", .ref e] })] → Q (.done (.ret (.ref q))) ⟨h', g, d, t, os⟩) :
    wpAny (model PySem.Challenge.rw_pb0173_01.row.prog w) A (Builtin.«super.__getattribute__» ⟨[.ref so, .str "__init__" tk], []⟩) Q E ⟨h, g, d, t, os⟩ := by
  have hno : Looks (model PySem.Challenge.rw_pb0173_01.row.prog w) h (opaqueClassAbove (.ref 61)) none := looks_opaque X (by k_is)
  have hdt : ({ cls := .type "super", dict := none, data := .fields #[.ref 48, .ref e, .ref 61], slots := #[] } : Obj).data = .fields #[.ref 48, .ref e, .ref 61] := rfl
  have f0 : (#[.ref 48, .ref e, .ref 61] : Array Value)[0]? = some (.ref 48) := rfl
  have f1 : (#[.ref 48, .ref e, .ref 61] : Array Value)[1]? = some (.ref e) := rfl
  have f2 : (#[.ref 48, .ref e, .ref 61] : Array Value)[2]? = some (.ref 61) := rfl
  have hC := tf_mro (w := w) X
  have hcl : (("__init__" : Str) == ("__class__" : Str)) = false := by decide
  have h61 : (Value.ref e == Value.ref 61) = false := by simp [hne]
  have hdrop : ([Value.ref 61, .ref 48, .type "Exception", .type "BaseException", .type "object"].dropWhile (· != .ref 48)).drop 1 = [.type "Exception", .type "BaseException", .type "object"] := by kernel_rfl
  refine via fun G_ hG_ => ?_
  obtain ⟨KK, X2, al⟩ : ∃ KK : Frag, KK.In h ∧ alongIn KK "__init__" [.type "Exception", .type "BaseException", .type "object"] = some (some (.builtin "Exception.__init__")) := ⟨_, X, tf_along X⟩
  refine hG_ ?_
  clear hG_ G_
  unfold Builtin.«super.__getattribute__»
  repeat (first
    | (with_reducible refine wpAny_field hso hdt f0 ?_) | (with_reducible refine wpAny_field hso hdt f1 ?_) | (with_reducible refine wpAny_field hso hdt f2 ?_)
    | (with_reducible refine ks_wpAny_notOpaque hno ?_)
    | (with_reducible refine Looks.at hC ?_; rw [hdrop]; refine wpAny_bind ?_; refine Hold.out ?_)
    | wp_step
    | dsimp only)
  unfold Hold
  generalize [Value.type "Exception", Value.type "BaseException", Value.type "object"] = ll at al ⊢
  refine ks_forIn_along X2 (fun _ _ => rfl) rfl ?_ al
  try dsimp only
  refine wpAny_bind (wpAny_of_eq wd_type ?_)
  refine wpAny_bind (wpAny_of_eq wd_get ?_)
  try dsimp only
  refine wpAny_bind (wpAny_holding ?_)
  rw [h61, if_neg Bool.false_ne_true]
  refine of_big (tf_wget X he fun q h' D => ?_) hh hdp hu
  refine wpAny_bind (wpAny_pure ?_)
  refine wpAny_pure ?_
  exact wpAny_pure (hq q h' D)

theorem tf_getMethod {so e : Addr} {pl : Sem Bool} {od : Option Addr} {vs : Array Value} {sl : Array (Option Value)} {Q : Value × List Value → Shared → Prop} (X : (frag.heap_1 w.params).In h)
    (hso : h.get? so = some { cls := .type "super", dict := none, data := .fields #[.ref 48, .ref e, .ref 61], slots := #[] }) (he : h.get? e = some ⟨.ref 61, od, .fields vs, sl⟩)
    (hh : A.handled = none) (hdp : A.depth ≤ 800) (hu : A.units ≤ 8900) (hne : e ≠ 61)
    (hq : ∀ q h', Mem h h' [] [(q, { cls := .type "method-wrapper", data := .fields #[.builtin "Exception.__init__", .ref e] })] → Q (.ref q, []) ⟨h', g, d, t + 1, os⟩) :
    wpAny (model PySem.Challenge.rw_pb0173_01.row.prog w) A (getMethod (.ref so) "__init__" pl) Q E ⟨h, g, d, t, os⟩ := by
  have hlk := F.ks_slot_super_ga.lookup
  have hT : ∀ t', (⟨h, g, d, t', os⟩ : Shared).TypeIs (.ref so) "super" := fun _ => ⟨_, hso, rfl⟩
  unfold getMethod
  refine wpAny_bind (wpAny_specialOf (hT _) hlk ?_)
  show wpAny _ _ (if (Manifest.canonical "super.__getattribute__" != "object.__getattribute__") = true then _ else _) _ _ _
  rw [if_pos F.ks_canon_super_ga]
  unfold getAttr getAttrBy
  refine wpAny_bind (wpAny_bind (wpAny_mkText (wpAny_holding (wpAny_bind (wpAny_typeOf (hT _) (wpAny_bind (wpAny_of_eq hlk ?_)))))))
  show wpAny _ _ (getAttrByItsOwn (.ref so) (.str "__init__" t) (.type "super") (.builtin "super.__getattribute__") true false) _ _ _
  unfold getAttrByItsOwn hookBefore callGetattribute boundAndCalled
  refine wpAny_bind (wpAny_of_eq (show (if onTheHeap (.type "super") then typeLookup (.type "super") "__getattr__" else pure none) = pure none from rfl) ?_)
  refine wpAny_bind (wpAny_attempt (wpAny_holding ?_))
  show wpAny _ _ (bindSpecial (.builtin "super.__getattribute__") (.ref so) >>= _) _ _ _
  refine wpAny_bind (wpAny_of_eq (F.ks_slot_super_ga.bind _) ?_)
  refine wpAny_call_entry F.ks_slot_super_ga (hT _) F.ks_entry_super_ga (tf_ga X hso he hh (Nat.le_trans hdp (by decide)) (by show A.units + 1 ≤ 9000; (first | exact q0 (by assumption) | omega)) hne fun q h' D => ⟨_, rfl, ?_⟩) (F.ks_gaArgs_super _ _)
  exact wpAny_pure (wpAny_pure (hq q h' D))

/-- the base's own __init__, called by its bound form: it lays the one argument anew -/
theorem tf_mwcall {e t0 q : Addr} {v : Value} {od : Option Addr} {sl : Array (Option Value)} {Q : Value → Shared → Prop} (X : (frag.heap_1 w.params).In h)
    (he : h.get? e = some ⟨.ref 61, od, .fields #[.ref t0, .none, .none, .none, .bool false, .none], sl⟩)
    (hmw : h.get? q = some { cls := .type "method-wrapper", data := .fields #[.builtin "Exception.__init__", .ref e] })
    (hh : A.handled = none)
    (hq : ∀ q h', h'.get? e = some ⟨.ref 61, od, .fields #[.ref q, .none, .none, .none, .bool false, .none], sl⟩ → (∀ b o, b ≠ e → h.get? b = some o → h'.get? b = some o) → h.objs.size ≤ h'.objs.size → Q .none ⟨h', g, d, t, os⟩) :
    wpAny (model PySem.Challenge.rw_pb0173_01.row.prog w) A (call (.ref q) [v]) Q E ⟨h, g, d, t, os⟩ := by
  have hT : (⟨h, g, d, t, os⟩ : Shared).TypeIs (.ref q) "method-wrapper" := ⟨_, hmw, rfl⟩
  refine wpAny_call (codeAny_of_tree ?_)
  show wpAny _ _ (callAny (.ref q) _) _ _ _
  have F0 := F.excBase_Exception
  have L1 : Looks (model PySem.Challenge.rw_pb0173_01.row.prog w) h (typeOf (.ref e)) (.ref 61) := (Looks.ld (part := none) he).andThen .now
  have L2 : Looks (model PySem.Challenge.rw_pb0173_01.row.prog w) h (isSubtype (.ref 61) (.type "Exception")) true := looks_subIn X (by k_is)
  have hshort := F0.noStar
  have hC := X 61 _ (by k_is)
  repeat (first | with_reducible refine Looks.at L1 ?_ | with_reducible refine Looks.at L2 ?_ | with_reducible refine wpAny_loadPart_at hmw ?_ | with_reducible refine wpAny_loadPart_at hC ?_ | with_reducible refine wpAny_loadPart_at he ?_ | wp_step)
  refine And.intro (Code.quiet_builtin _ (by decide +kernel)) (codeAny_builtin F0.initEntry ?_)
  show wpAny _ _ (Builtin.«BaseException.__init__» ⟨[.ref e, v], []⟩) _ _ _
  unfold Builtin.«BaseException.__init__»
  repeat (first | with_reducible refine wpAny_loadPart_at he ?_ | wp_step)
  refine hq h.objs.size _ ?_ (fun b o hb ho => ?_) ?_
  · exact Heap.get?_update_self _ (Heap.get?_push_of_some _ he) rfl
  · rw [Heap.get?_update_other _ _ (Ne.symm hb)]; exact Heap.get?_push_of_some _ ho
  · rw [Heap.size_after_update, Heap.size_push]; exact Nat.le_succ _
end
end
section
open PySem.W.X

section
variable {w : World} {A : Around} {E : Value → Shared → Prop} {h : Heap} {g : Array GenState} {d : Drawn} {t : Nat} {os : OsState}
theorem tf_passes (e : Addr) : refuseLoop (.ref e) "__setattr__" [.type "Exception", .type "BaseException", .type "object"] = pure () := by kernel_rfl
theorem tf_set {e : Addr} {name : Str} {v : Value} {od : Option Addr} {vs : Array Value} {sl : Array (Option Value)} {Q : Unit → Shared → Prop} (X : (frag.heap_1 w.params).In h)
    (he : h.get? e = some ⟨.ref 61, od, .fields vs, sl⟩) (hf : findIn (frag.heap_1 w.params) (.ref 61) name = some none)
    (hst : wpAny (model PySem.Challenge.rw_pb0173_01.row.prog w) A.in1 (Builtin.ObjectAttr.storeInOwnDict (.ref e) (.ref 61) (.str name t) name v false) (fun fin s' => fin = .done (.ret .none) ∧ Q () s') E ⟨h, g, d, t + 1, os⟩) :
    wpAny (model PySem.Challenge.rw_pb0173_01.row.prog w) A (setAttr (.ref e) name v) Q E ⟨h, g, d, t, os⟩ := by
  have SF := PySem.F.store_object
  have L1 : Looks (model PySem.Challenge.rw_pb0173_01.row.prog w) h (typeOf (.ref e)) (.ref 61) := (Looks.ld (part := none) he).andThen .now
  have L2 : Looks (model PySem.Challenge.rw_pb0173_01.row.prog w) h (isSubtype (.ref 61) (.type "object")) true := looks_subIn X (by k_is)
  have L3 : Looks (model PySem.Challenge.rw_pb0173_01.row.prog w) h (typeLookup (.ref 61) "__setattr__") (some (.builtin "object.__setattr__")) := looks_findIn X (by k_is)
  have L4 : Looks (model PySem.Challenge.rw_pb0173_01.row.prog w) h (typeLookup (.ref 61) name) none := looks_findIn X hf
  have L5 := tf_mro (w := w) X
  have sub : Looks (model PySem.Challenge.rw_pb0173_01.row.prog w) h (isInstance (.ref e) (.type "object")) true := L1.andThen L2
  unfold setAttr
  refine wpAny_bind (wpAny_mkText (wpAny_bind (wpAny_bind (wpAny_bind (L1.at (L3.at (wpAny_holding ?_)))))))
  rw [SF.slot.bind]
  refine wpAny_bind (wpAny_pure (wpAny_bind (wpAny_call ?_)))
  refine codeAny_call_builtin SF.slot.plain SF.entry (@check_slot (model PySem.Challenge.rw_pb0173_01.row.prog w) _ _ _ "object.__setattr__" "object" "__setattr__" (.ref e) [.str name t, v] [] _ SF.kind SF.split sub (SF.args (.ref e) (.str name t) v) ?_)
  show wpAny _ _ (Builtin.«object.__setattr__» ⟨[.ref e, .str name t, v], []⟩) _ _ ⟨h, g, d, t + 1, os⟩
  rw [osa_eq, refuse_eq]
  refine wpAny_bind (wpAny_bind (L1.at (wpAny_bind (L5.at ?_))))
  rw [refuseLoop_ref, refuseLoop_ref, tf_passes]
  refine wpAny_pure (wpAny_bind (L1.at (wpAny_bind (L4.at (wpAny_bind (wpAny_pure ?_))))))
  refine wpAny_mono hst (fun fin s' z => ?_) fun _ _ z => z
  obtain ⟨rfl, z⟩ := z
  exact wpAny_pure (wpAny_pure z)

theorem tf_store {dx : Addr} {name : Str} {tk0 : Tok} {v : Value} {es : List DictEntry} {n : Nat} {Q : PySem.Fin → Shared → Prop}
    (ho : h.get? dx = some (dictOf es n)) (hr : aRefKeyMayBeTheName name es.toArray = false) (hn : putL name (PyData.keyHash w.params name) (.str name t) v es = es ++ [⟨PyData.keyHash w.params name, .str name t, v⟩]) (hp : putN name es n = n + 1) (hl : es.length ≤ 100)
    (hq : ∀ h', h'.get? dx = some (dictOf (es ++ [⟨PyData.keyHash w.params name, .str name t, v⟩]) (n + 1)) → (∀ b o, b ≠ dx → h.get? b = some o → h'.get? b = some o) → h.objs.size ≤ h'.objs.size → Q (.done (.ret .none)) ⟨h', g, d, t + 1, os⟩) :
    wpAny (model PySem.Challenge.rw_pb0173_01.row.prog w) A (Builtin.ObjectAttr.storeInDict dx (.str name tk0) name v) Q E ⟨h, g, d, t, os⟩ := by
  unfold Builtin.ObjectAttr.storeInDict
  refine wpAny_bind (wpAny_pure (wpAny_bind ?_))
  unfold nsSet
  refine wpAny_bind (wpAny_bind (wpAny_askSetting (wpAny_pure (wpAny_bind (wpAny_mkText (wpAny_bind (wpAny_loadPart ho ?_)))))))
  try dsimp only
  rw [hr]
  have e := putName_dict name (PyData.keyHash w.params name) (.str name t) v es n
  rw [hn] at e
  have ho' : (h.update dx (Obj.putName name (PyData.keyHash w.params name) (.str name t) v)).get? dx = some (dictOf (es ++ [⟨PyData.keyHash w.params name, .str name t, v⟩]) (n + 1)) := by
    rw [← hp, ← e]; exact Heap.get?_update_self _ ho (by rw [e]; rfl)
  refine wpAny_updatePart ho ?_
  refine wpAny_bind (wpAny_lookBehind ho' (pastItsLine_dict (by rw [List.size_toArray, sizeLine_eq]; simp only [List.length_append, List.length_cons, List.length_nil]; (first | exact q1 (by assumption) | omega))) ?_)
  exact wpAny_pure (hq _ ho' (fun b o hb q => by rw [Heap.get?_update_other _ _ (Ne.symm hb)]; exact q) (by rw [Heap.size_after_update]; exact Nat.le_refl _))
/-- the first attribute laid: the dict is made -/
theorem tf_set1 {e : Addr} {name : Str} {v : Value} {vs : Array Value} {sl : Array (Option Value)} {Q : Unit → Shared → Prop} (X : (frag.heap_1 w.params).In h)
    (he : h.get? e = some ⟨.ref 61, none, .fields vs, sl⟩) (hf : findIn (frag.heap_1 w.params) (.ref 61) name = some none)
    (hq : ∀ dx h' k tk, h'.get? e = some ⟨.ref 61, some dx, .fields vs, sl⟩ → h'.get? dx = some (dictOf [⟨k, .str name tk, v⟩] 1) → dx ≠ e → h.get? dx = none → (∀ b o, b ≠ e → h.get? b = some o → h'.get? b = some o) → h.objs.size ≤ h'.objs.size → Q () ⟨h', g, d, t + 2, os⟩) :
    wpAny (model PySem.Challenge.rw_pb0173_01.row.prog w) A (setAttr (.ref e) name v) Q E ⟨h, g, d, t, os⟩ := by
  refine tf_set X he hf ?_
  have hC := X 61 _ (by k_is)
  unfold Builtin.ObjectAttr.storeInOwnDict
  have hne : h.objs.size ≠ e := Nat.ne_of_gt (Heap.lt_size he)
  have g1 : ((h.push { cls := .type "dict", data := .dict #[] }).update e fun o => { o with dict := some h.objs.size }).get? h.objs.size = some (dictOf [] 0) := by
    rw [Heap.get?_update_other _ _ (Ne.symm hne)]; exact Heap.get?_push_size _ rfl
  have g2 : ((h.push { cls := .type "dict", data := .dict #[] }).update e fun o => { o with dict := some h.objs.size }).get? e = some ⟨.ref 61, some h.objs.size, .fields vs, sl⟩ :=
    Heap.get?_update_self _ (Heap.get?_push_of_some _ he) rfl
  have g3 : ∀ b o, b ≠ e → h.get? b = some o → ((h.push { cls := .type "dict", data := .dict #[] }).update e fun o => { o with dict := some h.objs.size }).get? b = some o := fun b o hb q => by
    rw [Heap.get?_update_other _ _ (Ne.symm hb)]; exact Heap.get?_push_of_some _ q
  have g4 : h.objs.size ≤ ((h.push { cls := .type "dict", data := .dict #[] }).update e fun o => { o with dict := some h.objs.size }).objs.size := by
    rw [Heap.size_after_update, Heap.size_push]; exact Nat.le_succ _
  have fin : ∀ (H : Heap), H.get? h.objs.size = some (dictOf [] 0) → H.get? e = some ⟨.ref 61, some h.objs.size, .fields vs, sl⟩ → (∀ b o, b ≠ e → h.get? b = some o → H.get? b = some o) → h.objs.size ≤ H.objs.size →
      wpAny (model PySem.Challenge.rw_pb0173_01.row.prog w) A.in1 (Builtin.ObjectAttr.storeInDict h.objs.size (.str name t) name v) (fun fin s' => fin = .done (.ret .none) ∧ Q () s') E ⟨H, g, d, t + 1, os⟩ := by
    intro H k1 k2 k3 k4
    refine tf_store k1 rfl rfl rfl (by decide) fun h' q1 q2 q3 => ⟨rfl, ?_⟩
    refine hq _ h' _ _ (q2 _ _ (Ne.symm hne) k2) q1 hne (Heap.get?_none_of_le (Nat.le_refl _)) (fun b o hb q => q2 _ _ (fun z => ?_) (k3 b o hb q)) (Nat.le_trans k4 q3)
    rw [z] at q; exact absurd (Heap.lt_size q) (Nat.lt_irrefl _)
  repeat (first | with_reducible refine fin _ g1 g2 g3 g4 | with_reducible refine wpAny_loadPart_at hC ?_ | with_reducible refine wpAny_loadPart_at he ?_ | with_reducible refine wpAny_askSetting ?_ | wp_step)
/-- a second attribute -/
theorem tf_set2 {e dx : Addr} {name : Str} {v : Value} {vs : Array Value} {sl : Array (Option Value)} {en : DictEntry} {Q : Unit → Shared → Prop} (X : (frag.heap_1 w.params).In h)
    (he : h.get? e = some ⟨.ref 61, some dx, .fields vs, sl⟩) (hx : h.get? dx = some (dictOf [en] 1)) (hk : en.key.isStr name = false) (hr : en.refKey = false) (hf : findIn (frag.heap_1 w.params) (.ref 61) name = some none)
    (hq : ∀ h' k tk, h'.get? dx = some (dictOf [en, ⟨k, .str name tk, v⟩] 2) → (∀ b o, b ≠ dx → h.get? b = some o → h'.get? b = some o) → h.objs.size ≤ h'.objs.size → Q () ⟨h', g, d, t + 2, os⟩) :
    wpAny (model PySem.Challenge.rw_pb0173_01.row.prog w) A (setAttr (.ref e) name v) Q E ⟨h, g, d, t, os⟩ := by
  refine tf_set X he hf ?_
  have hC := X 61 _ (by k_is)
  unfold Builtin.ObjectAttr.storeInOwnDict
  have fin : wpAny (model PySem.Challenge.rw_pb0173_01.row.prog w) A.in1 (Builtin.ObjectAttr.storeInDict dx (.str name t) name v) (fun fin s' => fin = .done (.ret .none) ∧ Q () s') E ⟨h, g, d, t + 1, os⟩ := by
    refine tf_store hx (by simp [aRefKeyMayBeTheName_at, hr]) (by simp [putL, hk]) (by simp [putN, hk]) (by simp) fun h' q1 q2 q3 => ⟨rfl, ?_⟩
    exact hq h' _ _ q1 q2 q3
  repeat (first | with_reducible refine fin | with_reducible refine wpAny_loadPart_at hC ?_ | with_reducible refine wpAny_loadPart_at he ?_ | with_reducible refine wpAny_askSetting ?_ | wp_step)
end
end
section
local macro_rules | `(tactic| units_room) => `(tactic| (have hcL9 := cLine_is; (try simp only [units_under_make, units_in1, units_deeper, Around.mark_units, units_caller] at *); omega))
local macro_rules | `(tactic| k_units) => `(tactic| units_room)
local macro_rules | `(tactic| k_all) => `(tactic| assumption)
local macro_rules | `(tactic| k_room) => `(tactic| ((try simp only [depth_mark, depth_under_make, depth_under_kw, depth_in1, depth_deeper, depth_caller] at *); omega))
section
open PySem.W.X


theorem Fr.but {g h h' : Heap} {L e : Addr} {m : Str → Option Value} (F : Fr g L h m) (hg : g.get? e = none) (hL : L ≠ e) (k : ∀ b o, b ≠ e → h.get? b = some o → h'.get? b = some o) : Fr g L h' m := by
  refine via fun G_ hG_ => ?_
  obtain ⟨oL, es, ep, ho, r⟩ := F.ns
  refine hG_ ?_
  clear hG_ G_
  exact ⟨⟨oL, es, ep, k _ _ hL ho, r⟩, fun b o q => k b o (fun z => by rw [z, hg] at q; cases q) (F.keep b o q), F.above⟩

theorem callWith_one {M : Model} {A : Around} {E : Value → Shared → Prop} {s : Shared} {env : Env} {pos : Pos} {f : Value} {first : List Value} {Q : Value → Shared → Prop} {P : Heap → Prop} {e : Expr}
    (hk : ∀ h, P h → ∃ k, (k = Keeper.frame ∨ k = Keeper.machine ∨ k = Keeper.boundFrame) ∧ Looks M h (keeperOf f) k)
    (h : wpAny M A (eval e env) (fun v s₁ => P s₁.heap ∧ wpAny M A (call f (first ++ [v])) Q E s₁) E s) (he : starEach (e :: []) env = (false, eval e env) :: starEach [] env := by rfl) :
    wpAny M A (callWith pos f first (backTo pos (starEach [e] env)) []) Q E s := by
  rw [he]
  refine callWith_of rfl hk (evalArgs_plain ?_)
  exact Calls.spliced_cons (x := eval e env) (wpAny_mono h (fun v s₁ q => Calls.spliced_nil q) fun _ _ z => z)

theorem tf_init {w : World} {mean : ExcName → Option Value} {mg mb : Str → Option Value} {base : Heap} {A : Around} {s : Shared} {e t0 : Addr} {msg : Str} {x : Int} {tm tx : Tok} {R : Result → Shared → Prop} (G : Gnd w mean mg mb base A s.heap) (hA : A.depth ≤ 700) (hu : A.units ≤ 8000)
    (hb : base.get? e = none) (he : s.heap.get? e = some ⟨.ref 61, none, .fields #[.ref t0, .none, .none, .none, .bool false, .none], #[]⟩)
    (hq : ∀ dx q h' k1 tk1 k2 tk2 tk, h'.get? e = some ⟨.ref 61, some dx, .fields #[.ref q, .none, .none, .none, .bool false, .none], #[]⟩ → h'.get? dx = some (dictOf [⟨k1, .str "what" tk1, .str msg tm⟩, ⟨k2, .str "at" tk2, .int x tx⟩] 2) →
      dx ≠ e → s.heap.get? dx = none → (∀ b o, b ≠ e → s.heap.get? b = some o → h'.get? b = some o) → R (.ok (.ret .none)) { s with heap := h', toks := tk }) :
    codeAny (model PySem.Challenge.rw_pb0173_01.row.prog w) A (.call (.ref 38) ⟨[.ref e, .str msg tm, .int x tx], []⟩) R s := by
  have hh := G.hand
  refine via fun G_ hG_ => ?_
  obtain ⟨K, T, st, _, _⟩ := G
  refine hG_ ?_
  clear hG_ G_
  have stg : base.StaysIn (hideAll s.heap [e]) := fun b o q => hideAll_get [e] (st b o q) (fun z => by cases List.mem_singleton.mp z; rw [hb] at q; cases q)
  have Kg := K.keeps stg
  have Tg := T.keeps stg
  have o38 := (K.keeps st) 38 _ (by k_is)
  have hcd : s.heap.CodeRec (.ref 37) (Str.ofString "ShapeError.__init__") := codeRec_of (K.keeps st) (by k_is)
  refine ks_codeAny_call_defAt (fd := ksFn _ _ _ _ _ _ _ _ _ _ _ _ 25) (binds := [(Str.ofString "self", .ref e), (Str.ofString "what", .str msg tm), (Str.ofString "at", .int x tx)]) (by simp only [recursionLimit]; (first | exact q2 (by assumption) | omega)) o38 rfl (T.nolimit.keeps st) hcd rfl (BindsTo.of_defaults rfl ((K.keeps st) 30 _ (by k_is)) rfl rfl rfl) (by decide) (locs rfl) (fun h₁ hns hk₁ => ?_) rfl rfl rfl
  have hge : (hideAll s.heap [e]).get? e = none := hideAll_none [e] (.head _)
  have hLe : s.heap.objs.size ≠ e := Nat.ne_of_gt (Heap.lt_size he)
  have F : Fr (hideAll s.heap [e]) s.heap.objs.size h₁ (fun y => ([(Str.ofString "self", Value.ref e), (Str.ofString "what", .str msg tm), (Str.ofString "at", .int x tx)] : List (Str × Value)).reverse.lookup y) :=
    ⟨hns, fun b o q => hk₁ b o (of_hideAll _ q), Nat.le_of_eq (hideAll_size _ _)⟩
  have he₁ := hk₁ _ _ he
  have N : News (hideAll s.heap [e]) s.heap.objs.size h₁ [(e, ⟨.ref 61, none, .fields #[.ref t0, .none, .none, .none, .bool false, .none], #[]⟩)] := fun p hp => by
    cases List.mem_singleton.mp hp
    exact ⟨he₁, Ne.symm hLe, hge⟩
  have I : InstAt h₁ e ⟨.ref 61, none, .fields #[.ref t0, .none, .none, .none, .bool false, .none], #[]⟩ 61 none := ⟨he₁, rfl, rfl, trivial⟩
  have hne : e ≠ 61 := fun z => by
    have q := K 61 _ (by k_is)
    rw [z] at hb
    rw [hb] at q
    cases q
  have sz : s.heap.objs.size ≤ h₁.objs.size := Nat.le_of_lt (F.ns.lt)
  refine ks_wpAt_execs_cons (ks_wpAt_Expr_any (ks_wpAt_MethodCall (pl := ?pl) ?_ ?he))
  case he => rfl
  refine ks_node F Kg N Tg (by k_is) rfl rfl I (by k_is) rfl (by decide +kernel) (by k_is) (by k_is) (by k_is) (by k_is) (by decide) rfl rfl rfl rfl (by decide +kernel) (by first | boot_by_name | rfl | kernel_rfl) ?_
  intro so h₂ F₂ N₂ l₂
  have hso := (N₂ _ (.head _)).1
  have he₂ := (N₂ _ (.tail _ (.head _))).1
  have hse : so ≠ e := Nat.ne_of_gt (l₂ _ (.head _))
  refine tf_getMethod (A := A.deeper _) (h := h₂) (Kg.keeps F₂.keep) hso he₂ hh (by show A.depth + 1 ≤ 800; (first | exact q3 (by assumption) | omega)) (by show A.units + 3 ≤ 8900; (first | exact q4 (by assumption) | omega)) hne fun q h₃ D => ?_
  try dsimp only
  have k₃ : ∀ b o, h₂.get? b = some o → h₃.get? b = some o := fun b o z => D.keep b o z (by simp [away])
  have F₃ := F₂.keeps k₃
  have he₃ := k₃ _ _ he₂
  have hq₃ := (D.nw _ (.head _)).1
  have hqe : q ≠ e := fun z => by
    have := (D.nw _ (.head _)).2
    rw [z, he₂] at this
    cases this
  refine callWith_one (P := fun hp => hp.get? q = some { cls := .type "method-wrapper", data := .fields #[.builtin "Exception.__init__", .ref e] }) (fun hp hP => ⟨.machine, .inr (.inl rfl), (Looks.ld (part := none) hP).andThen .now⟩) ?_ rfl
  refine nameX_L (cl := [("__class__", 25)]) F₃ rfl ⟨hq₃, ?_⟩ rfl rfl (by decide)
  refine tf_mwcall (A := A.deeper _) (h := h₃) (Kg.keeps F₃.keep) he₃ hq₃ hh fun t1 h₄ he₄ k₄ sz₄ => ?_
  have F₄ := Fr.but F₃ hge hLe k₄
  refine ks_wpAt_execs_cons (ks_wpAt_Assign_Attr (wpAt_of_wpAny ?_) rfl)
  refine nameX_L (cl := [("__class__", 25)]) F₄ rfl ?_ rfl rfl (by decide)
  refine nameX_L (cl := [("__class__", 25)]) F₄ rfl ?_ rfl rfl (by decide)
  refine tf_set1 (A := A.deeper _) (h := h₄) (Kg.keeps F₄.keep) he₄ (by k_is) fun dx h₅ kw1 tw1 he₅ hx₅ hde hdn k₅ sz₅ => ?_
  have F₅ := Fr.but F₄ hge hLe k₅
  refine ks_wpAt_execs_cons (ks_wpAt_Assign_Attr (wpAt_of_wpAny ?_) rfl)
  refine nameX_L (cl := [("__class__", 25)]) F₅ rfl ?_ rfl rfl (by decide)
  refine nameX_L (cl := [("__class__", 25)]) F₅ rfl ?_ rfl rfl (by decide)
  refine tf_set2 (A := A.deeper _) (h := h₅) (Kg.keeps F₅.keep) he₅ hx₅ (show (Str.ofString "what" == Str.ofString "at") = false by decide) rfl (by k_is) fun h₆ kw2 tw2 hx₆ k₆ sz₆ => ?_
  refine wpAt_of_wpAny (wpAny_execs_nil ?_)
  have dn : s.heap.get? dx = none := by
    cases z : s.heap.get? dx with
    | none => rfl
    | some o =>
      have := k₄ _ _ hde (k₃ _ _ (F₂.keep _ _ (hideAll_get [e] z (fun y => hde (List.mem_singleton.mp y)))))
      rw [hdn] at this
      cases this
  refine hq dx t1 h₆ kw1 tw1 kw2 tw2 _ (k₆ _ _ (Ne.symm hde) he₅) hx₆ hde dn (fun b o hbe z => ?_)
  · refine k₆ _ _ (fun y => ?_) (k₅ _ _ hbe (k₄ _ _ hbe (k₃ _ _ (F₂.keep _ _ (hideAll_get [e] z (fun y => hbe (List.mem_singleton.mp y)))))))
    rw [y, dn] at z; cases z
end
section
open PySem.W.X


theorem Gnd.underTC {w : World} {mean : ExcName → Option Value} {mg mb : Str → Option Value} {base : Heap} {A : Around} {h : Heap} (G : Gnd w mean mg mb base A h) (args : Args) : Gnd w mean mg mb base (A.under (.builtin "type.__call__" args)) h := by
  refine via fun G_ hG_ => ?_
  obtain ⟨K, T, st, ⟨l, hl, F⟩, hh⟩ := G
  refine hG_ ?_
  clear hG_ G_
  exact ⟨K, T, st, ⟨l, by
    have e : (Code.builtin "type.__call__" args).envs = [] := rfl
    show pushEnvs (Code.builtin "type.__call__" args).envs A.frames = some l
    rw [e]; exact hl, F⟩, hh⟩
theorem tf_call {w : World} {mean : ExcName → Option Value} {mg mb : Str → Option Value} {base : Heap} {A : Around} {E : Value → Shared → Prop} {s : Shared} {msg : Str} {x : Int} {tm tx : Tok} {Q : Value → Shared → Prop} (G : Gnd w mean mg mb base A s.heap) (hA : A.depth ≤ 690) (hu : A.units ≤ 7900)
    (hq : ∀ e dx q h' k1 tk1 k2 tk2 tk, h'.get? e = some ⟨.ref 61, some dx, .fields #[.ref q, .none, .none, .none, .bool false, .none], #[]⟩ → h'.get? dx = some (dictOf [⟨k1, .str "what" tk1, .str msg tm⟩, ⟨k2, .str "at" tk2, .int x tx⟩] 2) →
      dx ≠ e → s.heap.get? dx = none → s.heap.get? e = none → (∀ b o, s.heap.get? b = some o → h'.get? b = some o) → Q (.ref e) { s with heap := h', toks := tk }) :
    wpAny (model PySem.Challenge.rw_pb0173_01.row.prog w) A (call (.ref 61) [.str msg tm, .int x tx]) Q E s := by
  refine via fun G_ hG_ => ?_
  obtain ⟨h, g, d, t, os⟩ := s
  refine hG_ ?_
  clear hG_ G_
  have hh := G.hand
  have X := G.K.keeps G.stays
  have hC := X 61 _ (by k_is)
  have L1 : Looks (model PySem.Challenge.rw_pb0173_01.row.prog w) h (specialOf (.ref 61) "__call__") (some (.builtin "type.__call__")) := looks_specialIn X (by k_is)
  have L2 : Looks (model PySem.Challenge.rw_pb0173_01.row.prog w) h (isInstance (.ref 61) (.type "type")) true := looks_instIn X (by k_is)
  have L3 := tf_mro (w := w) X
  have L4 : Looks (model PySem.Challenge.rw_pb0173_01.row.prog w) h (Bind.madeBy (.ref 61)) (some "Exception.__new__") := Looks.of_peek X (by kernel_rfl)
  refine wpAny_call (codeAny_of_tree ?_)
  show wpAny _ _ (callAny (.ref 61) _) _ _ _
  refine nd_load hC ?_
  show wpAny _ _ (callAny.viaDunder (.ref 61) _) _ _ _
  unfold callAny.viaDunder
  refine wpAny_bind (L1.at ?_)
  try dsimp only
  rw [tc_bind]
  refine wpAny_bind (wpAny_pure (wpAny_bind (wpAny_pure ?_)))
  refine wpAny_pure (a := Fin.again (.call (.builtin "type.__call__") ⟨[.ref 61, .str msg tm, .int x tx], []⟩)) (And.intro rfl ?_)
  refine codeAny_call_builtin_at (Code.quiet_builtin _ (by decide +kernel)) entry_typeCall (check_slot tc_kind tc_split L2 (tc_args _ _ _) ?_)
  unfold Builtin.«type.__call__»
  have hn1 : ∀ args : Args, (A.under (.builtin "type.__call__" args)).handled = none := fun _ => hh
  have hn2 : (A.under (.builtin "type.__call__" ⟨[.ref 61, .str msg tm, .int x tx], []⟩)).depth ≤ 700 := by
    simp only [depth_under_make]; (first | exact q5 (by assumption) | omega)
  have hn3 : (A.under (.builtin "type.__call__" ⟨[.ref 61, .str msg tm, .int x tx], []⟩)).units ≤ 8000 := by
    simp only [units_under_make]; (first | exact q6 (by assumption) | omega)
  repeat (first | ((with_reducible show wpAny _ _ (call _ _ _) _ _ _); refine Hold.out ?_) | lk)
  unfold Hold
  refine of_big (tf_new X fun e t0 h₁ D => ?_) (hn1 _) (Nat.le_trans hn2 (by decide)) (Nat.le_trans hn3 (by decide))
  have k₁ : ∀ b o, h.get? b = some o → h₁.get? b = some o := fun b o z => D.keep b o z (by simp [away])
  have he₁ := (D.nw _ (.head _)).1
  have hn₁ := (D.nw _ (.head _)).2
  have X₁ := X.keeps k₁
  have hb : base.get? e = none := by
    cases z : base.get? e with
    | none => rfl
    | some o => have := G.stays _ _ z; rw [hn₁] at this; cases this
  have M1 : Looks (model PySem.Challenge.rw_pb0173_01.row.prog w) h₁ (typeOf (.ref e)) (.ref 61) := (Looks.ld (part := none) he₁).andThen .now
  have M2 : Looks (model PySem.Challenge.rw_pb0173_01.row.prog w) h₁ (isSubtype (.ref 61) (.ref 61)) true := looks_subIn X₁ (by k_is)
  have M3 : Looks (model PySem.Challenge.rw_pb0173_01.row.prog w) h₁ (typeLookup (.ref 61) "__init__") (some (.ref 38)) := looks_findIn X₁ (by k_is)
  have M4 : Looks (model PySem.Challenge.rw_pb0173_01.row.prog w) h₁ (bindSpecial (.ref 38) (.ref e)) (.ref 38, [.ref e]) := bind_fn X₁ _ (by k_is)
  have G₁ : Gnd w mean mg mb base (A.under (.builtin "type.__call__" ⟨[.ref 61, .str msg tm, .int x tx], []⟩)) h₁ := (G.ext (S := []) (fun b o z _ => k₁ b o z) (fun _ m => nomatch m)).underTC _
  show wpAny _ _ _ _ _ ⟨h₁, g, d, t, os⟩
  unfold isInstance callSpecial? specialOf
  repeat (first | ((with_reducible show wpAny _ _ (call _ _ _) _ _ _); refine Hold.out ?_) | lk)
  unfold Hold
  refine wpAny_call (tf_init (s := ⟨h₁, g, d, t, os⟩) G₁ hn2 hn3 hb he₁ fun dx q h₂ kw1 tk1 kw2 tk2 tk he₂ hx₂ hde hdn k₂ => ?_)
  refine wpAny_pure (wpAny_pure ?_)
  refine hq e dx q h₂ kw1 tk1 kw2 tk2 tk he₂ hx₂ hde ?_ hn₁ fun b o z => k₂ b o (fun y => ?_) (k₁ b o z)
  · cases z : h.get? dx with
    | none => rfl
    | some o =>
      have := k₁ _ _ z
      rw [hdn] at this
      cases this
  · rw [y, hn₁] at z; cases z
end
section
theorem empty_get (a : Addr) : (default : Heap).get? a = none := rfl

noncomputable def frs (l : List Env) : List Addr := l.filterMap (·.frame)
theorem frAddrs_of {A : Around} {l : List Env} (h : A.frames = some l) : frAddrs A = frs l := by unfold frAddrs; rw [h]; rfl

/-- all that stood in h stands, but for S; frames up to their slots -/
structure Kept (fr S : List Addr) (h h' : Heap) : Prop where
  live : ∀ b o, h.get? b = some o → ∃ o', h'.get? b = some o'
  keep : ∀ b o, h.get? b = some o → b ∉ S → b ∉ fr → h'.get? b = some o
  slot : ∀ b o, h.get? b = some o → b ∉ S → b ∈ fr → ∃ sl, h'.get? b = some { o with slots := sl }

/-- the exception's own parts -/
structure ExcAt (e dx : Addr) (x : Int) (tb : Value) (h : Heap) : Prop where
  at_ : ∃ q sl c3 c4 c5 c6, h.get? e = some ⟨.ref 61, some dx, .fields #[q, tb, c3, c4, c5, c6], sl⟩
  dict : ∃ k1 tk1 v1 k2 tk2 tx n, h.get? dx = some (dictOf [⟨k1, .str "what" tk1, v1⟩, ⟨k2, .str "at" tk2, .int x tx⟩] n)

/-- an exception in flight, seen from the heap h₀ -/
noncomputable def Fly (fr S : List Addr) (h₀ : Heap) (e : Addr) (x : Int) (h : Heap) : Prop :=
  ∃ dx T oT ts, ExcAt e dx x (.ref T) h ∧ h.get? T = some oT ∧ oT.data = .fields ts ∧ (∃ v, ts[3]? = some v) ∧ T ≠ e ∧ T ≠ dx ∧ dx ≠ e ∧
    h₀.get? e = none ∧ h₀.get? dx = none ∧ h₀.get? T = none ∧ dx ∉ fr ∧ Kept fr S h₀ h

section
variable {M : Model} {A : Around} {E : Value → Shared → Prop} {s : Shared}

theorem entry_core {env : Env} {outer : List Env} {L e : Addr} {oe : Obj} {vs : Array Value} {head : Value} {hadNext : Bool} {Q : Unit → Shared → Prop}
    (hfr : A.frames = some (env :: outer)) (hl : s.heap.FunFrames default (env :: outer)) (hf : env.frame = some L)
    (he : s.heap.get? e = some oe) (hd : oe.data = .fields vs) (hsz : 1 < vs.size) (hfree : ∀ ws, ({ oe with data := Data.fields ws } : Obj).isFreed = false)
    (h : ∀ h' T oT ts, h'.get? e = some { oe with data := .fields (vs.setIfInBounds 1 (.ref T)) } → h'.get? T = some oT → oT.data = .fields ts → ts[3]? = some .none → T ≠ e → s.heap.get? T = none →
      (∀ b o, s.heap.get? b = some o → b ≠ e → b ∉ frs (env :: outer) → h'.get? b = some o) → (∀ b o, s.heap.get? b = some o → b ≠ e → ∃ sl, h'.get? b = some { o with slots := sl }) → Q () { s with heap := h' }) :
    wpAny M A (do let a ← frameOf env; let pl ← entryPlaceOf L hadNext; let b ← EntryCells.newEntry head a .none (rawInt L) .none pl; setField (.ref e) 1 b) (fun _ s' => wpAny M A (setFlight (.ref e) none) Q E s') E s := by
  have hene : e ∉ (env :: outer).filterMap (·.frame) := fun hm => by
    refine via fun G_ hG_ => ?_
    obtain ⟨_, o, ho, hnf⟩ := hl.mem hm
    refine hG_ ?_
    clear hG_ G_
    rw [he] at ho; cases ho; exact hnf vs hd
  refine wpAny_bind (wpAny_frameOf_fun hfr hl hf fun h₁ hs₁ => wpAny_bind (wpAny_entryPlaceOf fun pl hpl => ?_))
  unfold EntryCells.newEntry newFields
  refine wpAny_bind (wpAny_newObj_type ?_ (hpl.sizeOk5 _ _ _ _ _))
  have he₁ : h₁.get? e = some oe := (hs₁.2.1 e hene).trans he
  generalize hob : ({ cls := .type "traceback", dict := none, data := .fields ([head, .ref L, .none, rawInt L, .none] ++ (if pl.isEmpty then List.replicate 6 Value.none else pl)).toArray } : Obj) = ob
  have he₂ := Heap.get?_push_of_some (h := h₁) ob he₁
  have hT₂ : (h₁.push ob).get? h₁.objs.size = some ob := Heap.get?_push_size h₁ (by rw [← hob]; rfl)
  refine wpAny_setField he₂ hd hsz ?_
  have hTe : h₁.objs.size ≠ e := Nat.ne_of_gt (Heap.lt_size he₁)
  have hd₃ := Obj.data_mapFields hd (·.setIfInBounds 1 (Value.ref h₁.objs.size))
  have e₃ : (Obj.mapFields (·.setIfInBounds 1 (Value.ref h₁.objs.size)) oe) = { oe with data := .fields (vs.setIfInBounds 1 (.ref h₁.objs.size)) } := by
    refine via fun G_ hG_ => ?_
    obtain ⟨a1, a2, a3, a4⟩ := oe
    refine hG_ ?_
    clear hG_ G_
    dsimp only at hd
    subst hd
    rfl
  have he₃ := Heap.get?_update_self (Obj.mapFields (·.setIfInBounds 1 (Value.ref h₁.objs.size))) he₂ (by rw [e₃]; exact hfree _)
  have hT₃ := (Heap.get?_update_other (h₁.push ob) (Obj.mapFields (·.setIfInBounds 1 (Value.ref h₁.objs.size))) (Ne.symm hTe)).trans hT₂
  unfold setFlight
  refine wpAny_bind (wpAny_field he₃ hd₃ (x := .ref h₁.objs.size) (by simp [hsz]) ?_)
  rw [if_pos (show (Value.ref h₁.objs.size != Value.none) = true from by simp)]
  have hbd : ob.data = .fields ([head, .ref L, .none, rawInt L, .none] ++ (if pl.isEmpty then List.replicate 6 Value.none else pl)).toArray := by rw [← hob]
  refine wpAny_setField hT₃ hbd (by simp only [List.size_toArray, List.length_append, List.length_cons, List.length_nil] <;> (first | exact q7 | omega)) ?_
  have other : ∀ b o, b ≠ e → h₁.get? b = some o → (((h₁.push ob).update e (Obj.mapFields (·.setIfInBounds 1 (Value.ref h₁.objs.size)))).update h₁.objs.size (Obj.mapFields (·.setIfInBounds 3 ((none : Option Addr).elim Value.none fun f => rawInt f)))).get? b = some o := fun b o hbe hb => by
    rw [Heap.get?_update_other _ _ (show h₁.objs.size ≠ b from Nat.ne_of_gt (Heap.lt_size hb)), Heap.get?_update_other _ _ (Ne.symm hbe)]
    exact Heap.get?_push_of_some _ hb
  have hTn : s.heap.get? h₁.objs.size = none := by
    cases z : s.heap.get? h₁.objs.size with
    | none => rfl
    | some o => exact absurd (Heap.lt_size z) (by rw [hs₁.1]; exact Nat.lt_irrefl _)
  refine h _ h₁.objs.size _ _ ?_ (Heap.get?_update_self _ hT₃ (Obj.isFreed_of_fields (Obj.data_mapFields hbd _))) (Obj.data_mapFields hbd _) ?_ hTe hTn (fun b o hb hbe hbf => other b o hbe ((hs₁.2.1 b hbf).trans hb)) fun b o hb hbe => ?_
  · rw [Heap.get?_update_other _ _ hTe, he₃, e₃]
  · simp
  · obtain ⟨sl, hsl⟩ := hs₁.2.2 b o hb
    exact ⟨sl, other b _ hbe hsl⟩

theorem Frs.kept {base h h' : Heap} {l : List Env} {fr S : List Addr} (F : Frs base h l) (K : Kept fr S h h') (hS : ∀ a ∈ frs l, a ∉ S) : Frs base h' l := fun env he => by
  refine via fun G_ hG_ => ?_
  obtain ⟨hk, L, m, hf, hn, o, es, ep, ho, hd, r⟩ := F env he
  refine hG_ ?_
  clear hG_ G_
  have hm : L ∈ frs l := List.mem_filterMap.mpr ⟨env, he, hf⟩
  by_cases q : L ∈ fr
  · obtain ⟨sl, z⟩ := K.slot L o ho (hS L hm) q
    exact ⟨hk, L, m, hf, hn, _, es, ep, z, hd, r⟩
  · exact ⟨hk, L, m, hf, hn, o, es, ep, K.keep L o ho (hS L hm) q, hd, r⟩
theorem Frs.dflt {base h : Heap} {l : List Env} (F : Frs base h l) : h.FunFrames default l :=
  Frs.fun (base := default) fun env he => let ⟨hk, L, m, hf, _, r⟩ := F env he; ⟨hk, L, m, hf, rfl, r⟩
theorem Frs.notFields {base h : Heap} {l : List Env} {a : Addr} {o : Obj} {vs : Array Value} (F : Frs base h l) (ho : h.get? a = some o) (hd : o.data = .fields vs) : a ∉ frs l := fun m => by
  refine via fun G_ hG_ => ?_
  obtain ⟨_, o', ho', hn⟩ := F.dflt.mem m
  refine hG_ ?_
  clear hG_ G_
  rw [ho] at ho'; cases ho'
  exact hn vs hd

theorem leave_first {base : Heap} {env : Env} {outer : List Env} {L e dx : Addr} {x : Int} {fr S : List Addr} {h₀ : Heap} {Q : Unit → Shared → Prop}
    (hfr : A.frames = some (env :: outer)) (hl : Frs base s.heap (env :: outer)) (hf : env.frame = some L) (hx : ExcAt e dx x .none s.heap) (hde : dx ≠ e) (hdf : dx ∉ frs (env :: outer)) (hdfr : dx ∉ fr)
    (n1 : h₀.get? e = none) (n2 : h₀.get? dx = none) (hk : Kept fr S h₀ s.heap) (sub : ∀ b ∈ frs (env :: outer), ∀ o, h₀.get? b = some o → b ∈ fr)
    (hQ : ∀ h', Fly fr S h₀ e x h' → Q () { s with heap := h' }) : wpAny M A (leaving env (.ref e)) Q E s := by
  refine via fun G_ hG_ => ?_
  obtain ⟨⟨q, sl, c3, c4, c5, c6, he⟩, k1, tk1, v1, k2, tk2, tx, n, hd⟩ := hx
  refine hG_ ?_
  clear hG_ G_
  unfold leaving noteFrame
  simp only [hf]
  refine wpAny_bind (wpAny_bind (wpAny_field he rfl (x := .none) rfl ?_))
  rw [if_neg (by decide)]
  refine entry_core hfr hl.dflt hf he rfl (by simp) (fun _ => rfl) fun h' T oT ts he' hT hTd h3 hTe hTn keep slot => hQ h' ?_
  refine ⟨dx, T, oT, ts, ⟨⟨q, sl, c3, c4, c5, c6, he'⟩, k1, tk1, v1, k2, tk2, tx, n, keep _ _ hd hde hdf⟩, hT, hTd, ⟨_, h3⟩, hTe, fun z => ?_, hde, n1, n2, ?_, hdfr, ?_, ?_, ?_⟩
  · rw [z, hd] at hTn; cases hTn
  · cases z : h₀.get? T with
    | none => rfl
    | some o => obtain ⟨o', y⟩ := hk.live _ _ z; rw [hTn] at y; cases y
  · intro b o z
    obtain ⟨o', y⟩ := hk.live b o z
    obtain ⟨sl, y'⟩ := slot b o' y (fun w => by rw [w, n1] at z; cases z)
    exact ⟨_, y'⟩
  · intro b o z hS hb
    exact keep b o (hk.keep b o z hS hb) (fun w => by rw [w, n1] at z; cases z) fun m => hb (sub b m o z)
  · intro b o z hS hb
    obtain ⟨sl, y⟩ := hk.slot b o z hS hb
    obtain ⟨sl', y'⟩ := slot b _ y (fun w => by rw [w, n1] at z; cases z)
    exact ⟨sl', y'⟩

theorem entry_raw {env : Env} {outer : List Env} {L e : Addr} {oe : Obj} {vs : Array Value} {head : Value} {hadNext : Bool} {Q : Unit → Shared → Prop}
    (hfr : A.frames = some (env :: outer)) (hl : s.heap.FunFrames default (env :: outer)) (hf : env.frame = some L)
    (he : s.heap.get? e = some oe) (hd : oe.data = .fields vs) (hsz : 1 < vs.size) (hfree : ∀ ws, ({ oe with data := Data.fields ws } : Obj).isFreed = false)
    (h : ∀ h' T oT ts, h'.get? e = some { oe with data := .fields (vs.setIfInBounds 1 (.ref T)) } → h'.get? T = some oT → oT.data = .fields ts → (∃ v, ts[3]? = some v) → T ≠ e → s.heap.get? T = none →
      (∀ b o, s.heap.get? b = some o → b ≠ e → b ∉ frs (env :: outer) → h'.get? b = some o) → (∀ b o, s.heap.get? b = some o → b ≠ e → ∃ sl, h'.get? b = some { o with slots := sl }) → Q () { s with heap := h' }) :
    wpAny M A (do let a ← frameOf env; let pl ← entryPlaceOf L hadNext; let b ← EntryCells.newEntry head a .none (rawInt L) .none pl; setField (.ref e) 1 b) Q E s := by
  have hene : e ∉ (env :: outer).filterMap (·.frame) := fun hm => by
    refine via fun G_ hG_ => ?_
    obtain ⟨_, o, ho, hnf⟩ := hl.mem hm
    refine hG_ ?_
    clear hG_ G_
    rw [he] at ho; cases ho; exact hnf vs hd
  refine wpAny_bind (wpAny_frameOf_fun hfr hl hf fun h₁ hs₁ => wpAny_bind (wpAny_entryPlaceOf fun pl hpl => ?_))
  unfold EntryCells.newEntry newFields
  refine wpAny_bind (wpAny_newObj_type ?_ (hpl.sizeOk5 _ _ _ _ _))
  have he₁ : h₁.get? e = some oe := (hs₁.2.1 e hene).trans he
  generalize hob : ({ cls := .type "traceback", dict := none, data := .fields ([head, .ref L, .none, rawInt L, .none] ++ (if pl.isEmpty then List.replicate 6 Value.none else pl)).toArray } : Obj) = ob
  have he₂ := Heap.get?_push_of_some (h := h₁) ob he₁
  have hT₂ : (h₁.push ob).get? h₁.objs.size = some ob := Heap.get?_push_size h₁ (by rw [← hob]; rfl)
  refine wpAny_setField he₂ hd hsz ?_
  have hTe : h₁.objs.size ≠ e := Nat.ne_of_gt (Heap.lt_size he₁)
  have e₃ : (Obj.mapFields (·.setIfInBounds 1 (Value.ref h₁.objs.size)) oe) = { oe with data := .fields (vs.setIfInBounds 1 (.ref h₁.objs.size)) } := by
    refine via fun G_ hG_ => ?_
    obtain ⟨a1, a2, a3, a4⟩ := oe
    refine hG_ ?_
    clear hG_ G_
    dsimp only at hd
    subst hd
    rfl
  have he₃ := Heap.get?_update_self (Obj.mapFields (·.setIfInBounds 1 (Value.ref h₁.objs.size))) he₂ (by rw [e₃]; exact hfree _)
  have hT₃ := (Heap.get?_update_other (h₁.push ob) (Obj.mapFields (·.setIfInBounds 1 (Value.ref h₁.objs.size))) (Ne.symm hTe)).trans hT₂
  have hbd : ob.data = .fields ([head, .ref L, .none, rawInt L, .none] ++ (if pl.isEmpty then List.replicate 6 Value.none else pl)).toArray := by rw [← hob]
  have other : ∀ b o, b ≠ e → h₁.get? b = some o → ((h₁.push ob).update e (Obj.mapFields (·.setIfInBounds 1 (Value.ref h₁.objs.size)))).get? b = some o := fun b o hbe hb => by
    rw [Heap.get?_update_other _ _ (Ne.symm hbe)]
    exact Heap.get?_push_of_some _ hb
  have hTn : s.heap.get? h₁.objs.size = none := by
    cases z : s.heap.get? h₁.objs.size with
    | none => rfl
    | some o => exact absurd (Heap.lt_size z) (by rw [hs₁.1]; exact Nat.lt_irrefl _)
  refine h _ h₁.objs.size _ _ (by rw [he₃, e₃]) hT₃ hbd ⟨rawInt L, by simp⟩ hTe hTn (fun b o hb hbe hbf => other b o hbe ((hs₁.2.1 b hbf).trans hb)) fun b o hb hbe => ?_
  obtain ⟨sl, hsl⟩ := hs₁.2.2 b o hb
  exact ⟨sl, other b _ hbe hsl⟩

theorem flight_fly {e : Addr} {x : Int} {fr S : List Addr} {h₀ : Heap} {fo : Option Addr} {Q : Unit → Shared → Prop} (hF : Fly fr S h₀ e x s.heap)
    (hQ : ∀ h', Fly fr S h₀ e x h' → (∀ b o, s.heap.get? b = some o → (∀ vs, o.data ≠ .fields vs) → h'.get? b = some o) → Q () { s with heap := h' }) : wpAny M A (setFlight (.ref e) fo) Q E s := by
  refine via fun G_ hG_ => ?_
  obtain ⟨dx, T, oT, ts, ⟨⟨q, sl, c3, c4, c5, c6, he⟩, k1, tk1, v1, k2, tk2, tx, n, hd⟩, hT, hTd, ⟨v, h3⟩, hTe, hTx, hde, n1, n2, n3, hdfr, hk⟩ := hF
  refine hG_ ?_
  clear hG_ G_
  unfold setFlight
  refine wpAny_bind (wpAny_field he rfl (x := .ref T) rfl ?_)
  rw [if_pos (show (Value.ref T != Value.none) = true from by simp)]
  have hsz := (Array.getElem?_eq_some_iff.mp h3).1
  refine wpAny_setField hT hTd hsz ?_
  generalize hg : (fo.elim Value.none fun f => rawInt f) = vv
  have other : ∀ b, b ≠ T → (s.heap.update T (Obj.mapFields (·.setIfInBounds 3 vv))).get? b = s.heap.get? b := fun b hb => Heap.get?_update_other _ _ (Ne.symm hb)
  have notT : ∀ b o, h₀.get? b = some o → b ≠ T := fun b o z w => by rw [w, n3] at z; cases z
  refine hQ _ ⟨dx, T, _, _, ⟨⟨q, sl, c3, c4, c5, c6, (other e (Ne.symm hTe)).trans he⟩, k1, tk1, v1, k2, tk2, tx, n, (other dx (Ne.symm hTx)).trans hd⟩, Heap.get?_update_self _ hT (Obj.isFreed_of_fields (Obj.data_mapFields hTd _)), Obj.data_mapFields hTd _, ⟨vv, ?_⟩, hTe, hTx, hde, n1, n2, n3, hdfr, ?_, ?_, ?_⟩ fun b o z hnf => (other b fun w => ?_).trans z
  · simp [hsz]
  · intro b o z
    obtain ⟨o', y⟩ := hk.live b o z
    exact ⟨o', (other b (notT b o z)).trans y⟩
  · intro b o z b1 b2
    exact (other b (notT b o z)).trans (hk.keep b o z b1 b2)
  · intro b o z b1 b2
    obtain ⟨sl, y⟩ := hk.slot b o z b1 b2
    exact ⟨sl, (other b (notT b o z)).trans y⟩
  · rw [w, hT] at z
    cases z
    exact hnf _ hTd

theorem note_fly {base : Heap} {env : Env} {outer : List Env} {L e : Addr} {x : Int} {fr S : List Addr} {h₀ : Heap} {Q : Unit → Shared → Prop}
    (hfr : A.frames = some (env :: outer)) (hl : Frs base s.heap (env :: outer)) (hf : env.frame = some L) (hF : Fly fr S h₀ e x s.heap)
    (sub : ∀ b ∈ frs (env :: outer), b ∈ fr)
    (hQ : ∀ h', Fly fr S h₀ e x h' → (∀ b o, s.heap.get? b = some o → (∀ vs, o.data ≠ .fields vs) → ∃ sl, h'.get? b = some { o with slots := sl }) → Q () { s with heap := h' }) : wpAny M A (noteFrame (.ref e) env) Q E s := by
  have hF₀ := hF
  refine via fun G_ hG_ => ?_
  obtain ⟨dx, T, oT, ts, ⟨⟨q, sl, c3, c4, c5, c6, he⟩, k1, tk1, v1, k2, tk2, tx, n, hd⟩, hT, hTd, ⟨v, h3⟩, hTe, hTx, hde, n1, n2, n3, hdfr, hk⟩ := hF
  refine hG_ ?_
  clear hG_ G_
  unfold noteFrame
  simp only [hf]
  refine wpAny_bind (wpAny_field he rfl (x := .ref T) rfl ?_)
  rw [if_pos (show (Value.ref T != Value.none) = true from by simp)]
  refine wpAny_bind (wpAny_field hT hTd h3 ?_)
  by_cases hv : (v == rawInt L) = true
  · rw [if_pos hv]
    exact wpAny_pure (hQ s.heap hF₀ fun b o z _ => ⟨o.slots, z⟩)
  rw [if_neg hv]
  refine wpAny_bind (wpAny_setField hT hTd (Array.getElem?_eq_some_iff.mp h3).1 ?_)
  have hTf : T ∉ frs (env :: outer) := hl.notFields hT hTd
  have other : ∀ b, b ≠ T → (s.heap.update T (Obj.mapFields (·.setIfInBounds 3 Value.none))).get? b = s.heap.get? b := fun b hb => Heap.get?_update_other _ _ (Ne.symm hb)
  have hl' : Frs base (s.heap.update T (Obj.mapFields (·.setIfInBounds 3 Value.none))) (env :: outer) := fun ev hev => by
    refine via fun G_ hG_ => ?_
    obtain ⟨a1, L1, m, a2, a3, o, es, ep, ho, r⟩ := hl ev hev
    refine hG_ ?_
    clear hG_ G_
    exact ⟨a1, L1, m, a2, a3, o, es, ep, (other L1 fun z => hTf (z ▸ List.mem_filterMap.mpr ⟨ev, hev, a2⟩)).trans ho, r⟩
  refine entry_raw (s := { s with heap := _ }) hfr hl'.dflt hf ((other e (Ne.symm hTe)).trans he) rfl (by simp) (fun _ => rfl) fun h' T' oT' ts' he' hT' hTd' h3' hTe' hTn' keep slot => hQ h' ?_ fun b o z hnf => ?_
  · have notT : ∀ b o, h₀.get? b = some o → b ≠ T := fun b o z w => by rw [w, n3] at z; cases z
    have note : ∀ b o, h₀.get? b = some o → b ≠ e := fun b o z w => by rw [w, n1] at z; cases z
    have hd' := (other dx (Ne.symm hTx)).trans hd
    refine ⟨dx, T', oT', ts', ⟨⟨q, sl, c3, c4, c5, c6, he'⟩, k1, tk1, v1, k2, tk2, tx, n, keep _ _ hd' hde fun m => hdfr (sub _ m)⟩, hT', hTd', h3', hTe', fun z => ?_, hde, n1, n2, ?_, hdfr, ?_, ?_, ?_⟩
    · rw [z] at hTn'; exact nomatch (hd'.symm.trans hTn')
    · cases z : h₀.get? T' with
      | none => rfl
      | some o => obtain ⟨o', y⟩ := hk.live _ _ z; exact nomatch (((other _ (notT _ _ z)).trans y).symm.trans hTn')
    · intro b o z
      obtain ⟨o', y⟩ := hk.live b o z
      obtain ⟨sl, y'⟩ := slot b o' ((other b (notT b o z)).trans y) (note b o z)
      exact ⟨_, y'⟩
    · intro b o z hS hb
      exact keep b o ((other b (notT b o z)).trans (hk.keep b o z hS hb)) (note b o z) fun m => hb (sub b m)
    · intro b o z hS hb
      obtain ⟨sl, y⟩ := hk.slot b o z hS hb
      obtain ⟨sl', y'⟩ := slot b _ ((other b (notT b o z)).trans y) (note b o z)
      exact ⟨sl', y'⟩
  · have hbT : b ≠ T := fun w => by rw [w, hT] at z; cases z; exact hnf _ hTd
    have hbe : b ≠ e := fun w => by rw [w, he] at z; cases z; exact hnf _ rfl
    exact slot b o ((other b hbT).trans z) hbe

theorem leave_next {base : Heap} {env : Env} {outer : List Env} {L e : Addr} {x : Int} {fr S : List Addr} {h₀ : Heap} {Q : Unit → Shared → Prop}
    (hfr : A.frames = some (env :: outer)) (hl : Frs base s.heap (env :: outer)) (hf : env.frame = some L) (hF : Fly fr S h₀ e x s.heap)
    (sub : ∀ b ∈ frs (env :: outer), b ∈ fr)
    (hQ : ∀ h', Fly fr S h₀ e x h' → Q () { s with heap := h' }) : wpAny M A (leaving env (.ref e)) Q E s := by
  unfold leaving
  exact wpAny_bind (note_fly hfr hl hf hF sub fun h' F' _ => flight_fly (s := { s with heap := h' }) F' fun h'' F'' _ => hQ h'' F'')
end
end
section
open PySem.W.X


theorem Fly.weaken {fr fr₁ S S₁ : List Addr} {h₀ h₁ h : Heap} {e : Addr} {x : Int} (F : Fly fr₁ S₁ h₁ e x h) (k : ∀ b o, h₀.get? b = some o → b ∉ S → h₁.get? b = some o) (live : ∀ b o, h₀.get? b = some o → ∃ o', h₁.get? b = some o')
    (hS : ∀ b ∈ S₁, ∀ o, h₀.get? b = some o → b ∈ S) (hf : ∀ b ∈ fr₁, ∀ o, h₀.get? b = some o → b ∈ fr) (hf' : ∀ b ∈ fr, b ∈ fr₁) : Fly fr S h₀ e x h := by
  refine via fun G_ hG_ => ?_
  obtain ⟨dx, T, oT, ts, a1, a2, a3, a4, a5, a6, a7, n1, n2, n3, a8, K⟩ := F
  refine hG_ ?_
  clear hG_ G_
  have no : ∀ b, h₁.get? b = none → h₀.get? b = none := fun b q => by
    cases z : h₀.get? b with
    | none => rfl
    | some o => obtain ⟨o', y⟩ := live b o z; rw [q] at y; cases y
  refine ⟨dx, T, oT, ts, a1, a2, a3, a4, a5, a6, a7, no _ n1, no _ n2, no _ n3, fun m => a8 (hf' _ m), ?_, ?_, ?_⟩
  · intro b o z
    obtain ⟨o', y⟩ := live b o z
    exact K.live b o' y
  · intro b o z b1 b2
    exact K.keep b o (k b o z b1) (fun m => b1 (hS b m o z)) fun m => b2 (hf b m o z)
  · intro b o z b1 b2
    exact K.slot b o (k b o z b1) (fun m => b1 (hS b m o z)) (hf' b b2)
theorem frAddrs_in {A : Around} {base g : Heap} {l : List Env} (B : Below A base l g) : frAddrs A = frs l := frAddrs_of B.stack
section
variable {w : World} {mean : ExcName → Option Value} {mg mb : Str → Option Value} {base : Heap} {A : Around} {E : Value → Shared → Prop} {s : Shared}
theorem Gnd.inside {h₀ g h : Heap} {l : List Env} {L' : Addr} {m : Str → Option Value} {env : Env} (G : Gnd w mean mg mb base A h₀) (B : Below A base l g) (FR : Frs base g l) (F : Fr g L' h m)
    (hf : env.frame = some L') (hk : env.scope.kind = .function) : Gnd w mean mg mb base (A.deeper env) h := by
  refine via fun G_ hG_ => ?_
  obtain ⟨K, T, st, ⟨l', hl, FF⟩, hh⟩ := G
  refine hG_ ?_
  clear hG_ G_
  refine ⟨K, T, fun b o e => F.keep b o (B.stays b o e), ⟨env :: l, ?_, fun env' he => ?_⟩, hh⟩
  · show (A.deeper _).frames = _
    have := B.stack
    simp only [Around.deeper, this]
    rfl
  · rcases List.mem_cons.mp he with rfl | he
    · refine ⟨hk, L', m, hf, ?_, F.ns⟩
      cases z : base.get? L' with
      | none => rfl
      | some o => exact absurd (Heap.lt_size (B.stays _ _ z)) (Nat.not_lt.mpr F.above)
    · refine via fun G_ hG_ => ?_
      obtain ⟨a1, L, m, a2, a3, o, es, ep, ho, r⟩ := FR env' he
      refine hG_ ?_
      clear hG_ G_
      exact ⟨a1, L, m, a2, a3, o, es, ep, F.keep _ _ ho, r⟩

noncomputable def RaisedAs (E : Value → Shared → Prop) (v : Value) (s₁ : Shared) : Prop :=
  ∃ e dx t, v = .ref e ∧ s₁.heap.get? e = some ⟨.ref 61, some dx, .fields #[.ref t, .none, .none, .none, .bool false, .none], #[]⟩ ∧ E (.ref e) s₁
theorem raise_own {x : Str} {np cpos pos : Pos} {args : List Expr} {env : Env} {Q : Flow → Shared → Prop} (K : (frag.heap_1 w.params).In base) (hh : A.handled = none)
    (h : wpAny (model PySem.Challenge.rw_pb0173_01.row.prog w) A (eval (.Call (.Name x np) args [] cpos) env) (fun v s₁ => base.StaysIn s₁.heap ∧ RaisedAs E v s₁) E s) :
    wpAny (model PySem.Challenge.rw_pb0173_01.row.prog w) A (exec (.Raise (some (.Call (.Name x np) args [] cpos)) none pos) env) Q E s := by
  rw [arm_exec_Raise]
  refine wpAny_bind (wpAny_standAt ?_)
  show wpAny _ _ (raiseStmt env (some (do let v ← eval (.Call (.Name x np) args [] cpos) env; standAt pos; pure v)) none) _ _ _
  unfold raiseStmt
  refine wpAny_bind (wpAny_bind (wpAny_mono h (fun v s₁ h₁ => wpAny_bind (wpAny_standAt (wpAny_pure ?_))) fun _ _ x => x))
  refine via fun G_ hG_ => ?_
  obtain ⟨st, e, dx, t, rfl, he, hE⟩ := h₁
  refine hG_ ?_
  clear hG_ G_
  have X := K.keeps st
  refine via fun G_ hG_ => ?_
  obtain ⟨hp, g, d, tk, os⟩ := s₁
  refine hG_ ?_
  clear hG_ G_
  have hC := X 61 _ (by k_is)
  have L1 : Looks (model PySem.Challenge.rw_pb0173_01.row.prog w) hp (isSubtype (.ref 61) (.type "BaseException")) true := looks_subIn X (by k_is)
  have L2 : Looks (model PySem.Challenge.rw_pb0173_01.row.prog w) hp (isSubtype (.ref 61) (.type "type")) false := looks_subIn X (by k_is)
  repeat (first | with_reducible refine wpAny_loadPart_at he ?_ | with_reducible refine wpAny_loadPart_at hC ?_ | with_reducible refine L1.here ?_ | with_reducible refine L2.here ?_ | wp_step)
  exact wpAny_raiseNew_none hh hE

theorem raise_call {E' : Value → Shared → Prop} {h₀ g : Heap} {S : List Addr} {l : List Env} {L' : Addr} {m : Str → Option Value} {env : Env} {msg : Str} {x : Int} {tm tx : Tok}
    (G : Gnd w mean mg mb base A h₀) (hroom : A.depth ≤ 680) (hun : A.units ≤ 7800) (hL : L' = h₀.objs.size) (kp₀ : ∀ b o, h₀.get? b = some o → b ∉ S → s.heap.get? b = some o)
    (B : Below A base l g) (FR : Frs base g l) (F : Fr g L' s.heap m) (hS : ∀ b ∈ S, ∃ o, s.heap.get? b = some o) (hfe : env.frame = some L') (hk : env.scope.kind = .function)
    (q : ∀ e h' tk, Fly (frAddrs A) S h₀ e x h' → E (.ref e) { s with heap := h', toks := tk }) :
    wpAny (model PySem.Challenge.rw_pb0173_01.row.prog w) (A.deeper env) (call (.ref 61) [.str msg tm, .int x tx])
      (fun v s₁ => base.StaysIn s₁.heap ∧ RaisedAs (fun e s' => wpAny (model PySem.Challenge.rw_pb0173_01.row.prog w) (A.deeper env) (leaving env e) (fun _ s'' => E e s'') (fun e' s'' => E e' s'') s') v s₁) E' s := by
  have G' := G.inside (env := env) B FR F hfe hk
  have hd1 : (A.deeper env).depth ≤ 690 := by simp only [depth_deeper]; (first | exact q8 (by assumption) | omega)
  have hu1 : (A.deeper env).units ≤ 7900 := by simp only [units_deeper]; (first | exact q9 (by assumption) | omega)
  refine tf_call G' hd1 hu1 fun e dx t h' k1 tk1 k2 tk2 tk he hx hde hdn hen kp => ?_
  have FRl : Frs base h' l := fun ev hm => by
    refine via fun G_ hG_ => ?_
    obtain ⟨a1, L, m, a2, a3, o, es, ep, ho, r⟩ := FR ev hm
    refine hG_ ?_
    clear hG_ G_
    exact ⟨a1, L, m, a2, a3, o, es, ep, kp _ _ (F.keep _ _ ho), r⟩
  have FRs : Frs base s.heap l := fun ev hm => by
    refine via fun G_ hG_ => ?_
    obtain ⟨a1, L, m, a2, a3, o, es, ep, ho, r⟩ := FR ev hm
    refine hG_ ?_
    clear hG_ G_
    exact ⟨a1, L, m, a2, a3, o, es, ep, F.keep _ _ ho, r⟩
  have hbL : base.get? L' = none := by
    cases z : base.get? L' with
    | none => rfl
    | some o => exact absurd (Heap.lt_size (B.stays _ _ z)) (Nat.not_lt.mpr F.above)
  have FR' : Frs base s.heap (env :: l) := fun ev hm => by
    rcases List.mem_cons.mp hm with rfl | hm
    · exact ⟨hk, L', m, hfe, hbL, F.ns⟩
    · exact FRs ev hm
  have FR'' : Frs base h' (env :: l) := fun ev hm => by
    rcases List.mem_cons.mp hm with rfl | hm
    · refine via fun G_ hG_ => ?_
      obtain ⟨o, es, ep, ho, r⟩ := F.ns
      refine hG_ ?_
      clear hG_ G_
      exact ⟨hk, L', m, hfe, hbL, o, es, ep, kp _ _ ho, r⟩
    · exact FRl ev hm
  have live : ∀ b o, h₀.get? b = some o → ∃ o', s.heap.get? b = some o' := fun b o z => by
    by_cases w : b ∈ S
    · exact hS b w
    · exact ⟨o, kp₀ b o z w⟩
  have no : ∀ b, s.heap.get? b = none → h₀.get? b = none := fun b y => by
    cases z : h₀.get? b with
    | none => rfl
    | some o => obtain ⟨o', y'⟩ := live b o z; rw [y] at y'; cases y'
  have nof : ∀ b, s.heap.get? b = none → b ∉ frs (env :: l) := fun b y w => by
    refine via fun G_ hG_ => ?_
    obtain ⟨env, hm, hf⟩ := List.mem_filterMap.mp w
    refine hG_ ?_
    clear hG_ G_
    refine via fun G_ hG_ => ?_
    obtain ⟨_, L, _, hf', _, o, _, _, ho, _⟩ := FR' env hm
    refine hG_ ?_
    clear hG_ G_
    rw [hf] at hf'
    cases hf'
    rw [y] at ho
    cases ho
  have hfa : frAddrs A = frs l := frAddrs_in B
  have nofa : ∀ b, s.heap.get? b = none → b ∉ frAddrs A := fun b y w => nof b y (by
    rw [hfa] at w
    refine via fun G_ hG_ => ?_
    obtain ⟨env, hm, hf⟩ := List.mem_filterMap.mp w
    refine hG_ ?_
    clear hG_ G_
    exact List.mem_filterMap.mpr ⟨env, .tail _ hm, hf⟩)
  refine ⟨fun b o z => kp b o (G'.stays b o z), e, dx, t, rfl, he, ?_⟩
  refine leave_first (base := base) (outer := l) (L := L') (dx := dx) (x := x) (fr := frAddrs A) (S := S) (h₀ := h₀) ?_ FR'' hfe ⟨⟨_, _, _, _, _, _, he⟩, _, _, _, _, _, _, _, hx⟩ hde (nof _ hdn) (nofa _ hdn) (no _ hen) (no _ hdn) ⟨?_, ?_, ?_⟩ ?_ fun h'' fly => q e h'' tk fly
  · simp only [Around.deeper, B.stack]; rfl
  · intro b o z
    obtain ⟨o', y⟩ := live b o z
    exact ⟨o', kp _ _ y⟩
  · intro b o z w _
    exact kp _ _ (kp₀ b o z w)
  · intro b o z w _
    exact ⟨o.slots, kp _ _ (kp₀ b o z w)⟩
  · intro b hm o z
    rw [hfa]
    refine via fun G_ hG_ => ?_
    obtain ⟨env, hm, hf⟩ := List.mem_filterMap.mp hm
    refine hG_ ?_
    clear hG_ G_
    rcases List.mem_cons.mp hm with rfl | hm
    · rw [hfe] at hf
      cases hf
      exact absurd (Heap.lt_size z) (by rw [hL]; exact Nat.lt_irrefl _)
    · exact List.mem_filterMap.mpr ⟨env, hm, hf⟩
end
end
section
theorem room_spec {w : World} {mean : ExcName → Option Value} {mg mb : Str → Option Value} {base : Heap} {A : Around} {E : Value → Shared → Prop} {s : Shared} {arr : Array UInt8} {a : Int} {t ta tc : Tok} {ks : List Int} {Q : Value → Shared → Prop} (G : Gnd w mean mg mb base A s.heap) (hroom : A.depth ≤ 600) (hun : A.units ≤ 7000)
    (hks : KBw.bInts arr = ks) (hsz : ks.length ≤ 100000) (ha : 0 ≤ a) (ha2 : a ≤ 200000)
    (ret : ∀ h' tk, a + 2 ≤ ks.length → Ext [] s.heap h' → Q .none { s with heap := h', toks := tk })
    (exc : ∀ e h' tk, ks.length < a + 2 → Fly (frAddrs A) [] s.heap e a h' → E (.ref e) { s with heap := h', toks := tk }) :
    wpAny (model PySem.Challenge.rw_pb0173_01.row.prog w) A (call (.ref 70) [.bytes arr t, .int a ta, .int 2 tc]) Q E s := by
  refine wpAny_call ?_
  k_dflt (refine' enter (news := []) G ?hn ?ho ?hcd ?hroom ?hbind ?hloc ?_ ?q1 ?q2 ?q3 ?q4; (case ho => k_is); (case hcd => k_is); (case hroom => first | (simp only [recursionLimit]; (first | exact q10 (by assumption) | omega)) | omega | assumption); (case hbind => exact BindsTo.of_eq rfl); (case hloc => exact locs rfl); (case q1 => rfl); (case q2 => rfl); (case q3 => rfl); (case q4 => decide))
  case hn => exact fun _ hp => nomatch hp
  intro g L' h₁ l hsub hsup hL F N B X T FR
  try dsimp only
  (repeat' (first | ((with_reducible show wpAny _ _ (exec _ _) _ _ _); k_fold) | (with_reducible first | refine Jq0 ?_ | refine Jq1 ?_ | refine Jq2 ?_ | refine Jq3 ?_ | refine Jq4 ?_) | (k_unfold; (try dsimp only)) | (k_end; wrow_close) | walk1 | (dsimp only; walk1) | (leave1; walk_say "STEP leave1"; try dsimp only) | fail "no step"))
  · unfold Hold
    refine raise_own G.K G.hand ?_
    (repeat' (first | ((with_reducible show wpAny _ _ (exec _ _) _ _ _); k_fold) | (with_reducible first | refine Jq0 ?_ | refine Jq1 ?_ | refine Jq2 ?_ | refine Jq3 ?_ | refine Jq4 ?_) | (k_unfold; (try dsimp only)) | (k_end; wrow_close) | walk1 | (dsimp only; walk1) | (leave1; walk_say "STEP leave1"; try dsimp only) | fail "no step"))
    exact raise_call G (by (first | exact q11 (by assumption) | omega)) (by (first | exact q12 (by assumption) | omega)) hL (ext_of hsub F) B FR F (fun _ m => nomatch m) rfl rfl fun e h' tk fly => exc e h' tk (by assumption) fly
  · k_end
    exact ret _ _ (by (first | exact q13 (by assumption) | omega)) (ext_of hsub F)
end
section
noncomputable def Keeps (x : Str) (ys : List Str) (m₀ m : Str → Option Value) : Prop := ∀ z, z ≠ x → z ∉ ys → m z = m₀ z
theorem Keeps.refl (x : Str) (ys : List Str) (m : Str → Option Value) : Keeps x ys m m := fun _ _ _ => rfl
section
variable {x y y' y'' : Str} {m₁ m₀ : Str → Option Value} {v u u' u'' : Value}
theorem Keeps.map0 (h : Keeps x [] m₀ m₁) : (fun z => if z = x then some v else m₁ z) = fun z => if z = x then some v else m₀ z := map_none fun z h1 => h z h1 (by simp)
theorem Keeps.map1 (h : Keeps x [y] m₀ m₁) (ha : m₁ y = some u) : (fun z => if z = x then some v else m₁ z) = fun z => if z = x then some v else if z = y then some u else m₀ z := map_one ha fun z h1 h2 => h z h1 (by simp [h2])
theorem Keeps.done0 (h : Keeps x [] m₀ m₁) : m₁ = fun z => if z = x then m₁ z else m₀ z := (done_none fun z h1 => h z h1 (by simp)).symm
theorem Keeps.done1 (h : Keeps x [y] m₀ m₁) (ha : m₁ y = some u) : m₁ = fun z => if z = x then m₁ z else if z = y then some u else m₀ z := (done_one ha fun z h1 h2 => h z h1 (by simp [h2])).symm
end
section
variable {prog : Program} {w : World} {A : Around} {E : Value → Shared → Prop} {s : Shared} {env : Env} {h₀ : Heap} {x : Str} {body : List Stmt} {Q : Flow → Shared → Prop} {m₀ : Str → Option Value} {news : List (Addr × Obj)}
theorem bytes_loop {b : Array UInt8} {tb : Tok} {ks : List Int} (ys : List Str) (J : Nat → (Str → Option Value) → List (Addr × Obj) → Prop)
    (hk : KBw.bInts b = ks) (hh : A.handled = none) (F : Fr h₀ env.locals s.heap m₀) (N : News h₀ env.locals s.heap news) (hR : J 0 m₀ news)
    (turn : ∀ i k t m₁ nx h tk own, ks[i]? = some k → 0 ≤ k → k < 256 → OwnOff own (news.map (·.1)) → nx.map (·.1) = news.map (·.1) → J i m₁ nx → Keeps x ys m₀ m₁ → Fr h₀ env.locals h (fun y => if y = x then some (.int k t) else m₁ y) → News h₀ env.locals h (nx ++ own) →
      wpAny (model prog w) A (execs body env) (InvPostN h₀ env.locals (fun m nx => J (i + 1) m nx ∧ Keeps x ys m₀ m) own (news.map (·.1)) { s with heap := h, toks := tk } Q) E { s with heap := h, toks := tk })
    (done : ∀ m₁ nx h tk, J ks.length m₁ nx → Keeps x ys m₀ m₁ → Fr h₀ env.locals h m₁ → News h₀ env.locals h nx → Q .next { s with heap := h, toks := tk }) :
    wpAny (model prog w) A (pyIter (.bytes b tb)) (fun it s₂ => LoopAtV prog w A h₀ env x body Q E it s₂) E s := by
  subst hk
  refine KBw.pyIter_bytes ?_
  have W := KBw.walks (prog := prog) (w := w) hh s.heap.objs.size b tb
  refine loop_invN (fun i m nx => J i m nx ∧ Keeps x ys m₀ m) W ?_ ?_ ?_ ?_ ⟨_, Heap.get?_push_size _ rfl, rfl, rfl⟩ (F.push _) (fun p hp => ⟨Heap.get?_push_of_some _ (N p hp).1, (N p hp).2⟩) ⟨hR, Keeps.refl _ _ _⟩ ?_ ?_
  · intro hm
    exact absurd F.ns.lt ((List.mem_singleton.mp hm) ▸ Nat.lt_irrefl _)
  · intro b' hb
    rw [List.mem_singleton.mp hb]
    exact next_is_new F
  · intro p hp hI
    exact absurd (Heap.lt_size (N p hp).1) ((List.mem_singleton.mp hI) ▸ Nat.lt_irrefl _)
  · intro p hp hI
    exact absurd (Heap.lt_size (N p hp).1) ((List.mem_singleton.mp hI) ▸ Nat.lt_irrefl _)
  · intro i v m₁ nx h tk own hi z0_ hadr ho hr' F' N'
    refine via fun G_ hG_ => ?_
    obtain ⟨c, u, hc, rfl⟩ := z0_
    refine hG_ ?_
    clear hG_ G_
    have hg := KBw.ints_get hc
    exact turn i _ u m₁ nx h tk own hg (KBw.ints_in (List.mem_of_getElem? hg)).1 (KBw.ints_in (List.mem_of_getElem? hg)).2 ho hadr hr'.1 hr'.2 F' N'
  · intro m₁ nx h tk hJ F' N'
    rw [← KBw.ints_length] at hJ
    exact done m₁ nx h tk hJ.1 hJ.2 F' N'
theorem range_loop {r : Addr} {a₀ b₀ : Int} {t₀ u₀ v₀ : Tok} {n : Nat} (ys : List Str) (J : Nat → (Str → Option Value) → List (Addr × Obj) → Prop)
    (hh : A.handled = none) (hr : IsRange s.heap r a₀ b₀ 1 t₀ u₀ v₀) (hsmall : Builtin.Range.small a₀ b₀ 1 = true) (hn : Builtin.Range.rangeSize a₀ b₀ 1 = (n : Int)) (F : Fr h₀ env.locals s.heap m₀) (N : News h₀ env.locals s.heap news) (hR : J 0 m₀ news)
    (turn : ∀ (i : Nat) t m₁ nx h tk own, i < n → OwnOff own (news.map (·.1)) → nx.map (·.1) = news.map (·.1) → J i m₁ nx → Keeps x ys m₀ m₁ → Fr h₀ env.locals h (fun y => if y = x then some (.int (a₀ + i) t) else m₁ y) → News h₀ env.locals h (nx ++ own) →
      wpAny (model prog w) A (execs body env) (InvPostN h₀ env.locals (fun m nx => J (i + 1) m nx ∧ Keeps x ys m₀ m) own (news.map (·.1)) { s with heap := h, toks := tk } Q) E { s with heap := h, toks := tk })
    (done : ∀ m₁ nx h tk, J n m₁ nx → Keeps x ys m₀ m₁ → Fr h₀ env.locals h m₁ → News h₀ env.locals h nx → Q .next { s with heap := h, toks := tk }) :
    wpAny (model prog w) A (pyIter (.ref r)) (fun it s₂ => LoopAtV prog w A h₀ env x body Q E it s₂) E s := by
  refine wpAny_pyIter_range hr hsmall ?_
  have W : Walks prog w A s.heap.objs.size [s.heap.objs.size] [s.heap.objs.size] n (fun i v => i < n ∧ ∃ t, v = .int (a₀ + i * 1) t)
      (fun i h => IsRangeIter h s.heap.objs.size (a₀ + (i : Nat) * 1) ((n : Int) - (i : Nat)) 1) := (Walks.range hh _ a₀ 1 n).bound
  refine loop_invN (fun i m nx => J i m nx ∧ Keeps x ys m₀ m) W ?_ ?_ ?_ ?_ (by show IsRangeIter _ _ _ _ _; rw [hn]; simpa using Heap.get?_push_size _ rfl) (F.push _) (fun p hp => ⟨Heap.get?_push_of_some _ (N p hp).1, (N p hp).2⟩) ⟨hR, Keeps.refl _ _ _⟩ ?_ ?_
  · intro hm
    exact absurd F.ns.lt ((List.mem_singleton.mp hm) ▸ Nat.lt_irrefl _)
  · intro b hb
    rw [List.mem_singleton.mp hb]
    exact next_is_new F
  · intro p hp hI
    exact absurd (Heap.lt_size (N p hp).1) ((List.mem_singleton.mp hI) ▸ Nat.lt_irrefl _)
  · intro p hp hI
    exact absurd (Heap.lt_size (N p hp).1) ((List.mem_singleton.mp hI) ▸ Nat.lt_irrefl _)
  · intro i v m₁ nx h tk own hi z0_ hadr ho hr' F' N'
    refine via fun G_ hG_ => ?_
    obtain ⟨_, u, rfl⟩ := z0_
    refine hG_ ?_
    clear hG_ G_
    rw [Int.mul_one] at F'
    exact turn i u m₁ nx h tk own hi ho hadr hr'.1 hr'.2 F' N'
  · intro m₁ nx h tk hJ F' N'
    exact done m₁ nx h tk hJ.1 hJ.2 F' N'
end
end
section
section
variable {w : World} {mean : ExcName → Option Value} {mg mb : Str → Option Value} {base : Heap} {A : Around} {E : Value → Shared → Prop} {s : Shared}
theorem pass_fly {h₀ g hc : Heap} {S S' : List Addr} {l : List Env} {L' e : Addr} {m : Str → Option Value} {env : Env} {x : Int} {Q : Unit → Shared → Prop}
    (hL : L' = h₀.objs.size) (kp₀ : ∀ b o, h₀.get? b = some o → b ∉ S → hc.get? b = some o)
    (B : Below A base l g) (FR : Frs base g l) (F : Fr g L' hc m) (hS : ∀ b ∈ S, ∃ o, hc.get? b = some o) (hS' : ∀ b ∈ S', ∀ o, h₀.get? b = some o → b ∈ S) (hSn : ∀ b ∈ S', b ≠ L' ∧ b ∉ frAddrs A) (hfe : env.frame = some L') (hk : env.scope.kind = .function)
    (fly : Fly (frAddrs (A.deeper env)) S' hc e x s.heap)
    (q : ∀ h', Fly (frAddrs A) S h₀ e x h' → Q () { s with heap := h' }) :
    wpAny (model PySem.Challenge.rw_pb0173_01.row.prog w) (A.deeper env) (leaving env (.ref e)) Q E s := by
  have hfa : frAddrs A = frs l := frAddrs_in B
  have hst : (A.deeper env).frames = some (env :: l) := by simp only [Around.deeper, B.stack]; rfl
  have hfa' : frAddrs (A.deeper env) = L' :: frs l := by rw [frAddrs_of hst]; simp [frs, hfe]
  have hbL : base.get? L' = none := by
    cases z : base.get? L' with
    | none => rfl
    | some o => exact absurd (Heap.lt_size (B.stays _ _ z)) (Nat.not_lt.mpr F.above)
  have FR' : Frs base hc (env :: l) := fun ev hm => by
    rcases List.mem_cons.mp hm with rfl | hm
    · exact ⟨hk, L', m, hfe, hbL, F.ns⟩
    · refine via fun G_ hG_ => ?_
      obtain ⟨a1, L, m, a2, a3, o, es, ep, ho, r⟩ := FR ev hm
      refine hG_ ?_
      clear hG_ G_
      exact ⟨a1, L, m, a2, a3, o, es, ep, F.keep _ _ ho, r⟩
  have live : ∀ b o, h₀.get? b = some o → ∃ o', hc.get? b = some o' := fun b o z => by
    by_cases w : b ∈ S
    · exact hS b w
    · exact ⟨o, kp₀ b o z w⟩
  have fly' : Fly (frAddrs (A.deeper env)) S h₀ e x s.heap :=
    fly.weaken (fun b o z w => kp₀ b o z w) live hS' (fun b m _ _ => m) (fun b m => m)
  have hFR : Frs base s.heap (env :: l) := by
    refine via fun G_ hG_ => ?_
    obtain ⟨_, _, _, _, _, _, _, _, _, _, _, _, _, _, _, K⟩ := fly
    refine hG_ ?_
    clear hG_ G_
    refine FR'.kept K fun a ha hs => ?_
    have : a ∈ L' :: frs l := by rw [← hfa', frAddrs_of hst]; exact ha
    rcases List.mem_cons.mp this with r | r
    · exact (hSn a hs).1 r
    · exact (hSn a hs).2 (by rw [hfa]; exact r)
  refine leave_next hst hFR hfe fly' (fun b hb => by rw [frAddrs_of hst]; exact hb) fun h' fl => q h' ?_
  refine fl.weaken (fun _ _ z _ => z) (fun b o z => ⟨o, z⟩) (fun b hb _ _ => hb) (fun b hb o z => ?_) (fun b hb => by rw [hfa']; rw [hfa] at hb; exact .tail _ hb)
  rw [hfa'] at hb
  rw [hfa]
  rcases List.mem_cons.mp hb with rfl | hb
  · exact absurd (Heap.lt_size z) (by rw [hL]; exact Nat.lt_irrefl _)
  · exact hb
theorem kept_of {h₀ g h : Heap} {L : Addr} {m : Str → Option Value} {S : List Addr} {news : List (Addr × Obj)} (hsub : ∀ b o, h₀.get? b = some o → b ∉ news.map (·.1) → g.get? b = some o) (F : Fr g L h m)
    (hn : ∀ p ∈ news, h₀.get? p.1 = some p.2) (still : ∀ p ∈ news, p.1 ∉ S → h.get? p.1 = some p.2) : Ext S h₀ h := fun b o e n => by
  by_cases q : b ∈ news.map (·.1)
  · refine via fun G_ hG_ => ?_
    obtain ⟨p, hp, rfl⟩ := List.mem_map.mp q
    refine hG_ ?_
    clear hG_ G_
    rw [hn p hp] at e
    cases e
    exact still p hp n
  · exact F.keep b o (hsub b o e q)
theorem ns_ext {h h' : Heap} {L : Addr} {m : Str → Option Value} (N : h.Ns L m) (k : ∀ o, h.get? L = some o → h'.get? L = some o) : h'.Ns L m := by
  refine via fun G_ hG_ => ?_
  obtain ⟨o, es, ep, ho, r⟩ := N
  refine hG_ ?_
  clear hG_ G_
  exact ⟨o, es, ep, k _ ho, r⟩
theorem fr_ext {g h h' : Heap} {L : Addr} {m : Str → Option Value} {S : List Addr} (F : Fr g L h m) (x : Ext S h h') (hL : L ∉ S) (hg : ∀ b ∈ S, g.get? b = none) : Fr g L h' m :=
  ⟨ns_ext F.ns fun o ho => x _ _ ho hL, fun b o z => x _ _ (F.keep _ _ z) fun m => (by rw [hg b m] at z; cases z), F.above⟩
theorem news_ext {g h h' : Heap} {L : Addr} {news : List (Addr × Obj)} {S : List Addr} (N : News g L h news) (x : Ext S h h') (hn : ∀ p ∈ news, p.1 ∉ S) : News g L h' news :=
  fun p hp => let ⟨a, b⟩ := N p hp; ⟨x _ _ a (hn p hp), b⟩
end
theorem or_low {a k : Int} (ha : 0 ≤ a) (k0 : 0 ≤ k) (k1 : k < 256) : Builtin.bitOr (a * 2 ^ (8 : Int).toNat) k = a * 256 + k := by
  rw [show (a * 2 ^ (8 : Int).toNat) = a * 256 from by rw [show (2 : Int) ^ (8 : Int).toNat = 256 from by decide], bitOr_and, bitAnd_pp (by (first | exact q28 (by assumption) | omega)) k0]
  have h1 : (a * 256).toNat ||| k.toNat = (a * 256).toNat + k.toNat := by
    have := Nat.shiftLeft_add_eq_or_of_lt (i := 8) (b := k.toNat) (by (first | exact q29 (by assumption) (by assumption) | omega)) a.toNat
    rw [Nat.shiftLeft_eq] at this
    rw [show (a * 256).toNat = a.toNat * 2 ^ 8 from by omega]
    exact this.symm
  have h2 := nat_or_add_and (a * 256).toNat k.toNat
  omega
theorem take_two (ks : List Int) (i : Nat) (h : i + 2 ≤ ks.length) : List.take 2 (List.drop i ks) = [ks.getD i 0, ks.getD (i + 1) 0] := by
  have h1 : i < ks.length := by (first | exact q14 (by assumption) | omega)
  have h2 : i + 1 < ks.length := by (first | exact q15 (by assumption) | omega)
  have e : List.drop i ks = ks[i] :: ks[i + 1] :: List.drop (i + 1 + 1) ks := by rw [← List.drop_eq_getElem_cons h2, ← List.drop_eq_getElem_cons h1]
  rw [e]
  simp only [List.getD_eq_getElem?_getD, List.getElem?_eq_getElem h1, List.getElem?_eq_getElem h2, Option.getD_some, List.take_succ_cons, List.take_zero]
theorem number_spec {w : World} {mean : ExcName → Option Value} {mg mb : Str → Option Value} {base : Heap} {A : Around} {E : Value → Shared → Prop} {s : Shared} {arr : Array UInt8} {a : Int} {t ta tc : Tok} {ks : List Int} {Q : Value → Shared → Prop} (G : Gnd w mean mg mb base A s.heap) (hroom : A.depth ≤ 590) (hun : A.units ≤ 6900)
    (hks : KBw.bInts arr = ks) (hsz : ks.length ≤ 100000) (ha : 0 ≤ a) (ha2 : a ≤ 200000)
    (ret : ∀ r tr h' tk, a + 2 ≤ ks.length → r = ks.getD a.toNat 0 * 256 + ks.getD (a.toNat + 1) 0 → Ext [] s.heap h' → Q (.int r tr) { s with heap := h', toks := tk })
    (exc : ∀ e h' tk, ks.length < a + 2 → Fly (frAddrs A) [] s.heap e a h' → E (.ref e) { s with heap := h', toks := tk }) :
    wpAny (model PySem.Challenge.rw_pb0173_01.row.prog w) A (call (.ref 77) [.bytes arr t, .int a ta, .int 2 tc]) Q E s := by
  refine wpAny_call ?_
  k_dflt (refine' enter (news := []) G ?hn ?ho ?hcd ?hroom ?hbind ?hloc ?_ ?q1 ?q2 ?q3 ?q4; (case ho => k_is); (case hcd => k_is); (case hroom => first | (simp only [recursionLimit]; (first | exact q16 (by assumption) | omega)) | omega | assumption); (case hbind => exact BindsTo.of_eq rfl); (case hloc => exact locs rfl); (case q1 => rfl); (case q2 => rfl); (case q3 => rfl); (case q4 => decide))
  case hn => exact fun _ hp => nomatch hp
  intro g L' h₁ l hsub hsup hL F N B X T FR
  try dsimp only
  (repeat' (first | ((with_reducible show wpAny _ _ (exec _ _) _ _ _); k_fold) | (with_reducible first | refine Jq0 ?_ | refine Jq1 ?_ | refine Jq2 ?_ | refine Jq3 ?_ | refine Jq4 ?_) | (k_unfold; (try dsimp only)) | (k_end; wrow_close) | walk1 | (dsimp only; walk1) | (leave1; walk_say "STEP leave1"; try dsimp only) | fail "no step"))
  unfold Hold
  refine room_spec (G.inside B FR F rfl rfl) (by simp only [depth_deeper]; (first | exact q17 (by assumption) | omega)) (by simp only [units_deeper]; (first | exact q18 (by assumption) | omega)) hks hsz ha ha2 (fun h' tk hle x => ?_) fun e h' tk hlt fly => ?_
  · have F' := fr_ext F x (fun m => nomatch m) (fun _ m => nomatch m)
    have N' : News g L' h' [] := fun _ hp => nomatch hp
    clear F N
    (repeat' (first | ((with_reducible show wpAny _ _ (exec _ _) _ _ _); k_fold) | (with_reducible first | refine Jq0 ?_ | refine Jq1 ?_ | refine Jq2 ?_ | refine Jq3 ?_ | refine Jq4 ?_) | (k_unfold; (try dsimp only)) | (k_end; wrow_close) | walk1 | (dsimp only; walk1) | (leave1; walk_say "STEP leave1"; try dsimp only) | fail "no step"))
    unfold Hold
    rename Fr _ _ _ _ => Fa
    refine For_invVF Fa (by rfl) (by rfl) ?_
    (repeat' (first | ((with_reducible show wpAny _ _ (exec _ _) _ _ _); k_fold) | (with_reducible first | refine Jq0 ?_ | refine Jq1 ?_ | refine Jq2 ?_ | refine Jq3 ?_ | refine Jq4 ?_) | (k_unfold; (try dsimp only)) | (k_end; wrow_close) | walk1 | (dsimp only; walk1) | (leave1; walk_say "STEP leave1"; try dsimp only) | fail "no step"))
    rename Fr _ _ _ _ => Fn
    rename News _ _ _ _ => Nn
    rename (KBw.bInts _ = List.take _ _) => hsl
    have e1 : clipAt ks.length (a + 2) = a.toNat + 2 := by rw [clipAt_in (by (first | exact q19 (by assumption) (by assumption) | omega)) (by omega)]; (first | exact q20 (by assumption) (by assumption) | omega)
    have e2 : clipAt ks.length a = a.toNat := clipAt_in (by omega) (by (first | exact q21 (by assumption) | omega))
    rw [e1, e2, show a.toNat + 2 - a.toNat = 2 from by (first | exact q23 | omega)] at hsl
    rw [take_two _ _ (by (first | exact q22 (by assumption) (by assumption) (by assumption) (by assumption) | omega))] at hsl
    have hp : 0 ≤ ks.getD a.toNat 0 ∧ ks.getD a.toNat 0 < 256 := KBw.ints_in (b := KBy.picked arr (some a) (some (a + 2))) (by rw [hsl]; exact List.mem_cons_self)
    generalize e3 : ks.getD a.toNat 0 = p at *
    generalize e4 : ks.getD (a.toNat + 1) 0 = q at *
    refine bytes_loop [Str.ofString "total"] (fun i m nx => nx = [] ∧ ∃ b t, m (Str.ofString "total") = some (.int b t) ∧ (i = 0 → b = 0) ∧ (i = 1 → b = p) ∧ (i = 2 → b = p * 256 + q)) hsl (by exact G.hand) Fn Nn ⟨rfl, _, _, rfl, fun _ => rfl, fun h => (by omega), fun h => (by omega)⟩ ?_ ?_
    · intro i k tk m₁ nx h tk own hk k0 k1 hoff hadr z0_ hz F₁ N₁
      refine via fun G_ hG_ => ?_
      obtain ⟨rfl, b, tt, ht, i0, i1, i2⟩ := z0_
      refine hG_ ?_
      clear hG_ G_
      clear Fn Nn
      simp only [List.nil_append] at N₁
      rw [hz.map1 ht] at F₁
      have hb : 0 ≤ b ∧ b < 256 ∧ ((i + 1 = 0 → b * 256 + k = 0) ∧ (i + 1 = 1 → b * 256 + k = p) ∧ (i + 1 = 2 → b * 256 + k = p * 256 + q)) := by
        match i, hk with
        | 0, hk => simp only [List.getElem?_cons_zero, Option.some.injEq] at hk; have := i0 rfl; (first | exact q26 (by assumption) (by assumption) | omega)
        | 1, hk => simp only [List.getElem?_cons_succ, List.getElem?_cons_zero, Option.some.injEq] at hk; have := i1 rfl; (first | exact q27 (by assumption) (by assumption) (by assumption) | omega)
        | i + 2, hk => simp at hk
      refine via fun G_ hG_ => ?_
      obtain ⟨b0, b1, hb⟩ := hb
      refine hG_ ?_
      clear hG_ G_
      clear ht i0 i1 i2
      (repeat' (first | ((with_reducible show wpAny _ _ (exec _ _) _ _ _); k_fold) | (with_reducible first | refine Jq0 ?_ | refine Jq1 ?_ | refine Jq2 ?_ | refine Jq3 ?_ | refine Jq4 ?_) | (k_unfold; (try dsimp only)) | (k_end; wrow_close) | walk1 | (dsimp only; walk1) | (leave1; walk_say "STEP leave1"; try dsimp only) | fail "no step"))
      k_end
      rename Fr _ _ _ _ => F2
      rename News _ _ _ _ => N2
      refine ⟨_, _, _, _, [], rfl, F2, N2, (fun _ m => nomatch m), (fun _ m => m), rfl, ⟨rfl, _, _, rfl, ?_⟩, ?_⟩
      · rw [or_low b0 k0 k1]; exact hb
      · ((intro zK hK1 hK2; simp only [List.mem_cons, List.not_mem_nil, or_false, not_or] at hK2; simp only [hK1, hK2, if_false, ↓reduceIte]))
    · intro m₁ nx h tk z0_ hz F₁ N₁
      refine via fun G_ hG_ => ?_
      obtain ⟨rfl, b, tt, ht, i0, i1, i2⟩ := z0_
      refine hG_ ?_
      clear hG_ G_
      clear Fn Nn
      have hb := i2 rfl
      rw [hz.done1 ht] at F₁
      clear hz ht
      (repeat' (first | ((with_reducible show wpAny _ _ (exec _ _) _ _ _); k_fold) | (with_reducible first | refine Jq0 ?_ | refine Jq1 ?_ | refine Jq2 ?_ | refine Jq3 ?_ | refine Jq4 ?_) | (k_unfold; (try dsimp only)) | (k_end; wrow_close) | walk1 | (dsimp only; walk1) | (leave1; walk_say "STEP leave1"; try dsimp only) | fail "no step"))
      try dsimp only
      exact ret _ _ _ _ hle hb (ext_of hsub F₁)
  · try dsimp only
    exact pass_fly (S := []) (S' := []) (E := fun e s'' => E e s'') hL (ext_of hsub F) B FR F (fun _ m => nomatch m) (fun _ m => nomatch m) (fun _ m => nomatch m) rfl rfl fly fun h'' fl => exc e h'' tk hlt fl
end
section
theorem two_mem {P : Addr × Obj → Prop} {a b : Addr × Obj} (ha : P a) (hb : P b) : ∀ p ∈ [a, b], P p := fun p hp => by
  rcases List.mem_cons.mp hp with rfl | hp
  · exact ha
  · cases List.mem_singleton.mp hp
    exact hb
/-- an OctetsIn: data, at -/
noncomputable def Oct (x dx : Addr) (arr : Array UInt8) (a : Int) (h : Heap) : Prop :=
  h.get? x = some (instObj 165 dx) ∧ ∃ k1 tk1 t k2 tk2 ta, h.get? dx = some (dictOf [⟨k1, .str (Str.ofString "data") tk1, .bytes arr t⟩, ⟨k2, .str (Str.ofString "at") tk2, .int a ta⟩] 2)
theorem oct_init {w : World} {mean : ExcName → Option Value} {mg mb : Str → Option Value} {base : Heap} {A : Around} {s : Shared} {arr : Array UInt8} {a : Int} {t ta : Tok} {x dx : Addr} {R : Result → Shared → Prop} (G : Gnd w mean mg mb base A s.heap) (hroom : A.depth ≤ 580) (hun : A.units ≤ 6800)
    (hx : s.heap.get? x = some (instObj 165 dx)) (hdx : s.heap.get? dx = some (dictOf [] 0)) (hbx : base.get? x = none) (hbd : base.get? dx = none) (hdf : dx ∉ frAddrs A) (hlt : LT.lt (α := Nat) dx x)
    (ret : ∀ h' tk, Ext [dx] s.heap h' → Oct x dx arr a h' → R (.ok (.ret .none)) { s with heap := h', toks := tk }) :
    codeAny (model PySem.Challenge.rw_pb0173_01.row.prog w) A (.call (.ref 92) ⟨[.ref x, .bytes arr t, .int a ta], []⟩) R s := by
  k_dflt (refine' enter (news := [(x, instObj 165 dx), (dx, dictOf [] 0)]) G ?hn ?ho ?hcd ?hroom ?hbind ?hloc ?_ ?q1 ?q2 ?q3 ?q4; (case ho => k_is); (case hcd => k_is); (case hroom => first | (simp only [recursionLimit]; (first | exact q34 (by assumption) | omega)) | omega | assumption); (case hbind => exact binds_K (G.K.keeps G.stays) rfl (by k_is) rfl rfl rfl); (case hloc => exact locs rfl); (case q1 => rfl); (case q2 => rfl); (case q3 => rfl); (case q4 => decide))
  case hn =>
    exact two_mem ⟨hx, hbx, G.notFr hx (fun _ _ e => by cases e)⟩ ⟨hdx, hbd, hdf⟩
  intro g L' h₁ l hsub hsup hL F N B X T FR
  try dsimp only
  (repeat' (first | ((with_reducible show wpAny _ _ (exec _ _) _ _ _); k_fold) | (with_reducible first | refine Jq0 ?_ | refine Jq1 ?_ | refine Jq2 ?_ | refine Jq3 ?_ | refine Jq4 ?_) | (k_unfold; (try dsimp only)) | (k_end; wrow_close) | walk1 | (dsimp only; walk1) | (leave1; walk_say "STEP leave1"; try dsimp only) | fail "no step"))
  k_end
  rename News _ _ _ _ => Ne
  rename Fr _ _ _ _ => Fe
  refine ret _ _ (fun b o e n => ?_) ⟨(Ne _ (.head _)).1, _, _, _, _, _, _, (Ne _ (.tail _ (.head _))).1⟩
  by_cases q : b = x
  · subst q; rw [hx] at e; cases e; exact (Ne _ (.head _)).1
  · exact Fe.keep b o (hsub b o e (by simp only [List.map_cons, List.map_nil, List.mem_cons, List.not_mem_nil, or_false, not_or]; exact ⟨q, fun z => n (by rw [z]; exact .head _)⟩))
theorem oct_new {w : World} {mean : ExcName → Option Value} {mg mb : Str → Option Value} {base : Heap} {A : Around} {E : Value → Shared → Prop} {s : Shared} {arr : Array UInt8} {a : Int} {t ta : Tok} {Q : Value → Shared → Prop} (G : Gnd w mean mg mb base A s.heap) (hroom : A.depth ≤ 570) (hun : A.units ≤ 6700)
    (ret : ∀ x dx h' tk, Ext [] s.heap h' → Oct x dx arr a h' → s.heap.get? x = none → s.heap.get? dx = none → LT.lt (α := Nat) dx x → Q (.ref x) { s with heap := h', toks := tk }) :
    wpAny (model PySem.Challenge.rw_pb0173_01.row.prog w) A (call (.ref 165) [.bytes arr t, .int a ta]) Q E s := by
  refine wpAny_call ?_
  have X := G.K.keeps G.stays
  refine via fun G_ hG_ => ?_
  obtain ⟨h, g, d, tk, os⟩ := s
  refine hG_ ?_
  clear hG_ G_
  have k : ∀ b o, h.get? b = some o → ((h.push emptyDict).push (instObj 165 h.objs.size)).get? b = some o := fun b o e => Heap.get?_push_of_some _ (Heap.get?_push_of_some _ e)
  have hx : ((h.push emptyDict).push (instObj 165 h.objs.size)).get? (h.objs.size + 1) = some (instObj 165 h.objs.size) := by heap_get
  have hdx : ((h.push emptyDict).push (instObj 165 h.objs.size)).get? h.objs.size = some emptyDict := by heap_get
  have n0 : ∀ b, h.objs.size ≤ b → h.get? b = none := fun b q => by
    cases z : h.get? b with
    | none => rfl
    | some o => exact absurd (Heap.lt_size z) (Nat.not_lt.mpr q)
  have nb : ∀ b, h.objs.size ≤ b → base.get? b = none := fun b q => by
    cases z : base.get? b with
    | none => rfl
    | some o => have := G.stays _ _ z; rw [n0 b q] at this; cases this
  have G' : Gnd w mean mg mb base (A.under (.builtin "type.__call__" ⟨[.ref 165, .bytes arr t, .int a ta], []⟩)) ((h.push emptyDict).push (instObj 165 h.objs.size)) := (G.ext (S := []) (fun b o z _ => k b o z) (fun _ m => nomatch m)).underTC _
  refine make_core (makes_of X (by k_is)) (looks_findIn X (by k_is)) (fun self => bind_fn X self (by k_is)) (.inl rfl) ?_
  refine oct_init (s := ⟨(h.push emptyDict).push (instObj 165 h.objs.size), g, d, tk, os⟩) G' (by simp only [depth_under_make]; (first | exact q32 (by assumption) | omega)) (by simp only [units_under_make]; (first | exact q33 (by assumption) | omega)) hx hdx (nb _ (Nat.le_succ _)) (nb _ (Nat.le_refl _)) ?_ (Nat.lt_succ_self _) fun h' tk' x O => ?_
  · intro m
    refine via fun G_ hG_ => ?_
    obtain ⟨l, hl, F⟩ := G.fr
    refine hG_ ?_
    clear hG_ G_
    have hl' : (A.under (.builtin "type.__call__" ⟨[.ref 165, .bytes arr t, .int a ta], []⟩)).frames = some l := by
      show pushEnvs (Code.builtin "type.__call__" ⟨[.ref 165, .bytes arr t, .int a ta], []⟩).envs A.frames = some l
      exact hl
    rw [frAddrs_of hl'] at m
    refine via fun G_ hG_ => ?_
    obtain ⟨env, he, hf⟩ := List.mem_filterMap.mp m
    refine hG_ ?_
    clear hG_ G_
    refine via fun G_ hG_ => ?_
    obtain ⟨_, L, _, hf', _, o, _, _, ho, _⟩ := F env he
    refine hG_ ?_
    clear hG_ G_
    rw [hf] at hf'
    cases hf'
    exact absurd (Heap.lt_size ho) (Nat.lt_irrefl _)
  · refine And.intro rfl ?_
    refine ret _ _ h' tk' (fun b o e _ => x b o (k b o e) fun m => ?_) O (n0 _ (Nat.le_succ _)) (n0 _ (Nat.le_refl _)) (Nat.lt_succ_self _)
    rw [List.mem_singleton.mp m] at e
    exact absurd (Heap.lt_size e) (Nat.lt_irrefl _)
theorem oct_number {w : World} {mean : ExcName → Option Value} {mg mb : Str → Option Value} {base : Heap} {A : Around} {E : Value → Shared → Prop} {s : Shared} {arr : Array UInt8} {a : Int} {ks : List Int} {tc : Tok} {x dx : Addr} {Q : Value → Shared → Prop} (G : Gnd w mean mg mb base A s.heap) (hroom : A.depth ≤ 580) (hun : A.units ≤ 6800)
    (O : Oct x dx arr a s.heap) (hbx : base.get? x = none) (hbd : base.get? dx = none) (hdf : dx ∉ frAddrs A) (hlt : LT.lt (α := Nat) dx x)
    (hks : KBw.bInts arr = ks) (hsz : ks.length ≤ 100000) (ha : 0 ≤ a) (ha2 : a ≤ 200000)
    (ret : ∀ r tr h' tk, a + 2 ≤ ks.length → r = ks.getD a.toNat 0 * 256 + ks.getD (a.toNat + 1) 0 → Ext [dx] s.heap h' → Oct x dx arr (a + 2) h' → Q (.int r tr) { s with heap := h', toks := tk })
    (exc : ∀ e h' tk, ks.length < a + 2 → Fly (frAddrs A) [dx] s.heap e a h' → E (.ref e) { s with heap := h', toks := tk }) :
    wpAny (model PySem.Challenge.rw_pb0173_01.row.prog w) A (call (.ref 106) [.ref x, .int 2 tc]) Q E s := by
  refine via fun G_ hG_ => ?_
  obtain ⟨hx, k1, tk1, t, k2, tk2, ta, hdx⟩ := id O
  refine hG_ ?_
  clear hG_ G_
  refine wpAny_call ?_
  k_dflt (refine' enter (news := [(x, instObj 165 dx), (dx, dictOf [⟨k1, .str (Str.ofString "data") tk1, .bytes arr t⟩, ⟨k2, .str (Str.ofString "at") tk2, .int a ta⟩] 2)]) G ?hn ?ho ?hcd ?hroom ?hbind ?hloc ?_ ?q1 ?q2 ?q3 ?q4; (case ho => k_is); (case hcd => k_is); (case hroom => first | (simp only [recursionLimit]; (first | exact q34 (by assumption) | omega)) | omega | assumption); (case hbind => exact BindsTo.of_eq rfl); (case hloc => exact locs rfl); (case q1 => rfl); (case q2 => rfl); (case q3 => rfl); (case q4 => decide))
  case hn =>
    exact two_mem ⟨hx, hbx, G.notFr hx (fun _ _ e => by cases e)⟩ ⟨hdx, hbd, hdf⟩
  intro g L' h₁ l hsub hsup hL F N B X T FR
  try dsimp only
  (repeat' (first | ((with_reducible show wpAny _ _ (exec _ _) _ _ _); k_fold) | (with_reducible first | refine Jq0 ?_ | refine Jq1 ?_ | refine Jq2 ?_ | refine Jq3 ?_ | refine Jq4 ?_) | (k_unfold; (try dsimp only)) | (k_end; wrow_close) | walk1 | (dsimp only; walk1) | (leave1; walk_say "STEP leave1"; try dsimp only) | fail "no step"))
  unfold Hold
  refine number_spec (G.inside B FR F rfl rfl) (by simp only [depth_deeper]; (first | exact q35 (by assumption) | omega)) (by simp only [units_deeper]; (first | exact q36 (by assumption) | omega)) hks hsz ha ha2 (fun r tr h' tk' hle hr ex => ?_) fun e h' tk' hlt' fly => ?_
  · have F' := fr_ext F ex (fun m => nomatch m) (fun _ m => nomatch m)
    have N' := news_ext N ex fun _ _ m => nomatch m
    clear F N
    (repeat' (first | ((with_reducible show wpAny _ _ (exec _ _) _ _ _); k_fold) | (with_reducible first | refine Jq0 ?_ | refine Jq1 ?_ | refine Jq2 ?_ | refine Jq3 ?_ | refine Jq4 ?_) | (k_unfold; (try dsimp only)) | (k_end; wrow_close) | walk1 | (dsimp only; walk1) | (leave1; walk_say "STEP leave1"; try dsimp only) | fail "no step"))
    rename News _ _ _ _ => Ne
    rename Fr _ _ _ _ => Fe
    try dsimp only
    refine ret _ _ _ _ hle hr (kept_of hsub Fe ?_ ?_) ⟨(Ne _ (.head _)).1, _, _, _, _, _, _, (Ne _ (.tail _ (.head _))).1⟩
    · exact two_mem hx hdx
    · exact two_mem (fun _ => (Ne _ (.head _)).1) (fun q => absurd (.head _) q)
  · try dsimp only
    refine pass_fly (S := [dx]) (S' := []) (E := fun e s'' => E e s'') hL (kept_of hsub F ?_ ?_) B FR F ?_ (fun _ m => nomatch m) (fun _ m => nomatch m) rfl rfl fly fun h'' fl => exc e h'' _ hlt' fl
    · exact two_mem hx hdx
    · intro p hp _; exact (N p hp).1
    · intro b hb; exact ⟨_, (N (b, _) (by rw [List.mem_singleton.mp hb]; exact .tail _ (.head _))).1⟩
/-- what a caller must know of an OctetsIn -/
structure OctIn (base : Heap) (A : Around) (x dx : Addr) (arr : Array UInt8) (a : Int) (h : Heap) : Prop where
  is : Oct x dx arr a h
  nx : base.get? x = none
  nd : base.get? dx = none
  off : dx ∉ frAddrs A
  lt : LT.lt (α := Nat) dx x
theorem off_in {base g : Heap} {A : Around} {l : List Env} {env : Env} {L' b : Addr} (B : Below A base l g) (h : b ∉ frAddrs A) (hL : b ≠ L') (hfe : env.frame = some L' := by rfl) : b ∉ frAddrs (A.deeper env) := by
  have hst : (A.deeper env).frames = some (env :: l) := by simp only [Around.deeper, B.stack]; rfl
  rw [frAddrs_of hst]
  rw [frAddrs_in B] at h
  intro m
  rcases List.mem_cons.mp (show b ∈ L' :: frs l by simpa [frs, hfe] using m) with q | q
  · exact hL q
  · exact h q
theorem oct_u16 {w : World} {mean : ExcName → Option Value} {mg mb : Str → Option Value} {base : Heap} {A : Around} {E : Value → Shared → Prop} {s : Shared} {arr : Array UInt8} {a : Int} {ks : List Int} {x dx : Addr} {Q : Value → Shared → Prop} (G : Gnd w mean mg mb base A s.heap) (hroom : A.depth ≤ 570) (hun : A.units ≤ 6700)
    (O : OctIn base A x dx arr a s.heap)
    (hks : KBw.bInts arr = ks) (hsz : ks.length ≤ 100000) (ha : 0 ≤ a) (ha2 : a ≤ 200000)
    (ret : ∀ r tr h' tk, a + 2 ≤ ks.length → r = ks.getD a.toNat 0 * 256 + ks.getD (a.toNat + 1) 0 → Ext [dx] s.heap h' → Oct x dx arr (a + 2) h' → Q (.int r tr) { s with heap := h', toks := tk })
    (exc : ∀ e h' tk, ks.length < a + 2 → Fly (frAddrs A) [dx] s.heap e a h' → E (.ref e) { s with heap := h', toks := tk }) :
    wpAny (model PySem.Challenge.rw_pb0173_01.row.prog w) A (call (.ref 120) [.ref x]) Q E s := by
  refine via fun G_ hG_ => ?_
  obtain ⟨⟨hx, k1, tk1, t, k2, tk2, ta, hdx⟩, hbx, hbd, hdf, hlt⟩ := O
  refine hG_ ?_
  clear hG_ G_
  refine wpAny_call ?_
  k_dflt (refine' enter (news := [(x, instObj 165 dx), (dx, dictOf [⟨k1, .str (Str.ofString "data") tk1, .bytes arr t⟩, ⟨k2, .str (Str.ofString "at") tk2, .int a ta⟩] 2)]) G ?hn ?ho ?hcd ?hroom ?hbind ?hloc ?_ ?q1 ?q2 ?q3 ?q4; (case ho => k_is); (case hcd => k_is); (case hroom => first | (simp only [recursionLimit]; (first | exact q37 (by assumption) | omega)) | omega | assumption); (case hbind => exact BindsTo.of_eq rfl); (case hloc => exact locs rfl); (case q1 => rfl); (case q2 => rfl); (case q3 => rfl); (case q4 => decide))
  case hn =>
    exact two_mem ⟨hx, hbx, G.notFr hx (fun _ _ e => by cases e)⟩ ⟨hdx, hbd, hdf⟩
  intro g L' h₁ l hsub hsup hL F N B X T FR
  try dsimp only
  (repeat' (first | ((with_reducible show wpAny _ _ (exec _ _) _ _ _); k_fold) | (with_reducible first | refine Jq0 ?_ | refine Jq1 ?_ | refine Jq2 ?_ | refine Jq3 ?_ | refine Jq4 ?_) | (k_unfold; (try dsimp only)) | (k_end; wrow_close) | walk1 | (dsimp only; walk1) | (leave1; walk_say "STEP leave1"; try dsimp only) | fail "no step"))
  unfold Hold
  refine oct_number (G.inside B FR F rfl rfl) (by simp only [depth_deeper]; (first | exact q32 (by assumption) | omega)) (by simp only [units_deeper]; (first | exact q38 (by assumption) | omega)) ⟨(N _ (.head _)).1, _, _, _, _, _, _, (N _ (.tail _ (.head _))).1⟩ hbx hbd (off_in B hdf (N _ (.tail _ (.head _))).2.1) hlt hks hsz ha ha2 (fun r tr h' tk' hle hr ex O => ?_) fun e h' tk' hlt' fly => ?_
  · have ex0 : Ext [dx] s.heap h₁ := kept_of hsub F (by exact two_mem hx hdx) (two_mem (fun _ => (N _ (.head _)).1) (fun q => absurd (.head _) q))
    exact ret _ _ _ _ hle hr (ex0.trans ex) O
  · try dsimp only
    refine pass_fly (S := [dx]) (S' := [dx]) (E := fun e s'' => E e s'') hL (kept_of hsub F ?_ ?_) B FR F ?_ ?_ ?_ rfl rfl fly fun h'' fl => exc e h'' _ hlt' fl
    · exact two_mem hx hdx
    · intro p hp _; exact (N p hp).1
    · intro b hb; exact ⟨_, (N (b, _) (by rw [List.mem_singleton.mp hb]; exact .tail _ (.head _))).1⟩
    · intro b hb _ _; exact hb
    · intro b hb; rw [List.mem_singleton.mp hb]; exact ⟨(N _ (.tail _ (.head _))).2.1, hdf⟩
end
section
open PyProof.Rows.LCg
theorem Fly.kept {fr S : List Addr} {h₀ h : Heap} {e : Addr} {x : Int} (F : Fly fr S h₀ e x h) : Kept fr S h₀ h := by
  refine via fun G_ hG_ => ?_
  obtain ⟨_, _, _, _, _, _, _, _, _, _, _, _, _, _, _, K⟩ := F
  refine hG_ ?_
  clear hG_ G_
  exact K
/-- only C is written, and C was there before the exception -/
theorem Fly.out {fr S' S₀ : List Addr} {h₃ hc h h' : Heap} {e C : Addr} {x : Int} {oC : Obj} (F : Fly fr S' h₃ e x h) (sb : Heap.SameBut C h h') (hC : h₃.get? C = some oC) (hcC : hc.get? C = none)
    (hext : Ext S₀ hc h₃) (hSS : ∀ b ∈ S', ∀ o, hc.get? b = some o → b ∈ S₀) (live : ∀ b o, hc.get? b = some o → ∃ o', h₃.get? b = some o') : Fly fr S₀ hc e x h' := by
  refine via fun G_ hG_ => ?_
  obtain ⟨dx, T, oT, ts, ⟨⟨q, sl, c3, c4, c5, c6, he⟩, k1, tk1, v1, k2, tk2, tx, n, hd⟩, hT, hTd, h3, hTe, hTx, hde, n1, n2, n3, hdfr, K⟩ := F
  refine hG_ ?_
  clear hG_ G_
  have ne : ∀ b, h₃.get? b = none → b ≠ C := fun b z w => by rw [w, hC] at z; cases z
  have nc : ∀ b o, hc.get? b = some o → b ≠ C := fun b o z w => by rw [w, hcC] at z; cases z
  have no : ∀ b, h₃.get? b = none → hc.get? b = none := fun b q => by
    cases z : hc.get? b with
    | none => rfl
    | some o => obtain ⟨o', y⟩ := live b o z; rw [q] at y; cases y
  have o := sb.2
  refine ⟨dx, T, oT, ts, ⟨⟨q, sl, c3, c4, c5, c6, (o e (ne _ n1)).trans he⟩, k1, tk1, v1, k2, tk2, tx, n, (o dx (ne _ n2)).trans hd⟩, (o T (ne _ n3)).trans hT, hTd, h3, hTe, hTx, hde, no _ n1, no _ n2, no _ n3, hdfr, ?_, ?_, ?_⟩
  · intro b ob z
    obtain ⟨o', y⟩ := live b ob z
    obtain ⟨o'', y'⟩ := K.live b o' y
    exact ⟨o'', (o b (nc b ob z)).trans y'⟩
  · intro b ob z b1 b2
    exact (o b (nc b ob z)).trans (K.keep b ob (hext b ob z b1) (fun m => b1 (hSS b m ob z)) b2)
  · intro b ob z b1 b2
    obtain ⟨sl, y⟩ := K.slot b ob (hext b ob z b1) (fun m => b1 (hSS b m ob z)) b2
    exact ⟨sl, (o b (nc b ob z)).trans y⟩
theorem Frs.change {base h h' : Heap} {l : List Env} (F : Frs base h l) (k : ∀ b ∈ frs l, ∀ o, h.get? b = some o → (∃ es n, o.data = .dict es n) → h'.get? b = some o) : Frs base h' l := fun env he => by
  refine via fun G_ hG_ => ?_
  obtain ⟨hk, L, m, hf, hn, o, es, ep, ho, hd, r⟩ := F env he
  refine hG_ ?_
  clear hG_ G_
  exact ⟨hk, L, m, hf, hn, o, es, ep, k L (List.mem_filterMap.mpr ⟨env, he, hf⟩) o ho ⟨es, ep, hd⟩, hd, r⟩

/-- what a turn's end keeps: the iterator, the block's names, the list so far, and a ledger beyond -/
noncomputable def TurnEnd (h₀ : Heap) (L : Addr) (m : Str → Option Value) (s₁ : Shared) (I : Addr) (oI : Obj) (C : Addr) (oC : Obj) (D : Addr) (oD : Obj) (J : List (Addr × Obj) → Prop) (s₂ : Shared) : Prop :=
  ∃ h' tk news', s₂ = { s₁ with heap := h', toks := tk } ∧ Fr h₀ L h' m ∧ News h₀ L h' ((I, oI) :: (C, oC) :: (D, oD) :: news') ∧ Off3 I C D news' ∧ J news'
/-- an own exception out of a turn that began at the heap h -/
noncomputable def TurnExc (env : Env) (outer : List Env) (hc : Heap) (S₀ : List Addr) (Hz : Int → Prop) (C : Addr) (h : Heap) (s₁ : Shared) (xe : Value) (s' : Shared) : Prop :=
  (∃ h' tk', s' = { s₁ with heap := h', toks := tk' }) ∧ ∃ e z S', xe = .ref e ∧ Hz z ∧ Fly (frs (env :: outer)) S' h e z s'.heap ∧ C ∉ S' ∧ (∀ b ∈ frs (env :: outer), b ∉ S') ∧ Ext S₀ hc h ∧
    (∀ b ∈ S', ∀ o, hc.get? b = some o → b ∈ S₀) ∧ (∀ b o, hc.get? b = some o → ∃ o', h.get? b = some o')
noncomputable abbrev testsOf (ifs : List Expr) (env : Env) : Sem Bool := forIn ifs true fun c r => if r = true then do let ok ← isTrue c env (eval c env); pure (ForInStep.yield ok) else pure (ForInStep.yield r)

section
variable {prog : Program} {w : World} {A : Around} {E : Value → Shared → Prop} {s : Shared} {h₀ base hc : Heap} {L : Addr} {m : Str → Option Value} {env : Env} {outer : List Env} {S₀ : List Addr} {Hz : Int → Prop}
theorem comp_blockU {elt iter : Expr} {ifs : List Expr} {x : Str} {px : Pos} {scope : Scope} {cl : List (Str × Addr)} {pos : Pos} {I : Addr} {fp : List Addr} {n : Nat} {P : Nat → Value → Prop} {St : Nat → Heap → Prop} {S : List (Addr × Obj) → Prop} {news : List (Addr × Obj)}
    {J : Nat → List Value → List (Addr × Obj) → Prop} {Q : Value → Shared → Prop} {use : Option (Value → Sem Unit)}
    (hcell : ∀ y ∈ scope.names, y.2 ≠ .cell) (hkind : scope.kind = .function) (hx : scope.names.lookup x = some .local)
    (hfr : A.frames = some (env :: outer)) (hle : env.frame = some L) (hkf : env.scope.kind = .function) (hbL : base.get? L = none) (FR : Frs base h₀ outer)
    (W : Walks prog w A I fp [I] n P St) (hsz : n ≤ sizeLine) (hIo : ∀ i h, St i h → ∃ o, h.get? I = some o)
    (hSt : ∀ i h h' o nw, St i h → h.get? I = some o → h'.get? I = some o → (∀ b o, h₀.get? b = some o → h'.get? b = some o) → News h₀ L h' nw → S nw → St i h')
    (hst : St 0 s.heap) (hfp : ∀ b ∈ fp, b < s.heap.objs.size) (F : Fr h₀ L s.heap m) (N : News h₀ L s.heap news) (hIL : L ≠ I) (hI₀ : h₀.get? I = none) (off : ∀ p ∈ news, p.1 ≠ I) (hS : ∀ i ys nw, J i ys nw → S nw) (hJ : J 0 [] news)
    (hcl : ∀ b o, hc.get? b = some o → ∃ o', s.heap.get? b = some o')
    (turn : ∀ i v I oI C oC D m₂ ys news h tk, i < n → P i v → ys.length ≤ i → J i ys news → NsObj oC m₂ → m₂ x = some v → Fr h₀ L h m → News h₀ L h ((I, oI) :: (C, oC) :: (D, lst ys) :: news) → Off3 I C D news → ((@Ne Nat I C) ∧ (@Ne Nat I D) ∧ (@Ne Nat C D)) →
      wpAny (model prog w) A (testsOf ifs (compEnvC scope cl C env)) (fun ok s₃ => if ok = true then wpAny (model prog w) A (eval elt (compEnvC scope cl C env)) (fun y s₄ => TurnEnd h₀ L m { s with heap := h, toks := tk } I oI C oC D (lst ys) (J (i + 1) (ys ++ [y])) s₄)
          (TurnExc env outer hc S₀ Hz C h { s with heap := h, toks := tk }) s₃
        else TurnEnd h₀ L m { s with heap := h, toks := tk } I oI C oC D (lst ys) (J (i + 1) ys) s₃) (TurnExc env outer hc S₀ Hz C h { s with heap := h, toks := tk }) { s with heap := h, toks := tk })
    (exc : ∀ e z h' tk, Hz z → Fly (frs (env :: outer)) S₀ hc e z h' → Frs base h' (env :: outer) → E (.ref e) { s with heap := h', toks := tk })
    (fin : ∀ D C h tk m' ys news', h.Ns C m' → C ≠ L → h₀.get? C = none → Fr h₀ L h m → News h₀ L h ((D, lst ys) :: news') → (∀ p ∈ (D, lst ys) :: news', p.1 ≠ C) → Off1 D news' → ys.length ≤ n → J n ys news' → compPost (model prog w) A E use Q (.ref D) C (.ok .next) { s with heap := h, toks := tk }) :
    wpAny (model prog w) A (newList []) (fun acc s₃ => wpAny (model prog w) A (newFunctionEnv scope env.globals cl [] env.qual none .none (some env)) (fun cenv s₄ =>
      codeAny (model prog w) A (.compStart (.ListComp elt [⟨.Name x px, iter, ifs, 0⟩] scope pos) 0 (.ref I) acc { cenv with scope := relabel scope env }) (compPost (model prog w) A E use Q acc cenv.locals) s₄) E s₃) E s := by
  refine via fun G_ hG_ => ?_
  obtain ⟨hp, gg, dd, tt, os⟩ := s
  refine hG_ ?_
  clear hG_ G_
  dsimp only at hst hfp F N hcl
  refine wpAny_newObj_type (wpAny_newFunctionEnv hcell (by intro y hy; cases hy) (fun h₁ hns₁ hsb₁ => ?_) hkind)
  dsimp only at hns₁ hsb₁ ⊢
  generalize hD : hp.objs.size = D at hns₁ hsb₁ ⊢
  generalize hH : hp.push { cls := .type "list", dict := none, data := .seq ([] : List Value).toArray } = H at hns₁ hsb₁ ⊢
  have hCs : H.objs.size = D + 1 := by rw [← hH, Heap.size_push, hD]
  generalize hC : H.objs.size = C at hns₁ hsb₁ hCs ⊢
  have lo : ∀ b o, hp.get? b = some o → b ≠ C ∧ b ≠ D := fun b o e => by
    have : LT.lt (α := Nat) b hp.objs.size := Heap.lt_size e
    rw [hD] at this
    exact ⟨fun q => by rw [q, hCs] at this; exact Nat.lt_irrefl _ (Nat.lt_of_succ_lt this), fun q => by rw [q] at this; exact Nat.lt_irrefl _ this⟩
  have hDC : D ≠ C := by rw [hCs]; exact Nat.ne_of_lt (Nat.lt_succ_self _)
  have fresh : ∀ (h : Heap) b, (∀ b o, h.get? b = some o → ∃ o', hp.get? b = some o') → (b = C ∨ b = D) → h.get? b = none := fun h b k q => by
    cases e : h.get? b with
    | none => rfl
    | some o => obtain ⟨o', e'⟩ := k b o e; exact absurd (lo b o' e') (by rcases q with rfl | rfl <;> simp)
  have h₀hp : ∀ b o, h₀.get? b = some o → ∃ o', hp.get? b = some o' := fun b o e => ⟨o, F.keep b o e⟩
  have hC₀ := fresh h₀ C h₀hp (.inl rfl)
  have hD₀ := fresh h₀ D h₀hp (.inr rfl)
  have hcC := fresh hc C hcl (.inl rfl)
  refine via fun G_ hG_ => ?_
  obtain ⟨oL, _, _, hoL, _⟩ := id F.ns
  refine hG_ ?_
  clear hG_ G_
  have hLC : C ≠ L := Ne.symm (lo L _ hoL).1
  have hLD : D ≠ L := Ne.symm (lo L _ hoL).2
  obtain ⟨oI₀, heI₀⟩ := hIo _ _ hst
  have hIC := (lo I _ heI₀).1
  have hID := (lo I _ heI₀).2
  have old : ∀ b o, hp.get? b = some o → h₁.get? b = some o := fun b o e => hsb₁.extBut b o (lo b o e).1 (Heap.get?_push_of_some _ (hH ▸ Heap.get?_push_of_some _ e))
  have hacc : h₁.get? D = some (lst []) := hsb₁.extBut _ _ hDC (Heap.get?_push_of_some _ (by rw [← hH, ← hD]; exact Heap.get?_push_size _ rfl))
  have hCf : C ∉ fp := fun q => by have := hfp _ q; rw [show hp.objs.size = D from hD, hCs] at this; exact Nat.lt_irrefl _ (Nat.lt_of_succ_lt this)
  have hDf : D ∉ fp := fun q => by have := hfp _ q; rw [show hp.objs.size = D from hD] at this; exact Nat.lt_irrefl _ this
  have hst₁ : St 0 h₁ := W.frame _ _ _ hst fun b _ o e => old b o e
  have off₀ : Off3 I C D news := Off3.of fun p hm => ⟨off p hm, (lo _ _ (N p hm).1).1, (lo _ _ (N p hm).1).2⟩
  have FRh : ∀ h, Fr h₀ L h m → Frs base h (env :: outer) := fun h F ev hev => by
    rcases List.mem_cons.mp hev with rfl | hev
    · exact ⟨hkf, L, m, hle, hbL, F.ns⟩
    · refine via fun G_ hG_ => ?_
      obtain ⟨a1, L₁, m₁, a2, a3, o, es, ep, ho, r⟩ := FR ev hev
      refine hG_ ?_
      clear hG_ G_
      exact ⟨a1, L₁, m₁, a2, a3, o, es, ep, F.keep _ _ ho, r⟩
  have hCr : C ∉ frs (env :: outer) := fun q => by
    refine via fun G_ hG_ => ?_
    obtain ⟨ev, hev, hf⟩ := List.mem_filterMap.mp q
    refine hG_ ?_
    clear hG_ G_
    rcases List.mem_cons.mp hev with rfl | hev
    · rw [hle] at hf; cases hf; exact hLC rfl
    · refine via fun G_ hG_ => ?_
      obtain ⟨_, L₁, _, hf', _, o, _, _, ho, _⟩ := FR ev hev
      refine hG_ ?_
      clear hG_ G_
      rw [hf] at hf'; cases hf'
      rw [hC₀] at ho; cases ho
  -- an exception out of a turn
  have thrown : ∀ (h₃ : Heap) (tk : Nat) oC m₂ (x : Value) (s' : Shared), Fr h₀ L h₃ m → h₃.get? C = some oC → NsObj oC m₂ → TurnExc env outer hc S₀ Hz C h₃ ⟨h₃, gg, dd, tk, os⟩ x s' →
      notedBy (model prog w) A (compEnvC scope cl C env) (fun e s' => compPost (model prog w) A E use Q (.ref D) C (.error e) s') x s' := by
    intro h₃ tk oC m₂ xe s' F₃ hC₃ hoC z0_
    refine via fun G_ hG_ => ?_
    obtain ⟨⟨h₄, tk₄, rfl⟩, e, z, S', rfl, hz, fly, hCS, hfS, hext, hSS, hlive⟩ := z0_
    refine hG_ ?_
    clear hG_ G_
    have FR₄ : Frs base h₄ (env :: outer) := (FRh h₃ F₃).kept fly.kept hfS
    have hCd : ∀ vs, oC.data ≠ .fields vs := fun vs q => by obtain ⟨es, ep, hd, _⟩ := hoC; rw [hd] at q; cases q
    have hC₄ : h₄.get? C = some oC := fly.kept.keep _ _ hC₃ hCS hCr
    show wpAny (model prog w) A (noteFrame (.ref e) env) _ _ _
    refine note_fly (s := ⟨h₄, gg, dd, tk₄, os⟩) hfr FR₄ hle fly (fun _ q => q) fun h₅ fly₅ kp => ?_
    obtain ⟨sl, hC₅⟩ := kp _ _ hC₄ hCd
    refine ⟨m₂, ?_, fun h₆ sb cenv _ => ?_⟩
    · refine via fun G_ hG_ => ?_
      obtain ⟨es, ep, hd, r1, r2⟩ := hoC
      refine hG_ ?_
      clear hG_ G_
      exact ⟨_, es, ep, hC₅, hd, r1, r2⟩
    have fly₆ : Fly (frs (env :: outer)) S₀ hc e z h₆ := fly₅.out sb hC₃ hcC hext hSS hlive
    have FR₆ : Frs base h₆ (env :: outer) := ((FRh h₃ F₃).kept fly₅.kept hfS).change fun b hb o q _ => (sb.2 b fun w => hCr (w ▸ hb)).trans q
    unfold PySem.passOn
    refine via fun G_ hG_ => ?_
    obtain ⟨dx, T, oT, ts, ⟨⟨q, sl, c3, c4, c5, c6, he⟩, _⟩, _⟩ := id fly₆
    refine hG_ ?_
    clear hG_ G_
    refine wpAny_bind (wpAny_field he rfl (x := .ref T) rfl ?_)
    rw [if_neg (show ¬ ((Value.ref T == Value.none) = true) from Bool.false_ne_true)]
    refine wpAny_bind (flight_fly (s := ⟨h₆, gg, dd, tk₄, os⟩) fly₆ fun h₇ fly₇ kp₇ => wpAny_throw ?_)
    exact exc e z h₇ tk₄ hz fly₇ (FR₆.change fun b _ o q hd => kp₇ b o q fun vs w => by obtain ⟨es, n, hd⟩ := hd; rw [hd] at w; cases w)
  have loop : codeAny (model prog w) A (.compLoop (.ListComp elt [⟨.Name x px, iter, ifs, 0⟩] scope pos) 0 (.ref I) (.ref D) (compEnvC scope cl C env)) (compPost (model prog w) A E use Q (.ref D) C) ⟨h₁, gg, dd, tt + ([] : List (Str × Value)).length, os⟩ := by
    refine codeAny_compLoop_tests
      (fun k s' => ∃ h' tk i ys m' news', s' = ⟨h', gg, dd, tk, os⟩ ∧ i ≤ n ∧ k = n + 1 - i ∧ ys.length ≤ i ∧ St i h' ∧ Fr h₀ L h' m ∧ h'.Ns C m' ∧ News h₀ L h' ((D, lst ys) :: news') ∧ Off3 I C D news' ∧ J i ys news') ?_ (n + 1)
      ⟨h₁, _, 0, [], _, news, rfl, Nat.zero_le _, rfl, Nat.le_refl _, hst₁, F.keeps old, hns₁, ?_, off₀, hJ⟩
    · intro k s' z0_
      refine via fun G_ hG_ => ?_
      obtain ⟨h', tk, i, ys, m', news', rfl, hi, rfl, hyl, hst', F', hn', N', off', hJ'⟩ := z0_
      refine hG_ ?_
      clear hG_ G_
      have o3 := off'.mem
      have but : ∀ {h₂ : Heap}, (∀ b o, b ∉ [I] → h'.get? b = some o → h₂.get? b = some o) → News h₀ L h₂ ((D, lst ys) :: news') := fun hk => news_but N' hk fun p hm => by
        rcases List.mem_cons.mp hm with rfl | hm
        · exact Ne.symm hID
        · exact (o3 p hm).1
      by_cases hlt : i < n
      · refine W.item i _ _ _ hlt hst' fun v h₂ tk₂ hPv hst₂ hk₂ => ?_
        refine wpAny_assign_Name (wpAny_storeName_local (lookup_relabel_local hx) (hn'.at' fun o e => hk₂ _ o (by simpa using Ne.symm hIC) e) (fun h₃ hn₃ hs₃ => ?_) (by simp [compEnvC, relabel, hkind]))
        have hst₃ : St (i + 1) h₃ := W.frame _ _ _ hst₂ fun b hb o e => hs₃.extBut b o (fun q => hCf (by have q' : b = C := q; rw [← q']; exact hb)) e
        obtain ⟨oI, heI⟩ := hIo _ _ hst₃
        refine via fun G_ hG_ => ?_
        obtain ⟨oC, heC, hoC⟩ := ns_obj hn₃
        refine hG_ ?_
        clear hG_ G_
        have F₃ : Fr h₀ L h₃ m := (fr_but F' hk₂ hIL hI₀).change hs₃ hLC hC₀
        have N₃ : News h₀ L h₃ ((I, oI) :: (C, oC) :: (D, lst ys) :: news') := fun p hm => by
          rcases List.mem_cons.mp hm with rfl | hm
          · exact ⟨heI, Ne.symm hIL, hI₀⟩
          rcases List.mem_cons.mp hm with rfl | hm
          · exact ⟨heC, hLC, hC₀⟩
          have z := but hk₂ p hm
          refine ⟨hs₃.extBut _ _ ?_ z.1, z.2⟩
          rcases List.mem_cons.mp hm with rfl | hm
          · exact hDC
          · exact (o3 p hm).2.1
        have again : ∀ ys' s₄, ys'.length ≤ i + 1 → TurnEnd h₀ L m ⟨h₃, gg, dd, tk₂ + 1, os⟩ I oI C oC D (lst ys') (J (i + 1) ys') s₄ →
            ∃ h' tk i' ys m' news', s₄ = ⟨h', gg, dd, tk, os⟩ ∧ i' ≤ n ∧ n + 1 - (i + 1) = n + 1 - i' ∧ ys.length ≤ i' ∧ St i' h' ∧ Fr h₀ L h' m ∧ h'.Ns C m' ∧ News h₀ L h' ((D, lst ys) :: news') ∧ Off3 I C D news' ∧ J i' ys news' := by
          intro ys' _ hy z0_
          refine via fun G_ hG_ => ?_
          obtain ⟨h₄, tk₄, nw, rfl, F₄, N₄, off₄, J₄⟩ := z0_
          refine hG_ ?_
          clear hG_ G_
          have zI := (N₄ (I, oI) List.mem_cons_self).1
          have N₅ : News h₀ L h₄ ((D, lst ys') :: nw) := fun p hm => N₄ p (List.mem_cons_of_mem _ (List.mem_cons_of_mem _ hm))
          exact ⟨h₄, tk₄, i + 1, ys', _, nw, rfl, hlt, rfl, hy, hSt _ _ _ _ _ hst₃ heI zI F₄.keep (fun p hm => N₅ p (List.mem_cons_of_mem _ hm)) (hS _ _ _ J₄), F₄, hoC.ns (N₄ (C, oC) (List.mem_cons_of_mem _ List.mem_cons_self)).1, N₅, off₄, J₄⟩
        refine wpAny_mono (turn i v I oI C oC D _ ys news' h₃ (tk₂ + 1) hlt hPv hyl hJ' hoC (by simp) F₃ N₃ off' ⟨hIC, hID, Ne.symm hDC⟩) (fun ok s₃ z₃ => ?_) fun x s₃ z₃ => thrown h₃ (tk₂ + 1) oC _ x s₃ F₃ heC hoC z₃
        cases ok with
        | false => exact ⟨n + 1 - (i + 1), by (first | exact q39 (by assumption) | omega), again ys s₃ (Nat.le_succ_of_le hyl) z₃⟩
        | true =>
          refine wpAny_mono z₃ (fun y s₄ z₄ => ?_) fun x s₄ z₄ => thrown h₃ (tk₂ + 1) oC _ x s₄ F₃ heC hoC z₄
          refine via fun G_ hG_ => ?_
          obtain ⟨h₄, tk₄, nw, rfl, F₄, N₄, off₄, J₄⟩ := z₄
          refine hG_ ?_
          clear hG_ G_
          have zD := (N₄ (D, lst ys) (List.mem_cons_of_mem _ (List.mem_cons_of_mem _ List.mem_cons_self))).1
          have o4 := off₄.mem
          refine append_at (hsz := by show ys.toArray.size ≤ sizeLine; rw [List.size_toArray]; (first | exact q41 (by assumption) (by assumption) (by assumption) | omega)) zD fun h₅ hs₅ hD₅ => ⟨n + 1 - (i + 1), by (first | exact q39 (by assumption) | omega), again (ys ++ [y]) _ (by rw [List.length_append, List.length_singleton]; (first | exact q40 (by assumption) | omega)) ⟨h₅, tk₄, nw, rfl, F₄.change hs₅ hLD hD₀, fun p hm => ?_, off₄, J₄⟩⟩
          rcases List.mem_cons.mp hm with rfl | hm
          · exact ⟨hs₅.extBut _ _ hID (N₄ _ List.mem_cons_self).1, Ne.symm hIL, hI₀⟩
          rcases List.mem_cons.mp hm with rfl | hm
          · exact ⟨hs₅.extBut _ _ (Ne.symm hDC) (N₄ _ (List.mem_cons_of_mem _ List.mem_cons_self)).1, hLC, hC₀⟩
          rcases List.mem_cons.mp hm with rfl | hm
          · exact ⟨hD₅.trans (congrArg some (lst_snoc ys y)), hLD, hD₀⟩
          have zz := N₄ p (List.mem_cons_of_mem _ (List.mem_cons_of_mem _ (List.mem_cons_of_mem _ hm)))
          exact ⟨hs₅.extBut _ _ (o4 p hm).2.2 zz.1, zz.2⟩
      · obtain rfl : i = n := Nat.le_antisymm hi (Nat.not_lt.mp hlt)
        refine W.done _ _ _ hst' fun h₂ tk₂ hk₂ => ?_
        refine fin D C h₂ tk₂ m' ys news' (hn'.at' fun o e => hk₂ _ o (by simpa using Ne.symm hIC) e) hLC hC₀ (fr_but F' hk₂ hIL hI₀) (but hk₂) (fun p hm => ?_) off'.one hyl hJ'
        rcases List.mem_cons.mp hm with rfl | hm
        · exact hDC
        · exact (o3 p hm).2.1
    · intro p hm
      rcases List.mem_cons.mp hm with rfl | hm
      · exact ⟨hacc, hLD, hD₀⟩
      · exact ⟨old _ _ (N p hm).1, (N p hm).2⟩
  exact codeAny_compStart_list loop (W.self 0 _ _ _ hst₁ loop)

theorem comp_block {elt iter : Expr} {ifs : List Expr} {x : Str} {px : Pos} {scope : Scope} {cl : List (Str × Addr)} {pos : Pos} {I : Addr} {fp : List Addr} {n : Nat} {P : Nat → Value → Prop} {St : Nat → Heap → Prop} {S : List (Addr × Obj) → Prop} {news : List (Addr × Obj)}
    {J : Nat → List Value → List (Addr × Obj) → Prop} {Q : Value → Shared → Prop}
    (hcell : ∀ y ∈ scope.names, y.2 ≠ .cell) (hkind : scope.kind = .function) (hx : scope.names.lookup x = some .local)
    (hfr : A.frames = some (env :: outer)) (hle : env.frame = some L) (hkf : env.scope.kind = .function) (hbL : base.get? L = none) (FR : Frs base h₀ outer)
    (W : Walks prog w A I fp [I] n P St) (hsz : n ≤ sizeLine) (hIo : ∀ i h, St i h → ∃ o, h.get? I = some o)
    (hSt : ∀ i h h' o nw, St i h → h.get? I = some o → h'.get? I = some o → (∀ b o, h₀.get? b = some o → h'.get? b = some o) → News h₀ L h' nw → S nw → St i h')
    (hst : St 0 s.heap) (hfp : ∀ b ∈ fp, b < s.heap.objs.size) (F : Fr h₀ L s.heap m) (N : News h₀ L s.heap news) (hIL : L ≠ I) (hI₀ : h₀.get? I = none) (off : ∀ p ∈ news, p.1 ≠ I) (hS : ∀ i ys nw, J i ys nw → S nw) (hJ : J 0 [] news)
    (hcl : ∀ b o, hc.get? b = some o → ∃ o', s.heap.get? b = some o')
    (turn : ∀ i v I oI C oC D m₂ ys news h tk, i < n → P i v → ys.length ≤ i → J i ys news → NsObj oC m₂ → m₂ x = some v → Fr h₀ L h m → News h₀ L h ((I, oI) :: (C, oC) :: (D, lst ys) :: news) → Off3 I C D news → ((@Ne Nat I C) ∧ (@Ne Nat I D) ∧ (@Ne Nat C D)) →
      wpAny (model prog w) A (testsOf ifs (compEnvC scope cl C env)) (fun ok s₃ => if ok = true then wpAny (model prog w) A (eval elt (compEnvC scope cl C env)) (fun y s₄ => TurnEnd h₀ L m { s with heap := h, toks := tk } I oI C oC D (lst ys) (J (i + 1) (ys ++ [y])) s₄)
          (TurnExc env outer hc S₀ Hz C h { s with heap := h, toks := tk }) s₃
        else TurnEnd h₀ L m { s with heap := h, toks := tk } I oI C oC D (lst ys) (J (i + 1) ys) s₃) (TurnExc env outer hc S₀ Hz C h { s with heap := h, toks := tk }) { s with heap := h, toks := tk })
    (exc : ∀ e z h' tk, Hz z → Fly (frs (env :: outer)) S₀ hc e z h' → Frs base h' (env :: outer) → E (.ref e) { s with heap := h', toks := tk })
    (done : ∀ D h tk ys news', Fr h₀ L h m → News h₀ L h ((D, lst ys) :: news') → Off1 D news' → ys.length ≤ n → J n ys news' → Q (.ref D) { s with heap := h, toks := tk }) :
    wpAny (model prog w) A (newList []) (fun acc s₃ => wpAny (model prog w) A (newFunctionEnv scope env.globals cl [] env.qual none .none (some env)) (fun cenv s₄ =>
      codeAny (model prog w) A (.compStart (.ListComp elt [⟨.Name x px, iter, ifs, 0⟩] scope pos) 0 (.ref I) acc { cenv with scope := relabel scope env }) (compPost (model prog w) A E none Q acc cenv.locals) s₄) E s₃) E s := by
  refine comp_blockU hcell hkind hx hfr hle hkf hbL FR W hsz hIo hSt hst hfp F N hIL hI₀ off hS hJ hcl turn exc fun D C h tk m' ys news' hn hCL hC₀ F' N' offC off' hyl hJ' => ?_
  refine ⟨m', hn, fun h₃ sb => done D h₃ tk ys news' (F'.change sb hCL hC₀) (fun p hm => ?_) off' hyl hJ'⟩
  exact ⟨sb.extBut _ _ (offC p hm) (N' p hm).1, (N' p hm).2⟩

/-- the block of a list comprehension, from its iterator on -/
noncomputable def Block (prog : Program) (w : World) (A : Around) (E : Value → Shared → Prop) (env : Env) (elt iter : Expr) (ifs : List Expr) (x : Str) (px : Pos) (scope : Scope) (cl : List (Str × Addr)) (pos : Pos) (Q : Value → Shared → Prop) (it : Value) (s₂ : Shared) : Prop :=
  wpAny (model prog w) A (newList []) (fun acc s₃ => wpAny (model prog w) A (newFunctionEnv scope env.globals cl [] env.qual none .none (some env)) (fun cenv s₄ =>
      codeAny (model prog w) A (.compStart (.ListComp elt [⟨.Name x px, iter, ifs, 0⟩] scope pos) 0 it acc { cenv with scope := relabel scope env }) (compPost (model prog w) A E none Q acc cenv.locals) s₄) E s₃) E s₂
theorem comp_start {elt iter : Expr} {ifs : List Expr} {x : Str} {px : Pos} {scope : Scope} {cl : List (Str × Addr)} {pos : Pos} {Q : Value → Shared → Prop}
    (hclos : closureFor scope env = pure cl) (hkind : scope.kind = .function) (hnames : ∀ y ∈ scope.names, y.2 = .local → scope.names.lookup y.1 = some .local)
    (h : wpAny (model prog w) A (eval iter env) (fun xv s₁ => wpAny (model prog w) A (pyIter xv) (fun it s₂ => Block prog w A E env elt iter ifs x px scope cl pos Q it s₂) E s₁) E s)
    (hs : ∀ x, foldedSetIterable iter env x = pure x := by intro _; rfl) :
    wpAny (model prog w) A (eval (.ListComp elt [⟨.Name x px, iter, ifs, 0⟩] scope pos) env) Q E s := by
  rw [eval_ListComp]
  exact wpAny_comprehension_free (use := none) rfl hs hclos hkind hnames h
theorem range_block {elt iter : Expr} {ifs : List Expr} {x : Str} {px : Pos} {scope : Scope} {cl : List (Str × Addr)} {pos : Pos} {Q : Value → Shared → Prop} {r : Addr} {a b : Int} {t u v : Tok} {n : Nat} {news : List (Addr × Obj)} (J : Nat → List Value → List (Addr × Obj) → Prop)
    (hcell : ∀ y ∈ scope.names, y.2 ≠ .cell) (hkind : scope.kind = .function) (hx : scope.names.lookup x = some .local)
    (hfr : A.frames = some (env :: outer)) (hle : env.frame = some L) (hkf : env.scope.kind = .function) (hbL : base.get? L = none) (FR : Frs base h₀ outer)
    (hh : A.handled = none) (hr : IsRange s.heap r a b 1 t u v) (hsm : Builtin.Range.small a b 1 = true) (hn : Builtin.Range.rangeSize a b 1 = ((n : Nat) : Int)) (hsz : n ≤ sizeLine)
    (F : Fr h₀ L s.heap m) (N : News h₀ L s.heap news) (hcl : ∀ b o, hc.get? b = some o → ∃ o', s.heap.get? b = some o') (hJ : J 0 [] news)
    (turn : ∀ (i : Nat) tv I oI C oC D m₂ ys news h tk, i < n → ys.length ≤ i → J i ys news → NsObj oC m₂ → m₂ x = some (.int (a + (i : Int)) tv) → Fr h₀ L h m → News h₀ L h ((I, oI) :: (C, oC) :: (D, lst ys) :: news) → Off3 I C D news → ((@Ne Nat I C) ∧ (@Ne Nat I D) ∧ (@Ne Nat C D)) →
      wpAny (model prog w) A (testsOf ifs (compEnvC scope cl C env)) (fun ok s₃ => if ok = true then wpAny (model prog w) A (eval elt (compEnvC scope cl C env)) (fun y s₄ => TurnEnd h₀ L m { s with heap := h, toks := tk } I oI C oC D (lst ys) (J (i + 1) (ys ++ [y])) s₄)
          (TurnExc env outer hc S₀ Hz C h { s with heap := h, toks := tk }) s₃
        else TurnEnd h₀ L m { s with heap := h, toks := tk } I oI C oC D (lst ys) (J (i + 1) ys) s₃) (TurnExc env outer hc S₀ Hz C h { s with heap := h, toks := tk }) { s with heap := h, toks := tk })
    (exc : ∀ e z h' tk, Hz z → Fly (frs (env :: outer)) S₀ hc e z h' → Frs base h' (env :: outer) → E (.ref e) { s with heap := h', toks := tk })
    (done : ∀ D h tk ys news', Fr h₀ L h m → News h₀ L h ((D, lst ys) :: news') → Off1 D news' → ys.length ≤ n → J n ys news' → Q (.ref D) { s with heap := h, toks := tk }) :
    wpAny (model prog w) A (pyIter (.ref r)) (fun it s₂ => Block prog w A E env elt iter ifs x px scope cl pos Q it s₂) E s := by
  have up : ∀ {ob : Obj} b o, s.heap.get? b = some o → (s.heap.push ob).get? b = some o := fun _ _ e => Heap.get?_push_of_some _ e
  refine wpAny_pyIter_range hr hsm ?_
  refine comp_block (s := { s with heap := _ }) (hc := hc) (S₀ := S₀) (Hz := Hz) (outer := outer) (base := base) (h₀ := h₀) (L := L) (m := m) (news := news) (S := fun _ => True) (J := J) hcell hkind hx hfr hle hkf hbL FR (range_walks hh a n) hsz (fun i h st => ⟨_, st⟩) range_st
    (by show IsRangeIter _ _ _ _ _; rw [hn]; simpa using Heap.get?_push_size _ rfl) (fun b hb => ?_) (F.keeps up) (N.grown up) (Nat.ne_of_lt F.ns.lt) (next_is_new F) (fun p hp => Nat.ne_of_lt (Heap.lt_size (N p hp).1)) (fun _ _ _ _ => trivial) hJ
    (fun b o q => let ⟨o', q'⟩ := hcl b o q; ⟨o', up _ _ q'⟩) ?_ exc done
  · rw [List.mem_singleton.mp hb]
    show s.heap.objs.size < (s.heap.push _).objs.size
    rw [Heap.size_push]; exact Nat.lt_succ_self _
  · rintro i v I oI C oC D m₂ ys news h tk hi ⟨tv, rfl⟩ hy hJ' hoC hm₂ F' N' off ne
    exact turn i tv I oI C oC D m₂ ys news h tk hi hy hJ' hoC hm₂ F' N' off ne
theorem list_block {elt iter : Expr} {ifs : List Expr} {x : Str} {px : Pos} {scope : Scope} {cl : List (Str × Addr)} {pos : Pos} {Q : Value → Shared → Prop} {ax : Addr} {its : Array Value} {news : List (Addr × Obj)} (J : Nat → List Value → List (Addr × Obj) → Prop)
    (hcell : ∀ y ∈ scope.names, y.2 ≠ .cell) (hkind : scope.kind = .function) (hx : scope.names.lookup x = some .local)
    (hfr : A.frames = some (env :: outer)) (hle : env.frame = some L) (hkf : env.scope.kind = .function) (hbL : base.get? L = none) (FR : Frs base h₀ outer)
    (hh : A.handled = none) (hS : ∀ i ys nw, J i ys nw → SrcAt h₀ ax its nw) (hsz : its.size ≤ sizeLine)
    (F : Fr h₀ L s.heap m) (N : News h₀ L s.heap news) (hcl : ∀ b o, hc.get? b = some o → ∃ o', s.heap.get? b = some o') (hJ : J 0 [] news)
    (turn : ∀ (i : Nat) v I oI C oC D m₂ ys news h tk, its[i]? = some v → ys.length ≤ i → J i ys news → NsObj oC m₂ → m₂ x = some v → Fr h₀ L h m → News h₀ L h ((I, oI) :: (C, oC) :: (D, lst ys) :: news) → Off3 I C D news → ((@Ne Nat I C) ∧ (@Ne Nat I D) ∧ (@Ne Nat C D)) →
      wpAny (model prog w) A (testsOf ifs (compEnvC scope cl C env)) (fun ok s₃ => if ok = true then wpAny (model prog w) A (eval elt (compEnvC scope cl C env)) (fun y s₄ => TurnEnd h₀ L m { s with heap := h, toks := tk } I oI C oC D (lst ys) (J (i + 1) (ys ++ [y])) s₄)
          (TurnExc env outer hc S₀ Hz C h { s with heap := h, toks := tk }) s₃
        else TurnEnd h₀ L m { s with heap := h, toks := tk } I oI C oC D (lst ys) (J (i + 1) ys) s₃) (TurnExc env outer hc S₀ Hz C h { s with heap := h, toks := tk }) { s with heap := h, toks := tk })
    (exc : ∀ e z h' tk, Hz z → Fly (frs (env :: outer)) S₀ hc e z h' → Frs base h' (env :: outer) → E (.ref e) { s with heap := h', toks := tk })
    (done : ∀ D h tk ys news', Fr h₀ L h m → News h₀ L h ((D, lst ys) :: news') → Off1 D news' → ys.length ≤ its.size → J its.size ys news' → Q (.ref D) { s with heap := h, toks := tk }) :
    wpAny (model prog w) A (pyIter (.ref ax)) (fun it s₂ => Block prog w A E env elt iter ifs x px scope cl pos Q it s₂) E s := by
  have up : ∀ {ob : Obj} b o, s.heap.get? b = some o → (s.heap.push ob).get? b = some o := fun _ _ e => Heap.get?_push_of_some _ e
  have hl := (hS _ _ _ hJ).list F.keep N
  have hlt : ax < s.heap.objs.size := by obtain ⟨_, e, _⟩ := hl; exact Heap.lt_size e
  refine wpAny_pyIter_list hl ?_
  refine comp_block (s := { s with heap := _ }) (hc := hc) (S₀ := S₀) (Hz := Hz) (outer := outer) (base := base) (h₀ := h₀) (L := L) (m := m) (news := news) (S := SrcAt h₀ ax its) (J := J) hcell hkind hx hfr hle hkf hbL FR (Walks.list hh s.heap.objs.size ax (Nat.ne_of_lt hlt) its) hsz
    (fun i h st => by obtain ⟨o, e, _⟩ := st.1; exact ⟨o, e⟩) list_st ⟨⟨_, Heap.get?_push_size _ rfl, rfl, rfl⟩, hl.push _⟩ (fun b hb => ?_) (F.keeps up) (N.grown up) (Nat.ne_of_lt F.ns.lt) (next_is_new F) (fun p hp => Nat.ne_of_lt (Heap.lt_size (N p hp).1)) hS hJ
    (fun b o q => let ⟨o', q'⟩ := hcl b o q; ⟨o', up _ _ q'⟩) ?_ exc done
  · show b < (s.heap.push _).objs.size
    rw [Heap.size_push]
    rcases List.mem_cons.mp hb with rfl | hb
    · exact Nat.lt_succ_self _
    · rw [List.mem_singleton.mp hb]; exact Nat.lt_succ_of_lt hlt
  · intro i v I oI C oC D m₂ ys news h tk _ hv hy hJ' hoC hm₂ F' N' off ne
    exact turn i v I oI C oC D m₂ ys news h tk hv hy hJ' hoC hm₂ F' N' off ne
end
end
section
section
variable {w : World} {mean : ExcName → Option Value} {mg mb : Str → Option Value} {base : Heap} {A : Around} {E : Value → Shared → Prop} {s : Shared}
/-- into a def whose names a block closes over -/
theorem enterC {R : Result → Shared → Prop} {news : List (Addr × Obj)} {name qual : Str} {params : Arguments} {body : List Stmt} {scope : Scope} {dV kV doc pm cdv ct oc : Value} {an od : Option Addr} {osl : Array (Option Value)} {f : Addr} {args : Args} {binds : List (Str × Value)}
    (G : Gnd w mean mg mb base A s.heap) (hn : ∀ p ∈ news, s.heap.get? p.1 = some p.2 ∧ base.get? p.1 = none ∧ p.1 ∉ frAddrs A)
    (ho : (frag.heap_1 w.params).lookup f = some ⟨oc, od, .func (fnOf name qual params body scope dV kV doc pm an cdv ct), osl⟩) (hcd : codeIn (frag.heap_1 w.params) cdv qual = true) (hroom : A.depth < recursionLimit)
    (hbind : BindsTo s (fnOf name qual params body scope dV kV doc pm an cdv ct) args binds) (hkind : (binds.all fun y => scope.names.lookup y.1 == some .local || scope.names.lookup y.1 == some .cell) = true)
    (hnd : ((cellsFrom 0 scope.names []).map (·.1)).Nodup)
    (h : ∀ g L' h₁ l tk cells, (∀ b o, s.heap.get? b = some o → b ∉ news.map (·.1) → g.get? b = some o) → (∀ b o, g.get? b = some o → s.heap.get? b = some o) → L' = s.heap.objs.size →
      Fr g L' h₁ (bindL (envOfC qual scope L' f cdv).kindOf binds fun _ => none) → News g L' h₁ (cells ++ news) → CellsAre (bindC (envOfC qual scope L' f cdv).kindOf binds fun _ => none) (cellsFrom (L' + 1) scope.names []) cells →
      Below A base l g → (frag.heap_1 w.params).In g → Top viewK (looseW viewK [Str.ofString "ShapeError"]) mean mg mb g → Frs base g l → (∀ p ∈ news, p.1 < L') →
      wpAny (model PySem.Challenge.rw_pb0173_01.row.prog w) (A.deeper (envOfC qual scope L' f cdv)) (execs body (envOfC qual scope L' f cdv))
        (fun fl s' => R (.ok (.ret (match fl with | .ret v => v | _ => .none))) s')
        (fun e s' => wpAny (model PySem.Challenge.rw_pb0173_01.row.prog w) (A.deeper (envOfC qual scope L' f cdv)) (leaving (envOfC qual scope L' f cdv) e) (fun _ s'' => R (.error e) s'') (fun e' s'' => R (.error e') s'') s')
        { s with heap := h₁, toks := tk })
    (hco : scope.isCoroutine = false) (hgen : scope.isGenerator = false) (hk : scope.kind = .function) : codeAny (model PySem.Challenge.rw_pb0173_01.row.prog w) A (.call (.ref f) args) R s := by
  refine via fun G_ hG_ => ?_
  obtain ⟨K, T, st, ⟨l, hl, FF⟩, hh⟩ := G
  refine hG_ ?_
  clear hG_ G_
  have nb : ∀ b o, base.get? b = some o → b ∉ news.map (·.1) := fun b o e q => by
    refine via fun G_ hG_ => ?_
    obtain ⟨p, hp, rfl⟩ := List.mem_map.mp q
    refine hG_ ?_
    clear hG_ G_
    rw [(hn p hp).2.1] at e; cases e
  have stg : base.StaysIn (hideAll s.heap (news.map (·.1))) := fun b o e => hideAll_get _ (st b o e) (nb b o e)
  have FG : Frs base (hideAll s.heap (news.map (·.1))) l := fun env he => by
    refine via fun G_ hG_ => ?_
    obtain ⟨hk, L, m, hf, hnb, o, es, ep, hb, r⟩ := FF env he
    refine hG_ ?_
    clear hG_ G_
    refine ⟨hk, L, m, hf, hnb, o, es, ep, hideAll_get _ hb fun q => ?_, r⟩
    refine via fun G_ hG_ => ?_
    obtain ⟨p, hp, rfl⟩ := List.mem_map.mp q
    refine hG_ ?_
    clear hG_ G_
    refine (hn p hp).2.2 ?_
    unfold frAddrs
    rw [hl]
    exact List.mem_filterMap.mpr ⟨env, he, hf⟩
  refine codeAny_call_function (fd := fnX name qual params body scope [] dV kV doc pm an cdv ct) hroom ((K.keeps st) _ _ ho) rfl hco hgen rfl (codeRec_of (K.keeps st) hcd) (hbind _ _ _ _ ?_)
  refine wpAny_newFunctionEnv_cells hk (kindsX hkind _) fun env' he s' x => ?_
  subst he
  refine ⟨(T.nolimit.keeps st).keeps x.toInCall.keep, codeAny_func ?_⟩
  refine via fun G_ hG_ => ?_
  obtain ⟨h₁, tk, rfl, _⟩ := x.done
  refine hG_ ?_
  clear hG_ G_
  have hk₁ := x.toInCall.keep
  refine via fun G_ hG_ => ?_
  obtain ⟨cells, NC, Y⟩ := Cl.news (h₀ := s.heap) (Nat.le_refl _) fun n c hm => ⟨x.cell n c (lookup_of_mem_nodup (cellsFrom_names scope.names 0 (s.heap.objs.size + 1) [] [] rfl ▸ hnd) hm), x.above n c hm⟩
  refine hG_ ?_
  clear hG_ G_
  refine h _ s.heap.objs.size h₁ l tk cells (fun b o e n => hideAll_get _ e n) (fun b o e => of_hideAll _ e) rfl
    ⟨x.toInCall.ns, fun b o e => hk₁ b o (of_hideAll _ e), Nat.le_of_eq (hideAll_size _ _)⟩ (fun p hp => ?_) Y ⟨hl, stg, FG.fun⟩ (K.keeps stg) (T.keeps stg) FG (fun p hp => Heap.lt_size (hn p hp).1)
  rcases List.mem_append.mp hp with hp | hp
  · refine ⟨(NC p hp).1, (NC p hp).2.1, ?_⟩
    cases q : (hideAll s.heap (news.map (·.1))).get? p.1 with
    | none => rfl
    | some o => have := of_hideAll _ q; rw [(NC p hp).2.2] at this; cases this
  · exact ⟨hk₁ _ _ (hn p hp).1, Nat.ne_of_lt (Heap.lt_size (hn p hp).1), hideAll_none _ (List.mem_map_of_mem hp)⟩
end
end
section
/-- the two cells of the law: the ints left, and the state -/
structure CellsAt (base : Heap) (c i : Addr) (h : Heap) : Prop where
  nc : base.get? c = none
  ni : base.get? i = none
  is : ∃ n st tk vs ns k, h.get? c = some (listOf ([.ref i, .int st tk] : List Value).toArray n) ∧ h.get? i = some (listOf (List.toArray vs) k) ∧ IntsAre vs ns ∧ ns.length ≤ 63 ∧ 0 ≤ st ∧ st < 4294967296
theorem cells_ne {c i : Addr} {h : Heap} {n k : Nat} {st : Int} {tk : Tok} {vs : List Value} {ns : List Int} (hc : h.get? c = some (listOf ([.ref i, .int st tk] : List Value).toArray n)) (hi : h.get? i = some (listOf (List.toArray vs) k)) (hI : IntsAre vs ns) : i ≠ c := fun e => by
  rw [e, hc] at hi
  injection hi with hi
  injection hi with _ _ hd
  injection hd with hd
  have hd : ([.ref i, .int st tk] : List Value) = vs := by simpa using hd
  subst hd
  cases hI
theorem take_spec {w : World} {mean : ExcName → Option Value} {mg mb : Str → Option Value} {base : Heap} {A : Around} {E : Value → Shared → Prop} {s : Shared} {c i : Addr} {many : Int} {tm : Tok} {Q : Value → Shared → Prop} (G : Gnd w mean mg mb base A s.heap) (hroom : A.depth + 10 < recursionLimit) (hun : A.units + 300 < cLine)
    (C : CellsAt base c i s.heap) (hm : 0 < many) (hm2 : many < 1000)
    (ret : ∀ r t h' tk i', 0 ≤ r → r < many → Ext [c] s.heap h' → CellsAt base c i' h' → (i' = i ∨ s.heap.get? i' = none) → Q (.int r t) { s with heap := h', toks := tk }) :
    wpAny (model PySem.Challenge.rw_pb0173_01.row.prog w) A (call (.ref 243) [.ref c, .int many tm]) Q E s := by
  refine via fun G_ hG_ => ?_
  obtain ⟨hnc, hni, n, st, tk, vs, ns, k, hc, hi, hI, hlen, h0, h1⟩ := C
  refine hG_ ?_
  clear hG_ G_
  have hne := cells_ne hc hi hI
  refine wpAny_call ?_
  k_dflt (refine' enter (news := [(c, listOf ([.ref i, .int st tk] : List Value).toArray n), (i, listOf vs.toArray k)]) G ?hn ?ho ?hcd ?hroom ?hbind ?hloc ?_ ?q1 ?q2 ?q3 ?q4; (case ho => k_is); (case hcd => k_is); (case hroom => first | (simp only [recursionLimit]; omega) | (first | exact q42 (by assumption) | omega) | assumption); (case hbind => exact BindsTo.of_eq rfl); (case hloc => exact locs rfl); (case q1 => rfl); (case q2 => rfl); (case q3 => rfl); (case q4 => decide))
  case hn =>
    intro p hp
    rcases List.mem_cons.mp hp with rfl | hp
    · exact ⟨hc, hnc, G.notFr hc (fun _ _ e => by cases e)⟩
    · cases List.mem_singleton.mp hp; exact ⟨hi, hni, G.notFr hi (fun _ _ e => by cases e)⟩
  intro g L' h₁ l hsub hsup hL F N B X T FR
  try dsimp only
  have fin : ∀ (r : Int) t h' tk m' (i' : Addr) n' (st' : Int) tk' us k' ms nw, r = Int.fmod r many ∨ (∃ q, r = Int.fmod q many) → Fr g L' h' m' → News g L' h' nw → (c, listOf ([.ref i', .int st' tk'] : List Value).toArray n') ∈ nw → (i', listOf (List.toArray us) k') ∈ nw → (i, listOf vs.toArray k) ∈ nw → IntsAre us ms → ms.length ≤ 63 → (∃ q, st' = Int.fmod q 4294967296) → Q (.int r t) { s with heap := h', toks := tk } := by
    intro r t h' tk m' i' n' st' tk' us k' ms nw hr F' N' hm' hmi hmo hI' hl' hst
    obtain ⟨q, hq⟩ := hst
    have c1 := (N' _ hm').1
    have c2 := (N' _ hmi).1
    refine ret r t h' tk i' ?_ ?_ (fun b o e nb => ?_) ⟨hnc, kts_none B.stays (N' _ hmi).2.2, n', st', tk', us, ms, k', c1, c2, hI', hl', ?_, ?_⟩ ?_
    · rcases hr with e | ⟨q, e⟩ <;> (rw [e]; exact fmod_lo _ hm)
    · rcases hr with e | ⟨q, e⟩ <;> (rw [e]; exact fmod_hi _ hm)
    · by_cases ei : b = i
      · rw [ei, hi] at e
        cases e
        rw [ei]
        exact (N' _ hmo).1
      · exact F'.keep b o (hsub b o e (by simp only [List.map_cons, List.map_nil, List.mem_cons, List.not_mem_nil, or_false, not_or]; exact ⟨fun q => nb (List.mem_singleton.mpr q), ei⟩))
    · rw [hq]; exact fmod_lo _ (by decide)
    · rw [hq]; exact fmod_hi _ (by decide)
    · by_cases ei : i' = i
      · exact .inl ei
      · refine .inr ?_
        cases z : s.heap.get? i' with
        | none => rfl
        | some o =>
          have := hsub i' o z (by simp only [List.map_cons, List.map_nil, List.mem_cons, List.not_mem_nil, or_false, not_or]; exact ⟨cells_ne c1 c2 hI', ei⟩)
          rw [(N' _ hmi).2.2] at this
          cases this
  clear ret hsub hsup FR hc hi G
  have l1 : ([] : List Int).length ≤ 63 := by decide
  have hne' : @Ne Nat i c := hne
  cases hI with
  | nil =>
    k_steps
    try dsimp only
    refine' fin _ _ _ _ _ _ _ _ _ _ _ _ _ (.inr ⟨_, rfl⟩) ?f ?nn ?m ?mi ?mo ?ii ?le ⟨_, rfl⟩; (case f => assumption); (case nn => assumption); (case m => k_mem); (case mi => k_mem); (case mo => k_mem); (case ii => exact .nil); (case le => exact l1)
  | cons k t hI =>
    simp only [List.length_cons] at hlen
    k_steps
    all_goals try (exfalso; rename (decide (k :: _ = []) = true) => h; simp at h; done)
    · try dsimp only
      rename_i hI2 _ _ _ _ _ _ _ _ _
      refine' fin _ _ _ _ _ _ _ _ _ _ _ _ _ (.inr ⟨_, rfl⟩) ?f ?nn ?m ?mi ?mo ?ii ?le ⟨_, rfl⟩; (case f => assumption); (case nn => assumption); (case m => k_mem); (case mi => k_mem); (case mo => k_mem); (case ii => assumption); (case le => first | omega | (simp only [List.length_cons] at *; (first | exact q43 (by assumption) (by assumption) (by assumption) | omega)))
end
section
open PyProof.Rows.LCg


noncomputable def w2 (ks : List Int) (a : Int) : Int := ks.getD a.toNat 0 * 256 + ks.getD (a.toNat + 1) 0
theorem OctIn.inside {base g h₁ : Heap} {A : Around} {x dx : Addr} {arr : Array UInt8} {a : Int} {l : List Env} {L' : Addr} {env : Env}
    (B : Below A base l g) (O : Oct x dx arr a h₁) (nx : base.get? x = none) (nd : base.get? dx = none) (off : dx ∉ frAddrs A) (lt : LT.lt (α := Nat) dx x) (hne : dx ≠ L') (hfe : env.frame = some L' := by rfl) : OctIn base (A.deeper env) x dx arr a h₁ :=
  ⟨O, nx, nd, off_in B off hne hfe, lt⟩
section
variable {w : World} {mean : ExcName → Option Value} {mg mb : Str → Option Value} {base : Heap} {A : Around} {E : Value → Shared → Prop} {s : Shared}
theorem oct_kept {h₀ g h : Heap} {L x dx : Addr} {i d : Obj} {m : Str → Option Value} (hsub : ∀ b o, h₀.get? b = some o → b ∉ List.map (·.1) [(x, i), (dx, d)] → g.get? b = some o) (F : Fr g L h m) (hx : h₀.get? x = some i) (hdx : h₀.get? dx = some d) (nx : h.get? x = some i) : Ext [dx] h₀ h :=
  kept_of hsub F (two_mem hx hdx) (two_mem (fun _ => nx) fun q => absurd (.head _) q)
theorem news_oct {g h h' : Heap} {L x dx : Addr} {pre post : List (Addr × Obj)} {arr : Array UInt8} {a' : Int} {d : Obj} (N : News g L h (pre ++ (x, instObj 165 dx) :: (dx, d) :: post)) (ex : Ext [dx] h h') (O : Oct x dx arr a' h')
    (h1 : ∀ p ∈ pre, p.1 ≠ dx) (h2 : ∀ p ∈ post, p.1 ≠ dx) : ∃ k1 tk1 t k2 tk2 ta, News g L h' (pre ++ (x, instObj 165 dx) :: (dx, dictOf [⟨k1, .str (Str.ofString "data") tk1, .bytes arr t⟩, ⟨k2, .str (Str.ofString "at") tk2, .int a' ta⟩] 2) :: post) := by
  refine via fun G_ hG_ => ?_
  obtain ⟨ox, k1, tk1, t, k2, tk2, ta, od⟩ := O
  refine hG_ ?_
  clear hG_ G_
  refine ⟨k1, tk1, t, k2, tk2, ta, fun p hp => ?_⟩
  have old : ∀ p ∈ pre ++ (x, instObj 165 dx) :: (dx, d) :: post, p.1 ≠ dx → h'.get? p.1 = some p.2 ∧ p.1 ≠ L ∧ g.get? p.1 = none := fun p hp q =>
    ⟨ex _ _ (N p hp).1 (by simpa using q), (N p hp).2⟩
  rcases List.mem_append.mp hp with q | q
  · exact old p (List.mem_append_left _ q) (h1 p q)
  rcases List.mem_cons.mp q with rfl | q
  · exact ⟨ox, (N (x, instObj 165 dx) (List.mem_append_right _ (.head _))).2⟩
  rcases List.mem_cons.mp q with rfl | q
  · exact ⟨od, (N (dx, d) (List.mem_append_right _ (.tail _ (.head _)))).2⟩
  · exact old p (List.mem_append_right _ (.tail _ (.tail _ q))) (h2 p q)
theorem fr_oct {g h h' : Heap} {L dx : Addr} {m : Str → Option Value} (F : Fr g L h m) (ex : Ext [dx] h h') (hd : dx ≠ L) (hg : g.get? dx = none) : Fr g L h' m :=
  fr_ext F ex (by simpa using Ne.symm hd) (by simpa using hg)
theorem pass_oct {h₀ g hc : Heap} {l : List Env} {L' e dx : Addr} {m : Str → Option Value} {env : Env} {z : Int} {Q : Unit → Shared → Prop} (hL : L' = h₀.objs.size) (ex : Ext [dx] h₀ hc)
    (B : Below A base l g) (FR : Frs base g l) (F : Fr g L' hc m) (nd : ∃ o, hc.get? dx = some o) (hdL : dx ≠ L') (hdf : dx ∉ frAddrs A) (hfe : env.frame = some L') (hk : env.scope.kind = .function)
    (fly : Fly (frAddrs (A.deeper env)) [dx] hc e z s.heap) (q : ∀ h', Fly (frAddrs A) [dx] h₀ e z h' → Q () { s with heap := h' }) :
    wpAny (model PySem.Challenge.rw_pb0173_01.row.prog w) (A.deeper env) (leaving env (.ref e)) Q E s :=
  pass_fly hL ex B FR F (fun b hb => List.mem_singleton.mp hb ▸ nd) (fun _ hb _ _ => hb) (fun b hb => List.mem_singleton.mp hb ▸ ⟨hdL, hdf⟩) hfe hk fly q
end
noncomputable def RowBad (ks : List Int) (a z : Int) : Prop :=
  (ks.length < a + 2 ∧ z = a) ∨ (a + 2 ≤ ks.length ∧ ks.length < a + 4 ∧ z = a + 2) ∨ (a + 4 ≤ ks.length ∧ 65536 < w2 ks a + w2 ks (a + 2) ∧ z = a + 2) ∨
    (a + 4 ≤ ks.length ∧ w2 ks a + w2 ks (a + 2) ≤ 65536 ∧ ∃ i : Nat, (i : Int) < w2 ks (a + 2) ∧ a + 4 + 2 * i ≤ ks.length ∧ ks.length < a + 4 + 2 * i + 2 ∧ z = a + 4 + 2 * i)
noncomputable def rowPairs (ks : List Int) (a : Int) (n : Nat) : List (Int × Int) := (List.range n).map fun (i : Nat) => (w2 ks a + i, w2 ks (a + 4 + 2 * i))
noncomputable def RowGood (ks : List Int) (a : Int) (ps : List (Int × Int)) : Prop :=
  a + 4 + 2 * w2 ks (a + 2) ≤ ks.length ∧ w2 ks a + w2 ks (a + 2) ≤ 65536 ∧ ps = rowPairs ks a (w2 ks (a + 2)).toNat
/-- the values ys are the tuples of the pairs ps, which lie in the ledger fro -/
noncomputable def PairsIn (ys : List Value) (ps : List (Int × Int)) (fro : List (Addr × Obj)) : Prop :=
  ys.length = ps.length ∧ ∀ (j : Nat) (p : Int × Int), ps[j]? = some p → ∃ (T : Addr) (t1 t2 : Tok), ys[j]? = some (Value.ref T) ∧ (T, ({ cls := .type "tuple", data := .seq #[.int p.1 t1, .int p.2 t2] } : Obj)) ∈ fro
/-- a list of pairs, made since h₀ -/
noncomputable def PairsAt (h₀ h : Heap) (D : Addr) (ps : List (Int × Int)) : Prop :=
  h₀.get? D = none ∧ ∃ ys n fro, h.get? D = some ({ cls := .type "list", data := .seq (List.toArray ys) n } : Obj) ∧ PairsIn ys ps fro ∧ ∀ p ∈ fro, h.get? p.1 = some p.2 ∧ h₀.get? p.1 = none
theorem news_move {g h : Heap} {L : Addr} {t i c d c1 c2 x dx : Addr × Obj} {fro : List (Addr × Obj)} (N : News g L h (t :: i :: c :: d :: c1 :: c2 :: x :: dx :: fro)) : News g L h (i :: c :: d :: c1 :: c2 :: x :: dx :: t :: fro) := fun p hp => N p (by
  simp only [List.mem_cons] at hp ⊢
  rcases hp with hp | hp | hp | hp | hp | hp | hp | hp | hp <;> simp only [hp, true_or, or_true])
theorem PairsIn.snoc {ys : List Value} {ps : List (Int × Int)} {fro : List (Addr × Obj)} {T : Addr} {p : Int × Int} {t1 t2 : Tok} (P : PairsIn ys ps fro) :
    PairsIn (ys ++ [.ref T]) (ps ++ [p]) ((T, ({ cls := .type "tuple", data := .seq #[.int p.1 t1, .int p.2 t2] } : Obj)) :: fro) := by
  obtain ⟨h1, h2⟩ := P
  refine ⟨by simp [h1], fun j q hq => ?_⟩
  by_cases hj : j < ps.length
  · rw [List.getElem?_append_left hj] at hq
    refine via fun G_ hG_ => ?_
    obtain ⟨T', u1, u2, e1, e2⟩ := h2 j q hq
    refine hG_ ?_
    clear hG_ G_
    exact ⟨T', u1, u2, by rw [List.getElem?_append_left (by (first | exact q44 (by assumption) (by assumption) | omega))]; exact e1, .tail _ e2⟩
  · have hl : j < (ps ++ [p]).length := (List.getElem?_eq_some_iff.mp hq).1
    have hj' : j = ps.length := by simp at hl; (first | exact q45 (by assumption) (by assumption) | omega)
    subst hj'
    rw [List.getElem?_append_right (Nat.le_refl _)] at hq
    simp at hq
    subst hq
    exact ⟨T, t1, t2, by rw [← h1, List.getElem?_append_right (Nat.le_refl _)]; simp, .head _⟩
theorem rowPairs_succ (ks : List Int) (a : Int) (i : Nat) : rowPairs ks a (i + 1) = rowPairs ks a i ++ [(w2 ks a + i, w2 ks (a + 4 + 2 * i))] := by
  unfold rowPairs
  rw [List.range_succ, List.map_append]
  rfl
theorem w2_bd {arr : Array UInt8} {ks : List Int} (hks : KBw.bInts arr = ks) (z : Int) : 0 ≤ w2 ks z ∧ w2 ks z ≤ 65535 := by
  have b : ∀ j, 0 ≤ ks.getD j 0 ∧ ks.getD j 0 < 256 := fun j => by
    by_cases h : j < ks.length
    · have e : ks.getD j 0 = ks[j] := by simp [List.getD, h]
      rw [e]
      exact KBw.ints_in (b := arr) (by rw [hks]; exact List.getElem_mem h)
    · rw [List.getD_eq_getElem?_getD, List.getElem?_eq_none (by (first | exact q74 (by assumption) | omega))]; decide
  have h1 := b z.toNat
  have h2 := b (z.toNat + 1)
  unfold w2
  (first | exact q75 (by assumption) (by assumption) | omega)
theorem base_L {base g h : Heap} {A : Around} {l : List Env} {L' : Addr} {m : Str → Option Value} (B : Below A base l g) (F : Fr g L' h m) : base.get? L' = none := by
  cases z : base.get? L' with
  | none => rfl
  | some o => exact absurd (Heap.lt_size (B.stays _ _ z)) (Nat.not_lt.mpr F.above)
theorem live_of {h₀ h : Heap} {dx : Addr} (ex : Ext [dx] h₀ h) (nd : ∃ o, h.get? dx = some o) : ∀ b o, h₀.get? b = some o → ∃ o', h.get? b = some o' := fun b o z => by
  by_cases q : b = dx
  · exact q ▸ nd
  · exact ⟨o, ex b o z (by simpa using q)⟩
theorem fra_in {base g : Heap} {A : Around} {l : List Env} {env : Env} (B : Below A base l g) : frAddrs (A.deeper env) = frs (env :: l) :=
  frAddrs_of (l := env :: l) (by simp only [Around.deeper, B.stack]; rfl)
theorem fresh_of {h₀ g : Heap} {x dx D : Addr} {i d : Obj} (hsub : ∀ b o, h₀.get? b = some o → b ∉ List.map (·.1) [(x, i), (dx, d)] → g.get? b = some o) (hg : g.get? D = none) (h1 : D ≠ x) (h2 : D ≠ dx) : h₀.get? D = none := by
  cases z : h₀.get? D with
  | none => rfl
  | some o => have := hsub D o z (by simp [h1, h2]); rw [hg] at this; cases this
theorem leave_out {w : World} {base : Heap} {A : Around} {E : Value → Shared → Prop} {s : Shared} {h₀ g : Heap} {l : List Env} {L' e : Addr} {S : List Addr} {env : Env} {z : Int} {Q : Unit → Shared → Prop} (hL : L' = h₀.objs.size) (B : Below A base l g) (hfe : env.frame = some L')
    (FR : Frs base s.heap (env :: l)) (fly : Fly (frs (env :: l)) S h₀ e z s.heap) (q : ∀ h', Fly (frAddrs A) S h₀ e z h' → Q () { s with heap := h' }) : wpAny (model PySem.Challenge.rw_pb0173_01.row.prog w) (A.deeper env) (leaving env (.ref e)) Q E s := by
  have hfa : frAddrs A = frs l := frAddrs_in B
  have hst : (A.deeper env).frames = some (env :: l) := by simp only [Around.deeper, B.stack]; rfl
  have hfs : frs (env :: l) = L' :: frs l := by simp [frs, hfe]
  refine leave_next hst FR hfe fly (fun _ hb => hb) fun h' fl => q h' ?_
  refine fl.weaken (fun _ _ z _ => z) (fun b o z => ⟨o, z⟩) (fun b hb _ _ => hb) (fun b hb o z => ?_) (fun b hb => by rw [hfs]; rw [hfa] at hb; exact .tail _ hb)
  rw [hfs] at hb
  rw [hfa]
  rcases List.mem_cons.mp hb with rfl | hb
  · exact absurd (Heap.lt_size z) (by rw [hL]; exact Nat.lt_irrefl _)
  · exact hb
@[reducible] noncomputable def RowJ (arr : Array UInt8) (ks : List Int) (a : Int) (L' x dx : Addr) (r1 : Int) (tr1 : Tok) (i : Nat) (ys : List Value) (news : List (Addr × Obj)) : Prop :=
  ∃ o1 o2 k1 tk1 t k2 tk2 ta fro z, news = (L' + 1 + 1, o1) :: (L' + 1, o2) :: (x, instObj 165 dx) :: (dx, dictOf [⟨k1, .str (Str.ofString "data") tk1, .bytes arr t⟩, ⟨k2, .str (Str.ofString "at") tk2, .int z ta⟩] 2) :: fro ∧ z = a + 4 + 2 * i ∧
      o1.data = .cell (some (.int r1 tr1)) ∧ o2.data = .cell (some (.ref x)) ∧ PairsIn ys (rowPairs ks a i) fro ∧ a + 4 + 2 * i ≤ ks.length ∧ ∀ p ∈ fro, p.1 ≠ dx ∧ p.1 ≠ x
theorem row_spec {w : World} {mean : ExcName → Option Value} {mg mb : Str → Option Value} {base : Heap} {A : Around} {E : Value → Shared → Prop} {s : Shared} {arr : Array UInt8} {a : Int} {ks : List Int} {x dx : Addr} {Q : Value → Shared → Prop} (G : Gnd w mean mg mb base A s.heap) (hroom : A.depth ≤ 560) (hun : A.units ≤ 6600)
    (O : OctIn base A x dx arr a s.heap)
    (hks : KBw.bInts arr = ks) (hsz : ks.length ≤ 1000) (ha : 0 ≤ a) (ha2 : a ≤ 1000)
    (exc : ∀ e z h' tk, RowBad ks a z → Fly (frAddrs A) [dx] s.heap e z h' → E (.ref e) { s with heap := h', toks := tk })
    (ret : ∀ D h' tk ps, RowGood ks a ps → Ext [dx] s.heap h' → PairsAt s.heap h' D ps → Q (.ref D) { s with heap := h', toks := tk }) :
    wpAny (model PySem.Challenge.rw_pb0173_01.row.prog w) A (call (.ref 224) [.ref x]) Q E s := by
  refine via fun G_ hG_ => ?_
  obtain ⟨⟨hx, k1, tk1, t, k2, tk2, ta, hdx⟩, hbx, hbd, hdf, hlt⟩ := O
  refine hG_ ?_
  clear hG_ G_
  refine wpAny_call ?_
  k_dflt (refine' enterC (news := [(x, instObj 165 dx), (dx, dictOf [⟨k1, .str (Str.ofString "data") tk1, .bytes arr t⟩, ⟨k2, .str (Str.ofString "at") tk2, .int a ta⟩] 2)]) G ?hn ?ho ?hcd ?hroom ?hbind ?hkind ?hnd ?_ ?q1 ?q2 ?q3; (case ho => k_is); (case hcd => k_is); (case hroom => first | (simp only [recursionLimit]; (first | exact q46 (by assumption) | omega)) | omega | assumption); (case hbind => exact BindsTo.of_eq rfl); (case hkind => exact rfl); (case hnd => decide +kernel); (case q1 => rfl); (case q2 => rfl); (case q3 => rfl))
  case hn =>
    exact two_mem ⟨hx, hbx, G.notFr hx (fun _ _ e => by cases e)⟩ ⟨hdx, hbd, hdf⟩
  intro g L' h₁ l tk0 cells hsub hsup hL F N Y B X T FR lt0
  k_cells Y
  try dsimp only
  simp only [List.cons_append, List.nil_append] at N
  have lx : LT.lt (α := Nat) x L' := lt0 _ (.head _)
  have ld : LT.lt (α := Nat) dx L' := lt0 _ (.tail _ (.head _))
  have hdL : dx ≠ L' := Nat.ne_of_lt ld
  have hgd : g.get? dx = none := (N (dx, _) (by fail "JMEM")).2.2
  (repeat' (first | ((with_reducible show wpAny _ _ (exec _ _) _ _ _); k_fold) | (with_reducible first | refine Jq0 ?_ | refine Jq1 ?_ | refine Jq2 ?_ | refine Jq3 ?_ | refine Jq4 ?_) | (k_unfold; (try dsimp only)) | (k_end; wrow_close) | walk1 | (dsimp only; walk1) | (leave1; walk_say "STEP leave1"; try dsimp only) | fail "no step"))
  rename Fr _ _ _ _ => Fc
  rename News _ _ _ _ => Nc
  unfold Hold
  refine oct_u16 (x := x) (dx := dx) (G.inside B FR Fc rfl rfl) (by simp only [depth_deeper]; (first | exact q47 (by assumption) | omega)) (by simp only [units_deeper]; (first | exact q48 (by assumption) | omega)) (.inside B ⟨(Nc (x, _) (by fail "JMEM")).1, _, _, _, _, _, _, (Nc (dx, _) (by fail "JMEM")).1⟩ hbx hbd hdf hlt hdL) hks (by (first | exact q49 (by assumption) | omega)) (by omega) (by (first | exact q50 (by assumption) (by assumption) | omega)) (fun r1 tr1 h1' tk1' hle1 hr1 ex1 O1 => ?_) fun e h' tk' hlt' fly => ?_
  case refine_2 =>
    dsimp only
    exact pass_oct (E := fun e s'' => E e s'') hL (oct_kept hsub Fc hx hdx (Nc (x, _) (by fail "JMEM")).1) B FR Fc ⟨_, (Nc (dx, _) (by fail "JMEM")).1⟩ hdL hdf rfl rfl fly fun h'' fl => exc e _ h'' _ (.inl ⟨hlt', rfl⟩) fl
  obtain ⟨k11, tk11, t1, k21, tk21, ta1, N1⟩ := news_oct (pre := [_, _]) (post := []) Nc ex1 O1 (by intro p hp; simp only [List.mem_cons, List.not_mem_nil, or_false] at hp; rcases hp with rfl | rfl <;> first | exact hIdx | exact Nat.ne_of_gt (by dsimp only; (first | exact q51 (by assumption) (by assumption) | exact q52 (by assumption) (by assumption) | omega))) (fun _ m => nomatch m)
  have F1 := fr_oct Fc ex1 hdL hgd
  clear Fc Nc
  simp only [List.cons_append, List.nil_append] at N1
  (repeat' (first | ((with_reducible show wpAny _ _ (exec _ _) _ _ _); k_fold) | (with_reducible first | refine Jq0 ?_ | refine Jq1 ?_ | refine Jq2 ?_ | refine Jq3 ?_ | refine Jq4 ?_) | (k_unfold; (try dsimp only)) | (k_end; wrow_close) | walk1 | (dsimp only; walk1) | (leave1; walk_say "STEP leave1"; try dsimp only) | fail "no step"))
  rename Fr _ _ _ _ => Fc
  rename News _ _ _ _ => Nc
  unfold Hold
  refine oct_u16 (x := x) (dx := dx) (G.inside B FR Fc rfl rfl) (by simp only [depth_deeper]; (first | exact q47 (by assumption) | omega)) (by simp only [units_deeper]; (first | exact q48 (by assumption) | omega)) (.inside B ⟨(Nc (x, _) (by fail "JMEM")).1, _, _, _, _, _, _, (Nc (dx, _) (by fail "JMEM")).1⟩ hbx hbd hdf hlt hdL) hks (by (first | exact q49 (by assumption) | omega)) (by (first | exact q53 (by assumption) (by assumption) | omega)) (by (first | exact q54 (by assumption) (by assumption) | omega)) (fun r2 tr2 h2' tk2' hle2 hr2 ex2 O2 => ?_) fun e h' tk' hlt' fly => ?_
  case refine_2 =>
    dsimp only
    exact pass_oct (E := fun e s'' => E e s'') hL (oct_kept hsub Fc hx hdx (Nc (x, _) (by fail "JMEM")).1) B FR Fc ⟨_, (Nc (dx, _) (by fail "JMEM")).1⟩ hdL hdf rfl rfl fly fun h'' fl => exc e _ h'' _ (.inr (.inl ⟨hle1, by (first | exact q73 (by assumption) (by assumption) | omega), rfl⟩)) fl
  obtain ⟨k12, tk12, t2, k22, tk22, ta2, N2⟩ := news_oct (pre := [_, _]) (post := []) Nc ex2 O2 (by intro p hp; simp only [List.mem_cons, List.not_mem_nil, or_false] at hp; rcases hp with rfl | rfl <;> first | exact hIdx | exact Nat.ne_of_gt (by dsimp only; (first | exact q51 (by assumption) (by assumption) | exact q52 (by assumption) (by assumption) | omega))) (fun _ m => nomatch m)
  have F2 := fr_oct Fc ex2 hdL hgd
  clear Fc Nc
  simp only [List.cons_append, List.nil_append] at N2
  (repeat' (first | ((with_reducible show wpAny _ _ (exec _ _) _ _ _); k_fold) | (with_reducible first | refine Jq0 ?_ | refine Jq1 ?_ | refine Jq2 ?_ | refine Jq3 ?_ | refine Jq4 ?_) | (k_unfold; (try dsimp only)) | (k_end; wrow_close) | walk1 | (dsimp only; walk1) | (leave1; walk_say "STEP leave1"; try dsimp only) | fail "no step"))
  · rename Fr _ _ _ _ => Fc
    rename News _ _ _ _ => Nc
    unfold Hold
    refine raise_own G.K G.hand ?_
    (repeat' (first | ((with_reducible show wpAny _ _ (exec _ _) _ _ _); k_fold) | (with_reducible first | refine Jq0 ?_ | refine Jq1 ?_ | refine Jq2 ?_ | refine Jq3 ?_ | refine Jq4 ?_) | (k_unfold; (try dsimp only)) | (k_end; wrow_close) | walk1 | (dsimp only; walk1) | (leave1; walk_say "STEP leave1"; try dsimp only) | fail "no step"))
    exact raise_call G (by (first | exact q55 (by assumption) | omega)) (by (first | exact q56 (by assumption) | omega)) hL (oct_kept hsub Fc hx hdx (Nc (x, _) (by fail "JMEM")).1) B FR Fc (fun b hb => List.mem_singleton.mp hb ▸ ⟨_, (Nc (dx, _) (by fail "JMEM")).1⟩) rfl rfl fun e h' tk fly => exc e _ h' tk (.inr (.inr (.inl ⟨by (first | exact q57 (by assumption) | omega), by subst hr1 hr2; assumption, rfl⟩))) fly
  unfold Hold
  refine comp_start (by with_unfolding_all rfl) (by rfl) (by decide) ?_
  (repeat' (first | ((with_reducible show wpAny _ _ (exec _ _) _ _ _); k_fold) | (with_reducible first | refine Jq0 ?_ | refine Jq1 ?_ | refine Jq2 ?_ | refine Jq3 ?_ | refine Jq4 ?_) | (k_unfold; (try dsimp only)) | (k_end; wrow_close) | walk1 | (dsimp only; walk1) | (leave1; walk_say "STEP leave1"; try dsimp only) | fail "no step"))
  rename Fr _ _ _ _ => Fc
  rename News _ _ _ _ => Nc
  rename IsRange _ _ _ _ _ _ _ _ => Rc
  have hr20 : 0 ≤ r2 ∧ r2 ≤ 65535 := by rw [show r2 = w2 ks (a + 2) from hr2]; exact w2_bd hks _
  refine range_block (base := base) (outer := l) (hc := s.heap) (S₀ := [dx]) (Hz := RowBad ks a)
    (RowJ arr ks a L' x dx r1 tr1)
    (by decide) (by rfl) (by rfl) (by simp only [Around.deeper, B.stack]; rfl) rfl rfl (base_L B Fc) FR G.hand Rc (small_one (by decide) (by decide) (by (first | exact q58 (by assumption) (by assumption) | omega)) (by (first | exact q59 (by assumption) (by assumption) | omega))) (n := r2.toNat) (by rw [rangeSize_nat, Int.sub_zero]) (by rw [PySem.sizeLine_eq]; (first | exact q60 (by assumption) (by assumption) | omega)) Fc Nc (live_of (oct_kept hsub Fc hx hdx (Nc (x, _) (by fail "JMEM")).1) ⟨_, (Nc (dx, _) (by fail "JMEM")).1⟩) ?_ ?_ ?_ ?_
  · refine ⟨_, _, _, _, _, _, _, _, [], _, rfl, by (first | exact q61 | omega), by assumption, by assumption, ⟨rfl, fun j p h => by simp [rowPairs] at h⟩, by (first | exact q62 (by assumption) | omega), fun _ m => nomatch m⟩
  · intro i tv I oI C oC D m₂ ys news h tk hi hy z0_ hoC hm₂ F N off ne
    refine via fun G_ hG_ => ?_
    obtain ⟨o1, o2, k1, tk1, t, k2, tk2, ta, fro, z, rfl, hz, d1, d2, P, hle, hfr⟩ := z0_
    refine hG_ ?_
    clear hG_ G_
    clear Fc Nc Rc
    refine wpAny_tests_nil ?_
    rw [if_pos rfl]
    (repeat' (first | ((with_reducible show wpAny _ _ (exec _ _) _ _ _); k_fold) | (with_reducible first | refine Jq0 ?_ | refine Jq1 ?_ | refine Jq2 ?_ | refine Jq3 ?_ | refine Jq4 ?_) | (k_unfold; (try dsimp only)) | (k_end; wrow_close) | walk1 | (dsimp only; walk1) | (leave1; walk_say "STEP leave1"; try dsimp only) | fail "no step"))
    rename Fr _ _ _ _ => Fc
    rename News _ _ _ _ => Nc
    unfold Hold
    refine oct_u16 (x := x) (dx := dx) (G.inside B FR Fc rfl rfl) (by simp only [depth_deeper]; (first | exact q47 (by assumption) | omega)) (by simp only [units_deeper]; (first | exact q48 (by assumption) | omega)) (.inside B ⟨(Nc (x, _) (by fail "JMEM")).1, _, _, _, _, _, _, (Nc (dx, _) (by fail "JMEM")).1⟩ hbx hbd hdf hlt hdL) hks (by (first | exact q49 (by assumption) | omega)) (by (first | exact q63 (by assumption) (by assumption) (by assumption) (by assumption) (by assumption) (by assumption) | omega)) (by (first | exact q64 (by assumption) (by assumption) (by assumption) | omega)) (fun r3 tr3 h3' tk3' hle3 hr3 ex3 O3 => ?_) fun e h' tk' hlt' fly => ?_
    case refine_2 =>
      rw [fra_in B] at fly
      have exK : Ext [dx] s.heap h := oct_kept hsub Fc hx hdx (Nc (x, _) (by fail "JMEM")).1
      refine ⟨⟨_, _, rfl⟩, e, z, [dx], rfl, .inr (.inr (.inr ⟨by (first | exact q68 (by assumption) (by assumption) | omega), by rw [show w2 ks a = r1 from hr1.symm, show w2 ks (a + 2) = r2 from hr2.symm]; (first | exact q69 (by assumption) (by assumption) (by assumption) | omega), i, by rw [show w2 ks (a + 2) = r2 from hr2.symm]; (first | exact q70 (by assumption) (by assumption) (by assumption) | omega), by omega, by (first | exact q71 (by assumption) (by assumption) (by assumption) | omega), hz⟩)), fly, ?_, ?_, exK, fun _ hb _ _ => hb, live_of exK ⟨_, (Nc (dx, _) (by fail "JMEM")).1⟩⟩
      · intro q
        exact (Off3.mem off (dx, _) (by fail "JMEM")).2.1 (List.mem_singleton.mp q).symm
      · intro b hb q
        rw [List.mem_singleton.mp q, ← fra_in B] at hb
        exact off_in B hdf hdL rfl hb
    refine via fun G_ hG_ => ?_
    obtain ⟨k13, tk13, t3, k23, tk23, ta3, N3⟩ := news_oct (pre := [_, _, _, _, _]) (post := fro) Nc ex3 O3 (by
      have o3 := (Off3.mem off (dx, _) (by fail "JMEM"))
      intro p hp; simp only [List.mem_cons, List.not_mem_nil, or_false] at hp; rcases hp with rfl | rfl | rfl | rfl | rfl
      · exact Ne.symm o3.1
      · exact Ne.symm o3.2.1
      · exact Ne.symm o3.2.2
      · exact Nat.ne_of_gt (by dsimp only; (first | exact q51 (by assumption) (by assumption) | omega))
      · exact Nat.ne_of_gt (by dsimp only; (first | exact q52 (by assumption) (by assumption) | omega))) (fun p hp => (hfr p hp).1)
    refine hG_ ?_
    clear hG_ G_
    have F3 := fr_oct Fc ex3 hdL hgd
    clear Fc Nc
    simp only [List.cons_append, List.nil_append] at N3
    (repeat' (first | ((with_reducible show wpAny _ _ (exec _ _) _ _ _); k_fold) | (with_reducible first | refine Jq0 ?_ | refine Jq1 ?_ | refine Jq2 ?_ | refine Jq3 ?_ | refine Jq4 ?_) | (k_unfold; (try dsimp only)) | (k_end; wrow_close) | walk1 | (dsimp only; walk1) | (leave1; walk_say "STEP leave1"; try dsimp only) | fail "no step"))
    (try k_unfold)
    rename Fr _ _ _ _ => Fe
    rename News _ _ _ _ => Ne
    rename (_ ∧ _ ∧ _ ∧ _ ∧ _ ∧ _ ∧ _ ∧ AllLt _ _) => lts
    have Ne2 := news_move Ne
    refine ⟨_, _, _, rfl, Fe, Ne2, ⟨off.1, off.2.1, off.2.2.1, off.2.2.2.1, ⟨Nat.ne_of_gt lts.1, Nat.ne_of_gt lts.2.1, Nat.ne_of_gt lts.2.2.1⟩, off.2.2.2.2⟩, ⟨o1, o2, _, _, _, _, _, _, _, _, rfl, ?_, d1, d2, ?_, by (first | exact q67 (by assumption) (by assumption) | omega), ?_⟩⟩
    · (first | exact q65 (by assumption) | omega)
    · rw [rowPairs_succ, show w2 ks a = r1 from hr1.symm, show w2 ks (a + 4 + 2 * i) = r3 from by rw [hr3, hz]; rfl, show r1 + (i : Int) = r1 + (0 + (i : Int)) from by (first | exact q66 | omega)]
      exact P.snoc
    · intro p hp
      rcases List.mem_cons.mp hp with rfl | hp
      · exact ⟨Nat.ne_of_gt lts.2.2.2.2.2.2.1, Nat.ne_of_gt lts.2.2.2.2.2.1⟩
      · exact hfr p hp
  · intro e z h' tk hz fly FRh
    exact leave_out (E := fun e s'' => E e s'') hL B rfl FRh fly fun h'' fl => exc e z h'' _ hz fl
  · intro D h tk ys news' F N o1 hlen z0_
    refine via fun G_ hG_ => ?_
    obtain ⟨o1, o2, k1, tk1, t, k2, tk2, ta, fro, z, rfl, hz, d1, d2, P, hle, hfr⟩ := z0_
    refine hG_ ?_
    clear hG_ G_
    have nX := N (x, _) (by fail "JMEM")
    have nD := N (dx, _) (by fail "JMEM")
    have nL := N (D, _) (.head _)
    refine ret D h tk _ ⟨?_, ?_, ?_⟩ (oct_kept hsub F hx hdx nX.1) ⟨fresh_of hsub nL.2.2 ?_ ?_, ys, _, fro, nL.1, P, fun p hp => ?_⟩
    · rw [show w2 ks (a + 2) = r2 from hr2.symm]; (first | exact q72 (by assumption) (by assumption) (by assumption) (by assumption) (by assumption) | omega)
    · rw [show w2 ks a = r1 from hr1.symm, show w2 ks (a + 2) = r2 from hr2.symm]; (first | exact q69 (by assumption) (by assumption) (by assumption) | omega)
    · rw [show w2 ks (a + 2) = r2 from hr2.symm]
    · intro q; have := nL.1; rw [q, nX.1] at this; cases this
    · intro q; have := nL.1; rw [q, nD.1] at this; injection this with this; injection this with h1; injection h1 with h1; exact absurd h1 (by decide)
    · have np := N p (.tail _ (.tail _ (.tail _ (.tail _ (.tail _ hp)))))
      exact ⟨np.1, fresh_of hsub np.2.2 (hfr p hp).2 (hfr p hp).1⟩
end
section
/-- how a turn of a loop may end: what it made stands in the ledger -/
noncomputable def FreePost (h₀ : Heap) (L : Addr) (J : (Str → Option Value) → List (Addr × Obj) → Prop) (I : Addr) (oI : Obj) (s₁ : Shared) (Q : Flow → Shared → Prop) (f : Flow) (s₂ : Shared) : Prop :=
  match f with
  | .ret v => Q (.ret v) s₂
  | .brk => Q .next s₂
  | _ => ∃ h' tk m' nx, s₂ = { s₁ with heap := h', toks := tk } ∧ Fr h₀ L h' m' ∧ News h₀ L h' ((I, oI) :: nx) ∧ (∀ p ∈ nx, p.1 ≠ I) ∧ J m' nx
section
variable {prog : Program} {w : World} {A : Around} {E : Value → Shared → Prop} {s : Shared} {env : Env} {h₀ : Heap} {x : Str} {body : List Stmt} {Q : Flow → Shared → Prop} {m₀ : Str → Option Value} {news : List (Addr × Obj)}
theorem free_loop {I : Addr} {fp : List Addr} {n : Nat} {P : Nat → Value → Prop} {St : Nat → Heap → Prop} (J : Nat → (Str → Option Value) → List (Addr × Obj) → Prop)
    (W : Walks prog w A I fp [I] n P St) (hLf : env.locals ∉ fp) (hI : h₀.get? I = none) (hIo : ∀ i h, St i h → ∃ o, h.get? I = some o) (hfp : ∀ b ∈ fp, b = I ∨ (∃ o, h₀.get? b = some o) ∨ ∃ o, ∀ i m nx, J i m nx → (b, o) ∈ nx)
    (hst : St 0 s.heap) (F : Fr h₀ env.locals s.heap m₀) (N : News h₀ env.locals s.heap news) (hoff : ∀ p ∈ news, p.1 ≠ I) (hj : J 0 m₀ news)
    (turn : ∀ i v m₁ nx h tk oI, i < n → P i v → (∀ p ∈ nx, p.1 ≠ I) → J i m₁ nx → Fr h₀ env.locals h (fun y => if y = x then some v else m₁ y) → News h₀ env.locals h ((I, oI) :: nx) →
      wpAny (model prog w) A (execs body env) (FreePost h₀ env.locals (J (i + 1)) I oI { s with heap := h, toks := tk } Q) E { s with heap := h, toks := tk })
    (done : ∀ m₁ nx h tk, J n m₁ nx → Fr h₀ env.locals h m₁ → News h₀ env.locals h nx → Q .next { s with heap := h, toks := tk }) :
    LoopAtV prog w A h₀ env x body Q E (.ref I) s := by
  refine ⟨I, fp, [I], n, P, St, m₀, news, J, rfl, W, hLf, fun b hb => by rw [List.mem_singleton.mp hb]; exact hI, fun p hp q => hoff p hp (List.mem_singleton.mp q), hst, F, N, hj, ?_, ?_⟩
  · intro i v m₁ news₁ s₁ own z0_ hin hP hJ hof hown hget hall st F₁ N₁
    refine via fun G_ hG_ => ?_
    obtain ⟨hh', tk', rfl⟩ := z0_
    refine hG_ ?_
    clear hG_ G_
    obtain ⟨oI, hoI⟩ := hIo _ _ st
    have hIown : (I, oI) ∈ own := hall I (W.sub I (List.mem_singleton.mpr rfl)) hI oI hoI
    have hne : ∀ p ∈ news₁, p.1 ≠ I := fun p hp q => hof p hp (List.mem_singleton.mpr q)
    refine wpAny_mono (turn i v m₁ news₁ hh' tk' oI hin hP hne hJ F₁ (fun p hp => N₁ p ?_)) (fun f s₂ z => ?_) fun _ _ e => e
    · rcases List.mem_cons.mp hp with rfl | hp
      · exact List.mem_append_left _ hIown
      · exact List.mem_append_right _ hp
    have fin : (∃ h' tk m' nx, s₂ = { s with heap := h', toks := tk } ∧ Fr h₀ env.locals h' m' ∧ News h₀ env.locals h' ((I, oI) :: nx) ∧ (∀ p ∈ nx, p.1 ≠ I) ∧ J (i + 1) m' nx) →
        LoopStepU h₀ env.locals [I] own (J (i + 1)) { s with heap := hh', toks := tk' } .next s₂ := by
      intro z0_
      refine via fun G_ hG_ => ?_
      obtain ⟨h', tk, m', nx, rfl, F', N', off', J'⟩ := z0_
      refine hG_ ?_
      clear hG_ G_
      refine ⟨rfl, h', tk, m', nx, rfl, F', fun p hp => ?_, fun p hp q => off' p hp (List.mem_singleton.mp q), J'⟩
      rcases List.mem_append.mp hp with q | q
      · have hp0 := N₁ p (List.mem_append_left _ q)
        rcases hfp p.1 (hown p q) with e | ⟨o, e⟩ | ⟨o, e⟩
        · have : p.2 = oI := by
            have a := hget p q
            rw [e, hoI] at a
            exact (Option.some.inj a).symm
          have z := N' (I, oI) (.head _)
          rw [show p = (I, oI) from Prod.ext e this]
          exact z
        · rw [hp0.2.2] at e; cases e
        · have a := hget p q
          have b := (N₁ _ (List.mem_append_right _ (e _ _ _ hJ))).1
          rw [a] at b
          have e' : o = p.2 := (Option.some.inj b).symm
          have := N' (p.1, o) (.tail _ (e _ _ _ J'))
          rw [e'] at this
          exact this
      · exact N' p (.tail _ q)
    cases f with
    | ret v => exact .ret z
    | brk => exact .brk z
    | next => exact .next (fin z)
    | cont => exact .cont (fin z)
  · rintro h' tk m' news' F' N' _ hJ
    exact done m' news' h' tk hJ F' N'
theorem range_free {r : Addr} {a₀ b₀ : Int} {t₀ u₀ v₀ : Tok} {n : Nat} (ys : List Str) (J : Nat → (Str → Option Value) → List (Addr × Obj) → Prop)
    (hh : A.handled = none) (hr : IsRange s.heap r a₀ b₀ 1 t₀ u₀ v₀) (hsmall : Builtin.Range.small a₀ b₀ 1 = true) (hn : Builtin.Range.rangeSize a₀ b₀ 1 = (n : Int)) (F : Fr h₀ env.locals s.heap m₀) (N : News h₀ env.locals s.heap news) (hj : J 0 m₀ news)
    (turn : ∀ (i : Nat) t m₁ nx h tk I oI, i < n → (∀ p ∈ nx, p.1 ≠ I) → (∀ p ∈ news, LT.lt (α := Nat) p.1 I) → J i m₁ nx → Keeps x ys m₀ m₁ → Fr h₀ env.locals h (fun y => if y = x then some (.int (a₀ + i) t) else m₁ y) → News h₀ env.locals h ((I, oI) :: nx) →
      wpAny (model prog w) A (execs body env) (FreePost h₀ env.locals (fun m nx => J (i + 1) m nx ∧ Keeps x ys m₀ m) I oI { s with heap := h, toks := tk } Q) E { s with heap := h, toks := tk })
    (done : ∀ m₁ nx h tk, J n m₁ nx → Keeps x ys m₀ m₁ → Fr h₀ env.locals h m₁ → News h₀ env.locals h nx → Q .next { s with heap := h, toks := tk }) :
    wpAny (model prog w) A (pyIter (.ref r)) (fun it s₂ => LoopAtV prog w A h₀ env x body Q E it s₂) E s := by
  refine wpAny_pyIter_range hr hsmall ?_
  have W : Walks prog w A s.heap.objs.size [s.heap.objs.size] [s.heap.objs.size] n (fun i v => i < n ∧ ∃ t, v = .int (a₀ + i * 1) t)
      (fun i h => IsRangeIter h s.heap.objs.size (a₀ + (i : Nat) * 1) ((n : Int) - (i : Nat)) 1) := (Walks.range hh _ a₀ 1 n).bound
  refine free_loop (fun i m nx => J i m nx ∧ Keeps x ys m₀ m) W ?_ (next_is_new F) (fun i h st => ⟨_, st⟩) (fun b hb => .inl (List.mem_singleton.mp hb)) (by show IsRangeIter _ _ _ _ _; rw [hn]; simpa using Heap.get?_push_size _ rfl) (F.push _)
    (fun p hp => ⟨Heap.get?_push_of_some _ (N p hp).1, (N p hp).2⟩) ?_ ⟨hj, Keeps.refl _ _ _⟩ ?_ ?_
  · intro hm
    exact absurd F.ns.lt ((List.mem_singleton.mp hm) ▸ Nat.lt_irrefl _)
  · intro p hp hI
    exact absurd (Heap.lt_size (N p hp).1) (hI ▸ Nat.lt_irrefl _)
  · intro i v m₁ nx h tk oI hi z0_ hne hJ F' N'
    refine via fun G_ hG_ => ?_
    obtain ⟨_, u, rfl⟩ := z0_
    refine hG_ ?_
    clear hG_ G_
    rw [Int.mul_one] at F'
    exact turn i u m₁ nx h tk _ oI hi hne (fun p hp => Heap.lt_size (N p hp).1) hJ.1 hJ.2 F' N'
  · intro m₁ nx h tk hJ F' N'
    exact done m₁ nx h tk hJ.1 hJ.2 F' N'
end
theorem Keeps.map4 {x a b c d : Str} {m₀ m₁ : Str → Option Value} {v : Value} (h : Keeps x [a, b, c, d] m₀ m₁) :
    (fun z => if z = x then some v else m₁ z) = fun z => if z = x then some v else if z = a then m₁ a else if z = b then m₁ b else if z = c then m₁ c else if z = d then m₁ d else m₀ z := by
  funext z
  by_cases h0 : z = x
  · subst h0; simp
  by_cases h1 : z = a
  · subst h1; simp [h0]
  by_cases h2 : z = b
  · subst h2; simp [h0, h1]
  by_cases h3 : z = c
  · subst h3; simp [h0, h1, h2]
  by_cases h4 : z = d
  · subst h4; simp [h0, h1, h2, h3]
  simp only [h0, h1, h2, h3, h4, if_false]
  exact h z h0 (by simp [h1, h2, h3, h4])
theorem Keeps.done4 {x a b c d : Str} {m₀ m₁ : Str → Option Value} (h : Keeps x [a, b, c, d] m₀ m₁) :
    m₁ = fun z => if z = x then m₁ x else if z = a then m₁ a else if z = b then m₁ b else if z = c then m₁ c else if z = d then m₁ d else m₀ z := by
  funext z
  by_cases h0 : z = x
  · subst h0; simp
  by_cases h1 : z = a
  · subst h1; simp [h0]
  by_cases h2 : z = b
  · subst h2; simp [h0, h1]
  by_cases h3 : z = c
  · subst h3; simp [h0, h1, h2]
  by_cases h4 : z = d
  · subst h4; simp [h0, h1, h2, h3]
  simp only [h0, h1, h2, h3, h4, if_false]
  exact h z h0 (by simp [h1, h2, h3, h4])
end
section
open PyProof.Rows.LCg


noncomputable def sFirst (ks : List Int) (a : Int) (i : Nat) : Int := w2 ks (a + 2 + 6 * i)
noncomputable def sLast (ks : List Int) (a : Int) (i : Nat) : Int := w2 ks (a + 2 + 6 * i + 2)
noncomputable def sNum (ks : List Int) (a : Int) (i : Nat) : Int := w2 ks (a + 2 + 6 * i + 4)
noncomputable def sLeast (ks : List Int) (a : Int) : Nat → Int
  | 0 => 0
  | i + 1 => sLast ks a i + 1
noncomputable def onePairs (f n : Int) (k : Nat) : List (Int × Int) := (List.range k).map fun (j : Nat) => (f + j, n)
noncomputable def oneSpan (f l n : Int) : List (Int × Int) := onePairs f n (l + 1 - f).toNat
theorem onePairs_succ (f n : Int) (k : Nat) : onePairs f n (k + 1) = onePairs f n k ++ [(f + k, n)] := by
  unfold onePairs
  rw [List.range_succ, List.map_append]
  rfl
theorem PairsIn.mono {ys : List Value} {ps : List (Int × Int)} {fro fro' : List (Addr × Obj)} (P : PairsIn ys ps fro) (k : ∀ p ∈ fro, p ∈ fro') : PairsIn ys ps fro' :=
  ⟨P.1, fun j p h => let ⟨T, t1, t2, a, b⟩ := P.2 j p h; ⟨T, t1, t2, a, k _ b⟩⟩
theorem PairsIn.append {ys zs : List Value} {ps qs : List (Int × Int)} {fro : List (Addr × Obj)} (P : PairsIn ys ps fro) (R : PairsIn zs qs fro) : PairsIn (ys ++ zs) (ps ++ qs) fro := by
  refine ⟨by simp [P.1, R.1], fun j p h => ?_⟩
  by_cases hj : j < ps.length
  · rw [List.getElem?_append_left hj] at h
    refine via fun G_ hG_ => ?_
    obtain ⟨T, t1, t2, a, b⟩ := P.2 j p h
    refine hG_ ?_
    clear hG_ G_
    exact ⟨T, t1, t2, by rw [List.getElem?_append_left (by have := P.1; (first | exact q76 (by assumption) (by assumption) | omega))]; exact a, b⟩
  · rw [List.getElem?_append_right (by (first | exact q74 (by assumption) | omega))] at h
    refine via fun G_ hG_ => ?_
    obtain ⟨T, t1, t2, a, b⟩ := R.2 _ p h
    refine hG_ ?_
    clear hG_ G_
    exact ⟨T, t1, t2, by rw [List.getElem?_append_right (by have := P.1; (first | exact q77 (by assumption) (by assumption) | omega)), P.1]; exact a, b⟩
noncomputable def spanPairs (ks : List Int) (a : Int) : Nat → List (Int × Int)
  | 0 => []
  | i + 1 => spanPairs ks a i ++ oneSpan (sFirst ks a i) (sLast ks a i) (sNum ks a i)
noncomputable def SpanOk (ks : List Int) (a : Int) (i : Nat) : Prop := a + 2 + 6 * i ≤ ks.length ∧ ∀ j < i, sLeast ks a j ≤ sFirst ks a j ∧ sFirst ks a j ≤ sLast ks a j
noncomputable def SpanBad (ks : List Int) (a z : Int) : Prop :=
  (ks.length < a + 2 ∧ z = a) ∨ (a + 2 ≤ ks.length ∧ ∃ i : Nat, (i : Int) < w2 ks a ∧ SpanOk ks a i ∧
    ((ks.length < a + 2 + 6 * i + 2 ∧ z = a + 2 + 6 * i) ∨ (a + 2 + 6 * i + 2 ≤ ks.length ∧ sFirst ks a i < sLeast ks a i ∧ z = a + 2 + 6 * i) ∨
      (a + 2 + 6 * i + 2 ≤ ks.length ∧ sLeast ks a i ≤ sFirst ks a i ∧ ks.length < a + 2 + 6 * i + 4 ∧ z = a + 2 + 6 * i + 2) ∨
      (a + 2 + 6 * i + 4 ≤ ks.length ∧ sLeast ks a i ≤ sFirst ks a i ∧ sLast ks a i < sFirst ks a i ∧ z = a + 2 + 6 * i + 2) ∨
      (a + 2 + 6 * i + 4 ≤ ks.length ∧ sLeast ks a i ≤ sFirst ks a i ∧ sFirst ks a i ≤ sLast ks a i ∧ ks.length < a + 2 + 6 * i + 6 ∧ z = a + 2 + 6 * i + 4)))
noncomputable def SpanGood (ks : List Int) (a : Int) (ps : List (Int × Int)) : Prop := a + 2 ≤ ks.length ∧ SpanOk ks a (w2 ks a).toNat ∧ ps = spanPairs ks a (w2 ks a).toNat
theorem spanPairs_len (ks : List Int) (a : Int) : ∀ i, SpanOk ks a i → ((spanPairs ks a i).length : Int) ≤ sLeast ks a i
  | 0, _ => by simp [spanPairs, sLeast]
  | i + 1, h => by
    have ih := spanPairs_len ks a i ⟨by have := h.1; (first | exact q78 (by assumption) | omega), fun j hj => h.2 j (by (first | exact q79 (by assumption) | omega))⟩
    have := h.2 i (by (first | exact q80 | omega))
    simp only [spanPairs, List.length_append, oneSpan, onePairs, List.length_map, List.length_range, sLeast] at *
    (first | exact q81 (by assumption) (by assumption) | omega)
theorem news_move9 {g h : Heap} {L : Addr} {t i c d e c1 c2 x dx : Addr × Obj} {fro : List (Addr × Obj)} (N : News g L h (t :: i :: c :: d :: e :: c1 :: c2 :: x :: dx :: fro)) : News g L h (i :: c :: d :: e :: c1 :: c2 :: x :: dx :: t :: fro) := fun p hp => N p (by
  simp only [List.mem_cons] at hp ⊢
  rcases hp with hp | hp | hp | hp | hp | hp | hp | hp | hp | hp <;> simp only [hp, true_or, or_true])
theorem le_of3 {x y x' y' : Int} (h : ¬ y < x) (hx : x = x') (hy : y = y') : x' ≤ y' := hx ▸ hy ▸ Int.not_lt.mp h
theorem lt_of3 {x y x' y' : Int} (h : y < x) (hx : x = x') (hy : y = y') : y' < x' := hx ▸ hy ▸ h
theorem toN_le {x y : Int} (h : 0 ≤ x) (h' : y ≤ 65535) : (y + 1 - x).toNat ≤ 65536 := by lia
theorem toN_ne {x y : Int} (h : ¬ y < x) : (y + 1 - x).toNat ≠ 0 := by lia
@[reducible] noncomputable def OnesJ (I lF L' x dx : Addr) (oI ol od : Obj) (r2 r4 : Int) (tr4 : Tok) (fro : List (Addr × Obj)) (j : Nat) (zs : List Value) (news : List (Addr × Obj)) : Prop :=
  ∃ o5 fro2, news = (I, oI) :: (lF, ol) :: (L' + 1, o5) :: (x, instObj 165 dx) :: (dx, od) :: fro2 ∧
        o5.data = .cell (some (.int r4 tr4)) ∧ PairsIn zs (onePairs r2 r4 j) fro2 ∧ (∀ p ∈ fro, p ∈ fro2) ∧ ∀ p ∈ fro2, LT.lt (α := Nat) lF p.1 ∧ @Ne Nat p.1 I
@[reducible] noncomputable def SpanJ (arr : Array UInt8) (ks : List Int) (a : Int) (lF L' x dx : Addr) (i : Nat) (m : Str → Option Value) (nx : List (Addr × Obj)) : Prop :=
  ∃ o1 ov ys n k1 tk1 t k2 tk2 ta fro z le tl, nx = (lF, listOf (List.toArray ys) n) :: (L' + 1, o1) :: (x, instObj 165 dx) :: (dx, dictOf [⟨k1, .str (Str.ofString "data") tk1, .bytes arr t⟩, ⟨k2, .str (Str.ofString "at") tk2, .int z ta⟩] 2) :: fro ∧ z = a + 2 + 6 * i ∧
      o1.data = .cell ov ∧ PairsIn ys (spanPairs ks a i) fro ∧ SpanOk ks a i ∧ m (Str.ofString "least") = some (.int le tl) ∧ le = sLeast ks a i ∧ ∀ p ∈ fro, LT.lt (α := Nat) lF p.1
theorem span_spec {w : World} {mean : ExcName → Option Value} {mg mb : Str → Option Value} {base : Heap} {A : Around} {E : Value → Shared → Prop} {s : Shared} {arr : Array UInt8} {a : Int} {ks : List Int} {x dx : Addr} {Q : Value → Shared → Prop} (G : Gnd w mean mg mb base A s.heap) (hroom : A.depth ≤ 560) (hun : A.units ≤ 6600)
    (O : OctIn base A x dx arr a s.heap)
    (hks : KBw.bInts arr = ks) (hsz : ks.length ≤ 1000) (ha : 0 ≤ a) (ha2 : a ≤ 1000)
    (exc : ∀ e z h' tk, SpanBad ks a z → Fly (frAddrs A) [dx] s.heap e z h' → E (.ref e) { s with heap := h', toks := tk })
    (ret : ∀ D h' tk ps, SpanGood ks a ps → Ext [dx] s.heap h' → PairsAt s.heap h' D ps → Q (.ref D) { s with heap := h', toks := tk }) :
    wpAny (model PySem.Challenge.rw_pb0173_01.row.prog w) A (call (.ref 229) [.ref x]) Q E s := by
  refine via fun G_ hG_ => ?_
  obtain ⟨⟨hx, k1, tk1, t, k2, tk2, ta, hdx⟩, hbx, hbd, hdf, hlt⟩ := O
  refine hG_ ?_
  clear hG_ G_
  refine wpAny_call ?_
  k_dflt (refine' enterC (news := [(x, instObj 165 dx), (dx, dictOf [⟨k1, .str (Str.ofString "data") tk1, .bytes arr t⟩, ⟨k2, .str (Str.ofString "at") tk2, .int a ta⟩] 2)]) G ?hn ?ho ?hcd ?hroom ?hbind ?hkind ?hnd ?_ ?q1 ?q2 ?q3; (case ho => k_is); (case hcd => k_is); (case hroom => first | (simp only [recursionLimit]; (first | exact q46 (by assumption) | omega)) | omega | assumption); (case hbind => exact BindsTo.of_eq rfl); (case hkind => exact rfl); (case hnd => decide +kernel); (case q1 => rfl); (case q2 => rfl); (case q3 => rfl))
  case hn =>
    exact two_mem ⟨hx, hbx, G.notFr hx (fun _ _ e => by cases e)⟩ ⟨hdx, hbd, hdf⟩
  intro g L' h₁ l tk0 cells hsub hsup hL F N Y B X T FR lt0
  k_cells Y
  try dsimp only
  simp only [List.cons_append, List.nil_append] at N
  have lx : LT.lt (α := Nat) x L' := lt0 _ (.head _)
  have ld : LT.lt (α := Nat) dx L' := lt0 _ (.tail _ (.head _))
  have hdL : dx ≠ L' := Nat.ne_of_lt ld
  have hgd : g.get? dx = none := (N (dx, _) (by fail "JMEM")).2.2
  (repeat' (first | (with_reducible first | refine Jq0 ?_ | refine Jq1 ?_ | refine Jq2 ?_ | refine Jq3 ?_ | refine Jq4 ?_) | (k_unfold; (try dsimp only)) | (k_end; wrow_close) | walk1 | (dsimp only; walk1) | (leave1; walk_say "STEP leave1"; try dsimp only) | fail "no step"))
  unfold Hold
  rename Fr _ _ _ _ => Fa
  rename_i lF hA lf hB hC N0
  refine For_invVF Fa (by rfl) (by rfl) ?_
  (repeat' (first | ((with_reducible show wpAny _ _ (exec _ _) _ _ _); k_fold) | (with_reducible first | refine Jq0 ?_ | refine Jq1 ?_ | refine Jq2 ?_ | refine Jq3 ?_ | refine Jq4 ?_) | (k_unfold; (try dsimp only)) | (k_end; wrow_close) | walk1 | (dsimp only; walk1) | (leave1; walk_say "STEP leave1"; try dsimp only) | fail "no step"))
  rename Fr _ _ _ _ => Fc
  rename News _ _ _ _ => Nc
  unfold Hold
  refine oct_u16 (x := x) (dx := dx) (G.inside B FR Fc rfl rfl) (by simp only [depth_deeper]; (first | exact q47 (by assumption) | omega)) (by simp only [units_deeper]; (first | exact q48 (by assumption) | omega)) (.inside B ⟨(Nc (x, _) (by fail "JMEM")).1, _, _, _, _, _, _, (Nc (dx, _) (by fail "JMEM")).1⟩ hbx hbd hdf hlt hdL) hks (by (first | exact q49 (by assumption) | omega)) (by omega) (by (first | exact q50 (by assumption) (by assumption) | omega)) (fun r1 tr1 h1' tk1' hle1 hr1 ex1 O1 => ?_) fun e h' tk' hlt' fly => ?_
  case refine_2 =>
    dsimp only
    exact pass_oct (E := fun e s'' => E e s'') hL (oct_kept hsub Fc hx hdx (Nc (x, _) (by fail "JMEM")).1) B FR Fc ⟨_, (Nc (dx, _) (by fail "JMEM")).1⟩ hdL hdf rfl rfl fly fun h'' fl => exc e _ h'' _ (.inl ⟨hlt', rfl⟩) fl
  obtain ⟨k11, tk11, t1, k21, tk21, ta1, N1⟩ := news_oct (pre := [_, _]) (post := []) Nc ex1 O1 (by intro p hp; simp only [List.mem_cons, List.not_mem_nil, or_false] at hp; rcases hp with rfl | rfl <;> first | exact hIdx | exact Nat.ne_of_gt (by dsimp only; (first | exact q82 (by assumption) | exact q52 (by assumption) (by assumption) | omega))) (fun _ m => nomatch m)
  have F1 := fr_oct Fc ex1 hdL hgd
  clear Fc Nc
  simp only [List.cons_append, List.nil_append] at N1
  (repeat' (first | ((with_reducible show wpAny _ _ (exec _ _) _ _ _); k_fold) | (with_reducible first | refine Jq0 ?_ | refine Jq1 ?_ | refine Jq2 ?_ | refine Jq3 ?_ | refine Jq4 ?_) | (k_unfold; (try dsimp only)) | (k_end; wrow_close) | walk1 | (dsimp only; walk1) | (leave1; walk_say "STEP leave1"; try dsimp only) | fail "no step"))
  rename Fr _ _ _ _ => Fc
  rename News _ _ _ _ => Nc
  rename IsRange _ _ _ _ _ _ _ _ => Rc
  have hr10 : 0 ≤ r1 ∧ r1 ≤ 65535 := by rw [show r1 = w2 ks a from hr1]; exact w2_bd hks _
  refine range_free [Str.ofString "spot", Str.ofString "first", Str.ofString "last", Str.ofString "least"]
    (SpanJ arr ks a lF L' x dx)
    G.hand Rc (small_one (by decide) (by decide) (by (first | exact q58 (by assumption) (by assumption) | omega)) (by (first | exact q59 (by assumption) (by assumption) | omega))) (n := r1.toNat) (by simpa only [Int.sub_zero] using rangeSize_nat 0 r1) Fc Nc ?_ ?_ ?_
  · exact ⟨_, _, _, _, _, _, _, _, _, _, [], _, _, _, rfl, by (first | exact q83 | omega), by assumption, ⟨rfl, fun j p h => by simp [spanPairs] at h⟩, ⟨by (first | exact q84 (by assumption) | omega), fun j hj => absurd hj (Nat.not_lt_zero _)⟩, rfl, rfl, fun _ m => nomatch m⟩
  · intro i tv m₁ _ h tk I oI hi hIn hIlt z0_ hkp F N
    refine via fun G_ hG_ => ?_
    obtain ⟨o1, ov, ys, n, k1, tk1, t, k2, tk2, ta, fro, z, le, tl, rfl, hz, d1, P, ok, hle', hle2, hfr⟩ := z0_
    refine hG_ ?_
    clear hG_ G_
    clear Fc Nc Rc
    rw [hkp.map4, hle'] at F
    (repeat' (first | ((with_reducible show wpAny _ _ (exec _ _) _ _ _); k_fold) | (with_reducible first | refine Jq0 ?_ | refine Jq1 ?_ | refine Jq2 ?_ | refine Jq3 ?_ | refine Jq4 ?_) | (k_unfold; (try dsimp only)) | (k_end; wrow_close) | walk1 | (dsimp only; walk1) | (leave1; walk_say "STEP leave1"; try dsimp only) | fail "no step"))
    have hIdx : I ≠ dx := fun q => hIn (dx, _) (by fail "JMEM") q.symm
    have lI1 : LT.lt (α := Nat) lF I := hIlt (lF, _) (.head _)
    have lI2 : LT.lt (α := Nat) (L' + 1) I := hIlt (L' + 1, _) (.tail _ (.head _))
    have hIx : I ≠ x := fun q => hIn (x, _) (by fail "JMEM") q.symm
    have ok1 := ok.1
    have hf1 : ∀ p ∈ fro, p.1 ≠ L' + 1 := fun p hp => Nat.ne_of_gt (Nat.lt_trans lf.1 (hfr p hp))
    have hf2 : ∀ p ∈ fro, p.1 ≠ lF := fun p hp => Nat.ne_of_gt (hfr p hp)
    have hf3 : ∀ p ∈ fro, p.1 ≠ dx := fun p hp => Nat.ne_of_gt (Nat.lt_trans lf.2.2 (hfr p hp))
    have okc : SpanOk ks a i → (i : Int) < w2 ks a := fun _ => by rw [show w2 ks a = r1 from hr1.symm]; (first | exact q85 (by assumption) (by assumption) (by assumption) (by assumption) (by assumption) (by assumption) (by assumption) | omega)
    rename Fr _ _ _ _ => Fc
    rename News _ _ _ _ => Nc
    unfold Hold
    refine oct_u16 (x := x) (dx := dx) (G.inside B FR Fc rfl rfl) (by simp only [depth_deeper]; (first | exact q47 (by assumption) | omega)) (by simp only [units_deeper]; (first | exact q48 (by assumption) | omega)) (.inside B ⟨(Nc (x, _) (by fail "JMEM")).1, _, _, _, _, _, _, (Nc (dx, _) (by fail "JMEM")).1⟩ hbx hbd hdf hlt hdL) hks (by (first | exact q49 (by assumption) | omega)) (by (first | exact q86 (by assumption) (by assumption) (by assumption) (by assumption) (by assumption) | omega)) (by (first | exact q87 (by assumption) (by assumption) (by assumption) | omega)) (fun r2 tr2 h2' tk2' hle2 hr2 ex2 O2 => ?_) fun e h' tk' hlt' fly => ?_
    case refine_2 =>
      dsimp only
      exact pass_oct (E := fun e s'' => E e s'') hL (oct_kept hsub Fc hx hdx (Nc (x, _) (by fail "JMEM")).1) B FR Fc ⟨_, (Nc (dx, _) (by fail "JMEM")).1⟩ hdL hdf rfl rfl fly fun h'' fl => exc e _ h'' _ (.inr ⟨hle1, i, okc ok, ok, .inl ⟨by (first | exact q120 (by assumption) (by assumption) (by assumption) | omega), by omega⟩⟩) fl
    obtain ⟨k12, tk12, t2, k22, tk22, ta2, N2⟩ := news_oct (pre := [_, _, _]) (post := fro) Nc ex2 O2 (by intro p hp; simp only [List.mem_cons, List.not_mem_nil, or_false] at hp; rcases hp with rfl | rfl | rfl <;> first | exact hIdx | exact Nat.ne_of_gt (by dsimp only; (first | exact q82 (by assumption) | exact q52 (by assumption) (by assumption) | omega))) hf3
    have F2 := fr_oct Fc ex2 hdL hgd
    clear Fc Nc
    simp only [List.cons_append, List.nil_append] at N2
    have hf : r2 = sFirst ks a i := by rw [hr2, hz]; rfl
    (repeat' (first | ((with_reducible show wpAny _ _ (exec _ _) _ _ _); k_fold) | (with_reducible first | refine Jq0 ?_ | refine Jq1 ?_ | refine Jq2 ?_ | refine Jq3 ?_ | refine Jq4 ?_) | (k_unfold; (try dsimp only)) | (k_end; wrow_close) | walk1 | (dsimp only; walk1) | (leave1; walk_say "STEP leave1"; try dsimp only) | fail "no step"))
    · rename (_ < le) => hlow
      rename Fr _ _ _ _ => Fc
      rename News _ _ _ _ => Nc
      unfold Hold
      refine raise_own G.K G.hand ?_
      (repeat' (first | ((with_reducible show wpAny _ _ (exec _ _) _ _ _); k_fold) | (with_reducible first | refine Jq0 ?_ | refine Jq1 ?_ | refine Jq2 ?_ | refine Jq3 ?_ | refine Jq4 ?_) | (k_unfold; (try dsimp only)) | (k_end; wrow_close) | walk1 | (dsimp only; walk1) | (leave1; walk_say "STEP leave1"; try dsimp only) | fail "no step"))
      exact raise_call G (by (first | exact q55 (by assumption) | omega)) (by (first | exact q56 (by assumption) | omega)) hL (oct_kept hsub Fc hx hdx (Nc (x, _) (by fail "JMEM")).1) B FR Fc (fun b hb => List.mem_singleton.mp hb ▸ ⟨_, (Nc (dx, _) (by fail "JMEM")).1⟩) rfl rfl fun e h' tk fly => exc e _ h' tk (.inr ⟨hle1, i, okc ok, ok, .inr (.inl ⟨by (first | exact q88 (by assumption) (by assumption) | omega), by (first | exact q89 (by assumption) (by assumption) (by assumption) (by assumption) | omega), by omega⟩)⟩) fly
    rename (¬ _ < le) => hlow
    rename Fr _ _ _ _ => Fc
    rename News _ _ _ _ => Nc
    unfold Hold
    refine oct_u16 (x := x) (dx := dx) (G.inside B FR Fc rfl rfl) (by simp only [depth_deeper]; (first | exact q47 (by assumption) | omega)) (by simp only [units_deeper]; (first | exact q48 (by assumption) | omega)) (.inside B ⟨(Nc (x, _) (by fail "JMEM")).1, _, _, _, _, _, _, (Nc (dx, _) (by fail "JMEM")).1⟩ hbx hbd hdf hlt hdL) hks (by (first | exact q49 (by assumption) | omega)) (by (first | exact q90 (by assumption) (by assumption) (by assumption) (by assumption) (by assumption) | omega)) (by (first | exact q91 (by assumption) (by assumption) | omega)) (fun r3 tr3 h3' tk3' hle3 hr3 ex3 O3 => ?_) fun e h' tk' hlt' fly => ?_
    case refine_2 =>
      dsimp only
      exact pass_oct (E := fun e s'' => E e s'') hL (oct_kept hsub Fc hx hdx (Nc (x, _) (by fail "JMEM")).1) B FR Fc ⟨_, (Nc (dx, _) (by fail "JMEM")).1⟩ hdL hdf rfl rfl fly fun h'' fl => exc e _ h'' _ (.inr ⟨hle1, i, okc ok, ok, .inr (.inr (.inl ⟨by (first | exact q118 (by assumption) (by assumption) (by assumption) | omega), by (first | exact le_of3 hlow (by assumption) hf | (first | exact q93 (by assumption) (by assumption) (by assumption) (by assumption) | omega)), by (first | exact q119 (by assumption) (by assumption) (by assumption) | omega), by (first | exact q95 (by assumption) | omega)⟩))⟩) fl
    obtain ⟨k13, tk13, t3, k23, tk23, ta3, N3⟩ := news_oct (pre := [_, _, _]) (post := fro) Nc ex3 O3 (by intro p hp; simp only [List.mem_cons, List.not_mem_nil, or_false] at hp; rcases hp with rfl | rfl | rfl <;> first | exact hIdx | exact Nat.ne_of_gt (by dsimp only; (first | exact q82 (by assumption) | exact q52 (by assumption) (by assumption) | omega))) hf3
    have F3 := fr_oct Fc ex3 hdL hgd
    clear Fc Nc
    simp only [List.cons_append, List.nil_append] at N3
    have hl : r3 = sLast ks a i := by rw [hr3, hz]; rfl
    (repeat' (first | ((with_reducible show wpAny _ _ (exec _ _) _ _ _); k_fold) | (with_reducible first | refine Jq0 ?_ | refine Jq1 ?_ | refine Jq2 ?_ | refine Jq3 ?_ | refine Jq4 ?_) | (k_unfold; (try dsimp only)) | (k_end; wrow_close) | walk1 | (dsimp only; walk1) | (leave1; walk_say "STEP leave1"; try dsimp only) | fail "no step"))
    · rename (_ < r2) => hdown
      rename Fr _ _ _ _ => Fc
      rename News _ _ _ _ => Nc
      unfold Hold
      refine raise_own G.K G.hand ?_
      (repeat' (first | ((with_reducible show wpAny _ _ (exec _ _) _ _ _); k_fold) | (with_reducible first | refine Jq0 ?_ | refine Jq1 ?_ | refine Jq2 ?_ | refine Jq3 ?_ | refine Jq4 ?_) | (k_unfold; (try dsimp only)) | (k_end; wrow_close) | walk1 | (dsimp only; walk1) | (leave1; walk_say "STEP leave1"; try dsimp only) | fail "no step"))
      exact raise_call G (by (first | exact q55 (by assumption) | omega)) (by (first | exact q56 (by assumption) | omega)) hL (oct_kept hsub Fc hx hdx (Nc (x, _) (by fail "JMEM")).1) B FR Fc (fun b hb => List.mem_singleton.mp hb ▸ ⟨_, (Nc (dx, _) (by fail "JMEM")).1⟩) rfl rfl fun e h' tk fly => exc e _ h' tk (.inr ⟨hle1, i, okc ok, ok, .inr (.inr (.inr (.inl ⟨by (first | exact q92 (by assumption) (by assumption) | omega), by (first | exact le_of3 hlow (by assumption) hf | (first | exact q93 (by assumption) (by assumption) (by assumption) (by assumption) | omega)), by (first | exact lt_of3 hdown hf hl | omega), by (first | exact q95 (by assumption) | omega)⟩)))⟩) fly
    rename (¬ _ < r2) => hdown
    rename Fr _ _ _ _ => Fc
    rename News _ _ _ _ => Nc
    unfold Hold
    refine oct_u16 (x := x) (dx := dx) (G.inside B FR Fc rfl rfl) (by simp only [depth_deeper]; (first | exact q47 (by assumption) | omega)) (by simp only [units_deeper]; (first | exact q48 (by assumption) | omega)) (.inside B ⟨(Nc (x, _) (by fail "JMEM")).1, _, _, _, _, _, _, (Nc (dx, _) (by fail "JMEM")).1⟩ hbx hbd hdf hlt hdL) hks (by (first | exact q49 (by assumption) | omega)) (by (first | exact q96 (by assumption) (by assumption) (by assumption) (by assumption) (by assumption) | omega)) (by (first | exact q97 (by assumption) (by assumption) | omega)) (fun r4 tr4 h4' tk4' hle4 hr4 ex4 O4 => ?_) fun e h' tk' hlt' fly => ?_
    case refine_2 =>
      dsimp only
      exact pass_oct (E := fun e s'' => E e s'') hL (oct_kept hsub Fc hx hdx (Nc (x, _) (by fail "JMEM")).1) B FR Fc ⟨_, (Nc (dx, _) (by fail "JMEM")).1⟩ hdL hdf rfl rfl fly fun h'' fl => exc e _ h'' _ (.inr ⟨hle1, i, okc ok, ok, .inr (.inr (.inr (.inr ⟨by (first | exact q114 (by assumption) (by assumption) (by assumption) | omega), by (first | exact le_of3 hlow (by assumption) hf | (first | exact q93 (by assumption) (by assumption) (by assumption) (by assumption) | omega)), by (first | exact le_of3 hdown hf hl | omega), by (first | exact q116 (by assumption) (by assumption) (by assumption) | omega), by (first | exact q117 (by assumption) | omega)⟩)))⟩) fl
    obtain ⟨k14, tk14, t4, k24, tk24, ta4, N4⟩ := news_oct (pre := [_, _, _]) (post := fro) Nc ex4 O4 (by intro p hp; simp only [List.mem_cons, List.not_mem_nil, or_false] at hp; rcases hp with rfl | rfl | rfl <;> first | exact hIdx | exact Nat.ne_of_gt (by dsimp only; (first | exact q82 (by assumption) | exact q52 (by assumption) (by assumption) | omega))) hf3
    have F4 := fr_oct Fc ex4 hdL hgd
    clear Fc Nc
    simp only [List.cons_append, List.nil_append] at N4
    have hn : r4 = sNum ks a i := by rw [hr4, hz, show a + 2 + 6 * (i : Int) + 2 + 2 = a + 2 + 6 * (i : Int) + 4 from by (first | exact q98 | omega)]; rfl
    (repeat' (first | ((with_reducible show wpAny _ _ (exec _ _) _ _ _); k_fold) | (with_reducible first | refine Jq0 ?_ | refine Jq1 ?_ | refine Jq2 ?_ | refine Jq3 ?_ | refine Jq4 ?_) | (k_unfold; (try dsimp only)) | (k_end; wrow_close) | walk1 | (dsimp only; walk1) | (leave1; walk_say "STEP leave1"; try dsimp only) | fail "no step"))
    unfold Hold
    refine comp_start (by with_unfolding_all rfl) (by rfl) (by decide) ?_
    (repeat' (first | ((with_reducible show wpAny _ _ (exec _ _) _ _ _); k_fold) | (with_reducible first | refine Jq0 ?_ | refine Jq1 ?_ | refine Jq2 ?_ | refine Jq3 ?_ | refine Jq4 ?_) | (k_unfold; (try dsimp only)) | (k_end; wrow_close) | walk1 | (dsimp only; walk1) | (leave1; walk_say "STEP leave1"; try dsimp only) | fail "no step"))
    rename Fr _ _ _ _ => Fc
    rename News _ _ _ _ => Nc
    rename IsRange _ _ _ _ _ _ _ _ => Rc
    have hr2b : 0 ≤ r2 ∧ r2 ≤ 65535 := by rw [hf]; exact w2_bd hks _
    have hr3b : 0 ≤ r3 ∧ r3 ≤ 65535 := by rw [hl]; exact w2_bd hks _
    refine range_block (base := base) (outer := l) (hc := s.heap) (S₀ := [dx]) (Hz := fun _ => False)
      (OnesJ I lF L' x dx oI (listOf ys.toArray n) (dictOf [⟨k14, .str (Str.ofString "data") tk14, .bytes arr t4⟩, ⟨k24, .str (Str.ofString "at") tk24, .int (z + 2 + 2 + 2) ta4⟩] 2) r2 r4 tr4 fro)
      (by decide) (by rfl) (by rfl) (by simp only [Around.deeper, B.stack]; rfl) rfl rfl (base_L B Fc) FR G.hand Rc (small_one (by (first | exact q99 (by assumption) (by assumption) (by assumption) | omega)) (by (first | exact q100 (by assumption) (by assumption) (by assumption) | omega)) (by (first | exact q101 (by assumption) (by assumption) (by assumption) | omega)) (by (first | exact q102 (by assumption) (by assumption) (by assumption) | omega))) (n := (r3 + 1 - r2).toNat) (rangeSize_nat _ _) (by rw [PySem.sizeLine_eq]; (first | exact q103 (by assumption) (by assumption) (by assumption) (by assumption) (by assumption) (by assumption) (by assumption) | omega)) Fc Nc
      (live_of (oct_kept hsub Fc hx hdx (Nc (x, _) (by fail "JMEM")).1) ⟨_, (Nc (dx, _) (by fail "JMEM")).1⟩) ?_ ?_ ?_ ?_
    · exact ⟨_, fro, rfl, by assumption, ⟨rfl, fun j p h => by simp [onePairs] at h⟩, fun _ hp => hp, fun p hp => ⟨hfr p hp, fun q => hIn p (by exact .tail _ (.tail _ (.tail _ (.tail _ hp)))) q⟩⟩
    · intro j jv I2 oI2 C oC D m₂ zs _ h tk hj hy z0_ hoC hm₂ F N off ne
      refine via fun G_ hG_ => ?_
      obtain ⟨o5, fro2, rfl, d5, P2, sub2, lt2⟩ := z0_
      refine hG_ ?_
      clear hG_ G_
      clear Fc Nc Rc
      refine wpAny_tests_nil ?_
      show wpAny _ _ (eval _ _) _ _ _
      (repeat' (first | ((with_reducible show wpAny _ _ (exec _ _) _ _ _); k_fold) | (with_reducible first | refine Jq0 ?_ | refine Jq1 ?_ | refine Jq2 ?_ | refine Jq3 ?_ | refine Jq4 ?_) | (k_unfold; (try dsimp only)) | (k_end; wrow_close) | walk1 | (dsimp only; walk1) | (leave1; walk_say "STEP leave1"; try dsimp only) | fail "no step"))
      (try k_unfold)
      rename Fr _ _ _ _ => Fe
      rename News _ _ _ _ => Ne
      rename (_ ∧ _ ∧ _ ∧ _ ∧ _ ∧ _ ∧ _ ∧ _ ∧ AllLt _ _) => lts
      have Ne2 := news_move9 Ne
      refine ⟨_, _, _, rfl, Fe, Ne2, ⟨off.1, off.2.1, off.2.2.1, off.2.2.2.1, off.2.2.2.2.1, ⟨Nat.ne_of_gt lts.1, Nat.ne_of_gt lts.2.1, Nat.ne_of_gt lts.2.2.1⟩, off.2.2.2.2.2⟩, ⟨o5, _, rfl, d5, ?_, ?_, ?_⟩⟩
      · rw [onePairs_succ]
        exact (P2.mono fun p hp => hp).snoc
      · intro p hp
        exact .tail _ (sub2 p hp)
      · intro p hp
        rcases List.mem_cons.mp hp with rfl | hp
        · exact ⟨lts.2.2.2.2.1, Nat.ne_of_gt lts.2.2.2.1⟩
        · exact lt2 p hp
    · intro e z h' tk hz
      exact hz.elim
    · intro D h tk zs news' F N o1 hlen z0_
      refine via fun G_ hG_ => ?_
      obtain ⟨o5, fro2, rfl, d5, P2, sub2, lt2⟩ := z0_
      refine hG_ ?_
      clear hG_ G_
      clear Fc Nc Rc
      (repeat' (first | ((with_reducible show wpAny _ _ (exec _ _) _ _ _); k_fold) | (with_reducible first | refine Jq0 ?_ | refine Jq1 ?_ | refine Jq2 ?_ | refine Jq3 ?_ | refine Jq4 ?_) | (k_unfold; (try dsimp only)) | (k_end; wrow_close) | walk1 | (dsimp only; walk1) | (leave1; walk_say "STEP leave1"; try dsimp only) | fail "no step"))
      have hys : ys.length ≤ 65536 := by
        have q1 := spanPairs_len ks a i ok
        have q2 := P.1
        have q3 : sLeast ks a i ≤ 65536 := by
          cases i with
          | zero => simp [sLeast]
          | succ i => have := w2_bd hks (a + 2 + 6 * (i : Int) + 2); simp only [sLeast, sLast]; (first | exact q104 (by assumption) | omega)
        (first | exact q105 (by assumption) (by assumption) (by assumption) | omega)
      have hzs : zs.length = (r3 + 1 - r2).toNat := by rw [P2.1]; simp [onePairs]
      have hzb : zs.length ≤ 65536 := by rw [hzs]; exact toN_le hr2b.1 hr3b.2
      have off1 : lF ≠ D := o1.2.1
      refine kl_extend (its := ys.toArray) (its2 := zs.toArray) (n := n) (n2 := zs.length) (D := lF) (b := D) (l := ys ++ zs) F N (.head _) rfl ?_ (.tail (Ne.symm off1) (.tail (Nat.ne_of_gt lI1) (.head ?_))) ?_ ?_ ?_ ?_
      · show zs.length ≠ 0; (first | (rw [hzs]; exact toN_ne hdown) | omega)
      · intro p hp
        rcases List.mem_cons.mp hp with rfl | hp
        · exact Nat.ne_of_lt lf.1
        rcases List.mem_cons.mp hp with rfl | hp
        · exact Nat.ne_of_lt lf.2.1
        rcases List.mem_cons.mp hp with rfl | hp
        · exact Nat.ne_of_lt lf.2.2
        · exact Nat.ne_of_gt (lt2 p hp).1
      · intro q
        simp only [Bool.and_eq_true, Builtin.List.listTooLong, List.size_toArray, decide_eq_true_eq] at q
        have := q.2
        rw [PySem.sizeLine_eq] at this
        (first | exact absurd this (Nat.not_lt.mpr (Nat.le_trans (Nat.add_le_add hys hzb) (by decide))) | omega)
      · rw [PySem.sizeLine_eq]; show ys.length ≤ _; (first | exact q108 (by assumption) | omega)
      · rw [PySem.sizeLine_eq]; simp only [List.size_toArray]; (first | exact Nat.le_trans (Nat.add_le_add hys hzb) (by decide) | omega)
      clear F N
      intro h' F N
      (repeat' (first | ((with_reducible show wpAny _ _ (exec _ _) _ _ _); k_fold) | (with_reducible first | refine Jq0 ?_ | refine Jq1 ?_ | refine Jq2 ?_ | refine Jq3 ?_ | refine Jq4 ?_) | (k_unfold; (try dsimp only)) | (k_end; wrow_close) | walk1 | (dsimp only; walk1) | (leave1; walk_say "STEP leave1"; try dsimp only) | fail "no step"))
      rename Fr _ _ _ _ => Fe
      rename News _ _ _ _ => Ne
      refine ⟨_, _, _, _, rfl, Fe, (fun p hp => Ne p (.tail _ hp)), ?_, ⟨o5, _, ys ++ zs, _, _, _, _, _, _, _, fro2, _, _, _, rfl, ?_, d5, ?_, ⟨?_, ?_⟩, rfl, ?_, fun p hp => (lt2 p hp).1⟩, ?_⟩
      · intro p hp
        rcases List.mem_cons.mp hp with rfl | hp
        · exact Nat.ne_of_lt lI1
        rcases List.mem_cons.mp hp with rfl | hp
        · exact Nat.ne_of_lt lI2
        rcases List.mem_cons.mp hp with rfl | hp
        · exact hIx.symm
        rcases List.mem_cons.mp hp with rfl | hp
        · exact hIdx.symm
        · exact (lt2 p hp).2
      · (first | exact q110 (by assumption) | omega)
      · show PairsIn _ (spanPairs ks a i ++ oneSpan (sFirst ks a i) (sLast ks a i) (sNum ks a i)) _
        rw [← hf, ← hl, ← hn]
        exact (P.mono sub2).append P2
      · (first | exact q111 (by assumption) (by assumption) | omega)
      · intro j hj
        rcases Nat.lt_succ_iff_lt_or_eq.mp hj with q | rfl
        · exact ok.2 j q
        · exact ⟨by (first | exact le_of3 hlow (by assumption) hf | omega), by (first | exact le_of3 hdown hf hl | omega)⟩
      · show _ = sLast ks a i + 1
        rw [hl]
      · ((intro zK hK1 hK2; simp only [List.mem_cons, List.not_mem_nil, or_false, not_or] at hK2; simp only [hK1, hK2, if_false, ↓reduceIte]))
  · intro m₁ _ h tk z0_ hkp F N
    refine via fun G_ hG_ => ?_
    obtain ⟨o1, ov, ys, n, k1, tk1, t, k2, tk2, ta, fro, z, le, tl, rfl, hz, d1, P, ok, hle', hle2, hfr⟩ := z0_
    refine hG_ ?_
    clear hG_ G_
    clear Fc Nc Rc
    rw [hkp.done4, hle'] at F
    (repeat' (first | ((with_reducible show wpAny _ _ (exec _ _) _ _ _); k_fold) | (with_reducible first | refine Jq0 ?_ | refine Jq1 ?_ | refine Jq2 ?_ | refine Jq3 ?_ | refine Jq4 ?_) | (k_unfold; (try dsimp only)) | (k_end; wrow_close) | walk1 | (dsimp only; walk1) | (leave1; walk_say "STEP leave1"; try dsimp only) | fail "no step"))
    try dsimp only
    have nX := N (x, _) (by fail "JMEM")
    have nD := N (dx, _) (by fail "JMEM")
    have nL := N (lF, _) (.head _)
    refine ret lF _ _ _ ⟨hle1, ?_, rfl⟩ (oct_kept hsub F hx hdx nX.1) ⟨fresh_of hsub nL.2.2 (Nat.ne_of_gt lf.2.1) (Nat.ne_of_gt lf.2.2), ys, _, fro, nL.1, ?_, fun p hp => ?_⟩
    · rw [show w2 ks a = r1 from hr1.symm]; exact ok
    · rw [show w2 ks a = r1 from hr1.symm]; exact P
    · have np := N p (.tail _ (.tail _ (.tail _ (.tail _ hp))))
      exact ⟨np.1, fresh_of hsub np.2.2 (Nat.ne_of_gt (Nat.lt_trans lf.2.1 (hfr p hp))) (Nat.ne_of_gt (Nat.lt_trans lf.2.2 (hfr p hp)))⟩
end
section
/-- the end of a turn over pairs -/
noncomputable def PairPost (h₀ : Heap) (L : Addr) (J : (Str → Option Value) → List (Addr × Obj) → Prop) (I : Addr) (oI : Obj) (s₁ : Shared) (f : Flow) (s₂ : Shared) : Prop :=
  f = .next ∧ ∃ h' tk m' nx, s₂ = { s₁ with heap := h', toks := tk } ∧ Fr h₀ L h' m' ∧ News h₀ L h' ((I, oI) :: nx) ∧ (∀ p ∈ nx, p.1 ≠ I) ∧ J m' nx
section
variable {prog : Program} {w : World} {A : Around} {E : Value → Shared → Prop} {s : Shared} {env : Env} {h₀ : Heap} {x y : Str} {body : List Stmt} {Q : Flow → Shared → Prop} {m₀ : Str → Option Value} {news : List (Addr × Obj)}
theorem pairs_loop {px py tp : Pos} {kk : Nat} {ax : Addr} {vs : List Value} {n : Nat} (Rel : Nat → Value → Value → Prop) (ys : List Str) (J : Nat → (Str → Option Value) → List (Addr × Obj) → Prop)
    (hh : A.handled = none) (hl : h₀.IsList ax vs.toArray) (hlen : vs.length = n) (hit : ∀ (i : Nat), i < n → ∃ T a b, vs[i]? = some (Value.ref T) ∧ h₀.IsTuple T #[a, b] ∧ Rel i a b)
    (hx : env.kindOf x = some .local) (hy : env.kindOf y = some .local) (hp : (env.scope.kind == .class || (env.scope.kind == .module && env.locals != env.globals)) = false)
    (F : Fr h₀ env.locals s.heap m₀) (N : News h₀ env.locals s.heap news) (hj : J 0 m₀ news)
    (turn : ∀ i a b m₁ nx (s₁ : Shared) I oI, i < n → Rel i a b → (∀ q ∈ nx, q.1 ≠ I) → (∀ q ∈ news, LT.lt (α := Nat) q.1 I) → J i m₁ nx → Keeps x (y :: ys) m₀ m₁ → Fr h₀ env.locals s₁.heap (fun z => if z = y then some b else if z = x then some a else m₁ z) → News h₀ env.locals s₁.heap ((I, oI) :: nx) →
      wpAny (model prog w) A (execs body env) (PairPost h₀ env.locals (fun m nx => J (i + 1) m nx ∧ Keeps x (y :: ys) m₀ m) I oI s₁) E s₁)
    (done : ∀ m₁ nx h tk, J n m₁ nx → Keeps x (y :: ys) m₀ m₁ → Fr h₀ env.locals h m₁ → News h₀ env.locals h nx → Q .next { s with heap := h, toks := tk }) :
    wpAny (model prog w) A (pyIter (.ref ax)) (fun it s₂ => LoopAtT prog w A h₀ env (.Tuple [.Name x px, .Name y py] kk tp) body Q E it s₂) E s := by
  have hls : s.heap.IsList ax vs.toArray := hl.at fun o e => F.keep ax o e
  refine via fun G_ hG_ => ?_
  obtain ⟨ol, hol, _⟩ := id hl
  refine hG_ ?_
  clear hG_ G_
  have hlt : ax < h₀.objs.size := Heap.lt_size hol
  have hne : ax ≠ s.heap.objs.size := Nat.ne_of_lt (Nat.lt_trans (Nat.lt_of_lt_of_le hlt F.above) F.ns.lt)
  refine wpAny_pyIter_list hls ?_
  have W := Walks.list (prog := prog) (w := w) hh s.heap.objs.size ax hne vs.toArray
  have hsz : vs.toArray.size = n := by simp [hlen]
  rw [hsz] at W
  have hI₀ : h₀.get? s.heap.objs.size = none := next_is_new F
  have hLI : env.locals ≠ s.heap.objs.size := Nat.ne_of_lt F.ns.lt
  refine ⟨s.heap.objs.size, _, [s.heap.objs.size], n, _, _, m₀, news, (fun i m nx => J i m nx ∧ Keeps x (y :: ys) m₀ m), rfl, W, ?_, fun b hb => by rw [List.mem_singleton.mp hb]; exact hI₀, fun p hp q => absurd (Heap.lt_size (N p hp).1) ((List.mem_singleton.mp q) ▸ Nat.lt_irrefl _),
    ⟨⟨_, Heap.get?_push_size _ rfl, rfl, rfl⟩, hls.at fun o e => Heap.get?_push_of_some _ e⟩, F.push _, fun p hp => ⟨Heap.get?_push_of_some _ (N p hp).1, (N p hp).2⟩, fun i s' v Q' st hQ' => letGo_listiter st.1 hQ', ⟨hj, Keeps.refl _ _ _⟩, ?_, ?_⟩
  · intro hm
    rcases List.mem_cons.mp hm with e | hm
    · exact hLI e
    · exact absurd (Nat.lt_of_lt_of_le hlt F.above) ((List.mem_singleton.mp hm) ▸ Nat.lt_irrefl _)
  · intro i v m₁ news₁ s₁ own hi hPv hJ hoff hsub hget hall st F₁ N₁
    refine via fun G_ hG_ => ?_
    obtain ⟨T, va, vb, hT, hTu, hRel⟩ := hit i hi
    refine hG_ ?_
    clear hG_ G_
    have hv : v = .ref T := by
      have : vs[i]? = some v := by simpa using hPv
      rw [hT] at this
      exact (Option.some.inj this).symm
    subst hv
    refine via fun G_ hG_ => ?_
    obtain ⟨oI, hoI, _⟩ := st.1
    refine hG_ ?_
    clear hG_ G_
    have hIown : (s.heap.objs.size, oI) ∈ own := hall _ (W.sub _ (List.mem_singleton.mpr rfl)) hI₀ oI hoI
    have hTs : s₁.heap.IsTuple T #[va, vb] := by
      refine via fun G_ hG_ => ?_
      obtain ⟨o, ho, r⟩ := hTu
      refine hG_ ?_
      clear hG_ G_
      exact ⟨o, F₁.keep _ _ ho, r⟩
    have hne₁ : ∀ p ∈ news₁, p.1 ≠ s.heap.objs.size := fun p hp q => hoff p hp (List.mem_singleton.mpr q)
    refine kcp_assign hh hTs hx hy hp F₁.ns fun h₂ tk₂ hn₂ kp => ?_
    have hL₀ : h₀.get? env.locals = none := Heap.get?_none_of_le F₁.above
    have F₂ : Fr h₀ env.locals h₂ (fun z => if z = y then some vb else if z = x then some va else m₁ z) := ⟨hn₂, fun b o e => kp b o (fun q => by rw [q, hL₀] at e; cases e) (F₁.keep b o e), F₁.above⟩
    have N₂ : News h₀ env.locals h₂ (own ++ news₁) := fun p hp => ⟨kp _ _ (N₁ p hp).2.1 (N₁ p hp).1, (N₁ p hp).2⟩
    refine wpAny_mono (turn i va vb m₁ news₁ { s₁ with heap := h₂, toks := tk₂ } _ oI hi hRel hne₁ (fun p hp => Heap.lt_size (N p hp).1) hJ.1 hJ.2 F₂ (fun p hp => N₂ p ?_)) (fun f s₂ z => ?_) fun _ _ e => e
    · rcases List.mem_cons.mp hp with rfl | hp
      · exact List.mem_append_left _ hIown
      · exact List.mem_append_right _ hp
    refine via fun G_ hG_ => ?_
    obtain ⟨rfl, h', tk, m', nx, rfl, F', N', off', J'⟩ := z
    refine hG_ ?_
    clear hG_ G_
    refine ⟨rfl, h', tk, m', nx, rfl, F', fun p hp => ?_, fun p hp q => off' p hp (List.mem_singleton.mp q), J'⟩
    rcases List.mem_append.mp hp with q | q
    · rcases List.mem_cons.mp (hsub p q) with e | e
      · have : p.2 = oI := by
          have a := hget p q
          rw [e, hoI] at a
          exact (Option.some.inj a).symm
        rw [show p = (s.heap.objs.size, oI) from Prod.ext e this]
        exact N' _ (.head _)
      · have a := (N₁ p (List.mem_append_left _ q)).2.2
        rw [List.mem_singleton.mp e, hol] at a
        cases a
    · exact N' p (.tail _ q)
  · intro h' tk m' news' F' N' _ hJ
    exact done m' news' h' tk hJ.1 hJ.2 F' N'
end
end
section
open PyProof.Rows.LCg PyProof.V

/-- the pairs of a dict of ints, as data -/
noncomputable def intD (ps : List (Int × Int)) : List (PyData × PyData) := ps.map fun p => (PyData.int p.1, PyData.int p.2)
theorem intD_lookup_none {k : Int} : ∀ {ps : List (Int × Int)}, (∀ p ∈ ps, p.1 ≠ k) → Spec.lookup (.int k) (intD ps) = none
  | [], _ => rfl
  | p :: r, h => by
    show (if Spec.same (.int p.1) (.int k) then _ else _) = _
    rw [same_int, if_neg (by simpa using h p (.head _))]
    exact intD_lookup_none fun q hq => h q (.tail _ hq)
theorem intD_putD {k v : Int} {ps : List (Int × Int)} (h : ∀ p ∈ ps, p.1 ≠ k) : putD (.int k) (.int v) (intD ps) = intD (ps ++ [(k, v)]) := by
  have e : (intD ps).any (fun p => Spec.same p.1 (.int k)) = false := by
    rw [List.any_eq_false]
    intro q hq
    refine via fun G_ hG_ => ?_
    obtain ⟨p, hp, rfl⟩ := List.mem_map.mp hq
    refine hG_ ?_
    clear hG_ G_
    rw [same_int]
    simpa using h p hp
  unfold putD
  rw [e]
  simp [intD]
theorem putAll_ints (f : Int → Int) : ∀ (pre ns : List Int), (pre ++ ns).Nodup → ns.foldl (fun acc a => putD (.int a) (.int (f a)) acc) (intD (pre.map fun k => (k, f k))) = intD ((pre ++ ns).map fun k => (k, f k))
  | pre, [], _ => by simp
  | pre, n :: ns, h => by
    have h1 : ∀ p ∈ pre.map (fun k => (k, f k)), p.1 ≠ n := by
      intro p hp
      refine via fun G_ hG_ => ?_
      obtain ⟨k, hk, rfl⟩ := List.mem_map.mp hp
      refine hG_ ?_
      clear hG_ G_
      rintro rfl
      exact (List.nodup_append.mp h).2.2 _ hk _ (.head _) rfl
    have e : pre ++ n :: ns = (pre ++ [n]) ++ ns := by simp
    rw [List.foldl_cons, intD_putD h1, e]
    have := putAll_ints f (pre ++ [n]) ns (e ▸ h)
    rwa [List.map_append] at this
/-- the source of a dict comprehension over ints, and what its parts do -/
noncomputable def DcSrc (prog : Program) (w : World) (A : Around) (env : Env) (kx vx : Expr) (x : Str) (ifs : List Expr) (scope : Scope) (cl : List (Str × Addr)) (p : Int → Bool) (f : Int → Int) (Q : Value → Shared → Prop) (xv : Value) (s₁ : Shared) : Prop :=
  ∃ ax vs ns, xv = .ref ax ∧ A.handled = none ∧ s₁.heap.IsList ax (List.toArray vs) ∧ IntsAre vs ns ∧ ns.length ≤ sizeLine ∧ ns.Nodup ∧
      (∀ C k t s₃ m₃ E', k ∈ ns → s₃.heap.Ns C m₃ → m₃ x = some (.int k t) → (∀ b o, s₁.heap.get? b = some o → s₃.heap.get? b = some o) →
        wpAny (model prog w) A (testsOf ifs (compEnvC scope cl C env)) (fun ok s₄ => ok = p k ∧ PySem.Keeps s₃ s₄) E' s₃) ∧
      (∀ C k t s₃ m₃ E', k ∈ ns → p k = true → s₃.heap.Ns C m₃ → m₃ x = some (.int k t) → (∀ b o, s₁.heap.get? b = some o → s₃.heap.get? b = some o) →
        wpAny (model prog w) A (eval kx (compEnvC scope cl C env)) (fun key s₄ => (∃ t', key = .int k t') ∧ PySem.Keeps s₃ s₄) E' s₃) ∧
      (∀ C k t s₃ m₃ E', k ∈ ns → p k = true → s₃.heap.Ns C m₃ → m₃ x = some (.int k t) → (∀ b o, s₁.heap.get? b = some o → s₃.heap.get? b = some o) →
        wpAny (model prog w) A (eval vx (compEnvC scope cl C env)) (fun y s₄ => (∃ t', y = .int (f k) t') ∧ PySem.Keeps s₃ s₄) E' s₃) ∧
      (∀ D h' tk kvs, LE.le (α := Nat) s₁.heap.objs.size D → h'.DictOf (intKind prog w) D kvs → FlatPairs PyData.int kvs (intD ((ns.filter p).map fun k => (k, f k))) → (∀ b o, s₁.heap.get? b = some o → h'.get? b = some o) → Q (.ref D) { s₁ with heap := h', toks := tk })
section
variable {prog : Program} {w : World} {A : Around} {E : Value → Shared → Prop} {s : Shared} {env : Env}
theorem dict_block {kx vx iter : Expr} {x : Str} {px : Pos} {ifs : List Expr} {scope : Scope} {cl : List (Str × Addr)} {pos : Pos} {I : Addr} {fp : List Addr} {n : Nat} {P : Nat → Value → Prop} {St : Nat → Heap → Prop}
    (W : Walks prog w A I fp [I] n P St) (hsz : n ≤ sizeLine) (p : Value → Bool) (FK : Value → Int → Prop) (FV : Value → Value → Prop) {RR : Value → Addr → Result → Shared → Prop}
    (hcell : ∀ y ∈ scope.names, y.2 ≠ .cell) (hkind : scope.kind = .function) (hx : scope.names.lookup x = some .local) (hst : St 0 s.heap) (hfp : ∀ b ∈ fp, b < s.heap.objs.size)
    (q : QuietOnCD (intKind prog w) A env scope cl x ifs kx vx [I] P p FK FV s)
    (fin : ∀ C h' tk m' kvs (vs : List Value), s.heap.get? C = none → s.heap.objs.size ≠ C → h'.Ns C m' → h'.DictOf (intKind prog w) s.heap.objs.size kvs → vs.length = n → (∀ j v, vs[j]? = some v → P j v) → StoredAll FK FV (vs.filter p) kvs →
      (∀ b o, b ∉ [I] → s.heap.get? b = some o → h'.get? b = some o) → RR (.ref s.heap.objs.size) C (.ok .next) { s with heap := h', toks := tk }) :
    wpAny (model prog w) A newDict (fun acc s₃ => wpAny (model prog w) A (newFunctionEnv scope env.globals cl [] env.qual none .none (some env)) (fun cenv s₄ =>
      codeAny (model prog w) A (.compStart (.DictComp kx vx [⟨.Name x px, iter, ifs, 0⟩] scope pos) 0 (.ref I) acc { cenv with scope := relabel scope env }) (RR acc cenv.locals) s₄) E s₃) E s := by
  refine via fun G_ hG_ => ?_
  obtain ⟨hp, gg, dd, tt, os⟩ := s
  refine hG_ ?_
  clear hG_ G_
  dsimp only at hst hfp fin
  refine wpAny_newObj_type (wpAny_newFunctionEnv hcell (by intro y hy; cases hy) (fun h₁ hns₁ hsb₁ => ?_) hkind)
  dsimp only at hns₁ hsb₁ ⊢
  have hnew : (hp.push { cls := .type "dict", dict := none, data := .dict #[] }).DictOf (intKind prog w) hp.objs.size [] := Heap.DictOf.new hp
  generalize hD : hp.objs.size = D at hns₁ hsb₁ hnew fin ⊢
  generalize hH : hp.push { cls := .type "dict", dict := none, data := .dict #[] } = H at hns₁ hsb₁ hnew
  have hCs : H.objs.size = D + 1 := by rw [← hH, Heap.size_push, hD]
  generalize hC : H.objs.size = C at hns₁ hsb₁ hCs ⊢
  have hDC : D ≠ C := by rw [hCs]; exact Nat.ne_of_lt (Nat.lt_succ_self _)
  have lo : ∀ b, LT.lt (α := Nat) b D → b ≠ C ∧ b ≠ D := fun b e => ⟨Nat.ne_of_lt (by rw [hCs]; exact Nat.lt_succ_of_lt e), Nat.ne_of_lt e⟩
  have lt : ∀ b o, hp.get? b = some o → LT.lt (α := Nat) b D := fun b o e => hD ▸ Heap.lt_size e
  have old : ∀ b o, hp.get? b = some o → h₁.get? b = some o := fun b o e => hsb₁.extBut b o (lo b (lt b o e)).1 (Heap.get?_push_of_some _ (hH ▸ Heap.get?_push_of_some _ e))
  have hfp' : ∀ b ∈ fp, LT.lt (α := Nat) b D := fun b hb => hD ▸ hfp b hb
  have hCn : hp.get? C = none := by
    cases z : hp.get? C with
    | none => rfl
    | some o => exact absurd rfl (lo C (lt C o z)).1
  have hst₁ : St 0 h₁ := W.frame _ _ _ hst fun b _ o e => old b o e
  have loop : codeAny (model prog w) A (.compLoop (.DictComp kx vx [⟨.Name x px, iter, ifs, 0⟩] scope pos) 0 (.ref I) (.ref D) (compEnvC scope cl C env)) (RR (.ref D) C) ⟨h₁, gg, dd, tt + ([] : List (Str × Value)).length, os⟩ := by
    have back : ∀ {h₃ : Heap}, (∀ b o, b ≠ C → b ∉ [I] → b ≠ D → h₁.get? b = some o → h₃.get? b = some o) → ∀ b o, b ∉ [I] → hp.get? b = some o → h₃.get? b = some o :=
      fun hk b o hb e => hk b o (lo b (lt b o e)).1 hb (lo b (lt b o e)).2 (old b o e)
    refine codeAny_compLoop_walkD (hsz := hsz) (knd := intKind prog w) (cenv := compEnvC scope cl C env) W p FK FV (lookup_relabel_local hx) (by simp [compEnvC, relabel, hkind]) hDC (fun m => (lo D (hfp' D m)).2 rfl) (fun m => (lo C (hfp' C m)).1 rfl)
      hst₁ (hnew.at fun o e => hsb₁.extBut _ _ hDC (Heap.get?_push_of_some _ e)) hns₁ (fun i v s₃ m₃ hv hn hm hk => q.tests _ i v s₃ m₃ _ hv hn hm (back hk)) (fun i v s₃ m₃ hv hpv hn hm hk => q.key _ i v s₃ m₃ _ hv hpv hn hm (back hk))
      (fun i v s₃ m₃ hv hpv hn hm hk => q.val _ i v s₃ m₃ _ hv hpv hn hm (back hk)) fun h' tk m' kvs vs hn ha hlen hP hF hk => fin C h' tk m' kvs vs hCn hDC hn ha hlen hP hF (back hk)
  exact codeAny_compStart_dict loop (W.self 0 _ _ _ hst₁ loop)
theorem dict_comp {kx vx iter : Expr} {x : Str} {px : Pos} {ifs : List Expr} {scope : Scope} {cl : List (Str × Addr)} {pos : Pos} {Q : Value → Shared → Prop} (p : Int → Bool) (f : Int → Int)
    (hclos : closureFor scope env = pure cl) (hcell : ∀ y ∈ scope.names, y.2 ≠ .cell) (hkind : scope.kind = .function)
    (hnames : ∀ y ∈ scope.names, y.2 = .local → scope.names.lookup y.1 = some .local) (hx : scope.names.lookup x = some .local)
    (h : wpAny (model prog w) A (eval iter env) (DcSrc prog w A env kx vx x ifs scope cl p f Q) E s)
    (hs : ∀ x, foldedSetIterable iter env x = pure x := by intro _; rfl) :
    wpAny (model prog w) A (eval (.DictComp kx vx [⟨.Name x px, iter, ifs, 0⟩] scope pos) env) Q E s := by
  rw [arm_eval_DictComp]
  refine wpAny_comprehension_free (use := none) rfl hs hclos hkind hnames (wpAny_mono h (fun xv s₁ h₁ => ?_) fun _ _ e => e)
  refine via fun G_ hG_ => ?_
  obtain ⟨ax, vs, ns, rfl, hh, hl, hi, hsz, hnd, htests, hkey, hval, hQ⟩ := h₁
  refine hG_ ?_
  clear hG_ G_
  have hlt : ax < s₁.heap.objs.size := by obtain ⟨_, e, _⟩ := hl; exact Heap.lt_size e
  have up : ∀ (h₃ : Heap), (∀ b o, b ∉ [s₁.heap.objs.size] → (s₁.heap.push { cls := .type "list_iterator", data := .fields #[.ref ax, .int 0 0] }).get? b = some o → h₃.get? b = some o) → ∀ b o, s₁.heap.get? b = some o → h₃.get? b = some o :=
    fun h₃ hk b o e => hk b o (fun hm => by rw [List.mem_singleton.mp hm] at e; exact Nat.lt_irrefl _ (Heap.lt_size e)) (Heap.get?_push_of_some _ e)
  have item : ∀ (i : Nat) v, vs.toArray[i]? = some v → ∃ k t, k ∈ ns ∧ v = .int k t := fun i v hv => by
    refine via fun G_ hG_ => ?_
    obtain ⟨a, hmem, t, ha⟩ := (IntsAre.areOf hi).memD v (by simpa using Array.mem_of_getElem? hv)
    refine hG_ ?_
    clear hG_ G_
    exact ⟨a, t, hmem, ha⟩
  refine wpAny_pyIter_list hl ?_
  refine dict_block (s := { s₁ with heap := _ }) (RR := fun acc C => compPost (model prog w) A E none Q acc C) (Walks.list hh _ _ (Nat.ne_of_lt hlt) vs.toArray) (by rw [List.size_toArray, hi.length]; exact hsz) (ItemKind.int.lift p) (fun v k => ∃ a, ItemKind.int.is a v ∧ k = a) (fun v y => ∃ a, ItemKind.int.is a v ∧ Carried y (.int (f a)))
    hcell hkind hx ⟨⟨_, Heap.get?_push_size _ rfl, rfl, rfl⟩, hl.push _⟩ ?_ ⟨?_, ?_, ?_⟩ ?_
  · intro b hb
    show b < (s₁.heap.push _).objs.size
    rw [Heap.size_push]
    rcases List.mem_cons.mp hb with rfl | hb
    · exact Nat.lt_succ_self _
    · rw [List.mem_singleton.mp hb]; exact Nat.lt_succ_of_lt hlt
  · intro C i v s₃ m₃ E' hP hn hm hk
    refine via fun G_ hG_ => ?_
    obtain ⟨k, t, hmem, rfl⟩ := item i v hP
    refine hG_ ?_
    clear hG_ G_
    exact htests C k t s₃ m₃ E' hmem hn hm (up _ hk)
  · intro C i v s₃ m₃ E' hP hp hn hm hk
    refine via fun G_ hG_ => ?_
    obtain ⟨k, t, hmem, rfl⟩ := item i v hP
    refine hG_ ?_
    clear hG_ G_
    refine wpAny_mono (hkey C k t s₃ m₃ E' hmem hp hn hm (up _ hk)) (fun key s₄ z => ?_) fun _ _ e => e
    refine via fun G_ hG_ => ?_
    obtain ⟨⟨t', rfl⟩, kp⟩ := z
    refine hG_ ?_
    clear hG_ G_
    exact ⟨⟨k, intKind_is _ _ _ _, k, ⟨t, rfl⟩, rfl⟩, kp⟩
  · intro C i v s₃ m₃ E' hP hp hn hm hk
    refine via fun G_ hG_ => ?_
    obtain ⟨k, t, hmem, rfl⟩ := item i v hP
    refine hG_ ?_
    clear hG_ G_
    refine wpAny_mono (hval C k t s₃ m₃ E' hmem hp hn hm (up _ hk)) (fun y s₄ z => ?_) fun _ _ e => e
    refine via fun G_ hG_ => ?_
    obtain ⟨⟨t', rfl⟩, kp⟩ := z
    refine hG_ ?_
    clear hG_ G_
    exact ⟨⟨k, ⟨t, rfl⟩, .int _ _⟩, kp⟩
  · intro C h' tk m' kvs vs' hC hDC hn hl' hlen hP hF hk
    have e : vs' = vs := by simpa using list_of_places hlen hP
    subst e
    refine ⟨m', hn, fun h'' sb => hQ _ h'' tk kvs ?_ (hl'.extBut sb.extBut hDC) ?_ fun b o e => sb.extBut b o (fun q => ?_) (up _ hk b o e)⟩
    · show _ ≤ (s₁.heap.push _).objs.size
      rw [Heap.size_push]
      exact Nat.le_succ _
    · have := storedAll_flat (K := ItemKind.int) (enc := PyData.int) (kf := id) (d := fun a => PyData.int (f a)) same_int hF (ns.filter p) ((IntsAre.areOf hi).filter p)
      unfold putAll at this
      have e2 := putAll_ints f [] (ns.filter p) (by rw [List.nil_append]; exact hnd.filter p)
      simp only [List.map_nil, List.nil_append] at e2
      rw [← e2]
      exact this
    · have := Heap.get?_push_of_some ({ cls := .type "list_iterator", data := .fields #[.ref ax, .int 0 0] } : Obj) e
      rw [q] at this
      exact nomatch (hC.symm.trans this)
end
end
section
open PyProof.Rows.LCg PyProof.V

theorem minRun_le : ∀ f n r, minRun' f n r ≤ n + r
  | 0, _, _ => Nat.le_refl _
  | f + 1, n, r => by
    rw [minRun'_succ]
    split
    · exact Nat.le_refl _
    · have := minRun_le f (n / 2) (max r (n % 2))
      (first | exact q138 (by assumption) (by assumption) | omega)
section
variable {prog : Program} {w : World} {A : Around} {E : Value → Shared → Prop} {s : Shared} {a₀ : Array Keyed}
/-- an array that rises is one run -/
theorem run_asc {st : SortSt} {Q : Option Nat → SortSt → Prop} (h0 : IntKeys a₀) (h1 : 1 ≤ a₀.size) (hB : SBase a₀ st) (hs : SortedTo (arrOf st) a₀.size) (h : Q (some a₀.size) st) :
    wpS (model prog w) A E s (countRun' 0 a₀.size) Q st := by
  rw [countRun0_eq]
  refine wpS_bind (wpS_ascLoop h0 (Nat.le_refl _) (Nat.le_refl 1) h1 hB (fun i j hij hj => (show i = j by (first | exact q130 (by assumption) (by assumption) | omega)) ▸ Int.le_refl _) fun n hn1 hn2 _ hor => ?_)
  have hn : n = a₀.size := by
    rcases hor with e | e
    · exact e
    · by_cases hlt : n < a₀.size
      · exact absurd e (Int.not_lt.mpr (hs (n - 1) n (by (first | exact q131 (by assumption) | omega)) hlt))
      · (first | exact q132 (by assumption) (by assumption) | omega)
  subst hn
  try dsimp only
  rw [if_pos (by simp)]
  exact wpS_pure h
theorem runs_asc {st : SortSt} {Q : Unit → SortSt → Prop} (h0 : IntKeys a₀) (hB : SBase a₀ st) (h2 : 2 ≤ a₀.size) (hs : SortedTo (arrOf st) a₀.size)
    (h : ∀ st', (arrOf st').Perm a₀ → failedOf st' = none → SortedTo (arrOf st') a₀.size → Q () st') : wpS (model prog w) A E s sortRuns' Q st := by
  rw [sortRuns'_eq]
  refine wpS_bind (wpS_get ?_)
  try dsimp only
  have hmr : ¬ a₀.size < minRun' a₀.size a₀.size 0 := Nat.not_lt.mpr (minRun_le _ _ _)
  simp only [hB.size]
  refine wpS_bind (wpS_mono (wpS_forRange
    (I := fun x c st' => (x = 0 ∧ c = (none, 0) ∧ st' = st) ∨ (1 ≤ x ∧ c = (none, a₀.size) ∧ SDone a₀ st'))
    (Q := fun c st' => c = (none, a₀.size) ∧ SDone a₀ st') ?step ?fin (.inl ⟨rfl, rfl, rfl⟩)) ?post)
  case fin =>
    rintro c st' (⟨hx, _, _⟩ | ⟨_, hc, hD⟩)
    · omega
    · exact ⟨hc, hD⟩
  case step =>
    rintro x c st' _ hx (⟨rfl, rfl, rfl⟩ | ⟨hx1, rfl, hD⟩)
    · try dsimp only
      rw [if_neg (by (first | exact q121 (by assumption) | omega))]
      simp only [Nat.sub_zero, Nat.zero_add]
      refine wpS_bind (run_asc h0 (by (first | exact q122 (by assumption) | omega)) hB hs ?_)
      try dsimp only
      rw [if_neg hmr]
      refine wpS_bind (wpS_get ?_)
      have hb : (pendingOf st').back? = none := by rw [hB.pend]; rfl
      rw [hb]
      try dsimp only
      exact wpS_bind (wpS_modify (wpS_pure (.inr ⟨by (first | exact q123 | omega), rfl, hB.done hs⟩)))
    · try dsimp only
      rw [if_pos (Nat.le_refl _)]
      exact wpS_pure ⟨rfl, hD⟩
  case post =>
    rintro c st' ⟨rfl, hD⟩
    try dsimp only
    refine wpS_bind (wpS_mono (wpS_forRange (I := fun _ c st'' => st'' = st' ∧ c = (none, ())) (Q := fun c st'' => st'' = st' ∧ c = (none, ())) ?_ (fun _ _ hh => hh) ⟨rfl, rfl⟩) ?_)
    · rintro x c st'' _ _ ⟨rfl, rfl⟩
      refine wpS_bind (wpS_get ?_)
      rw [if_pos (by rw [hD.2.2.1]; exact Nat.le_refl 1)]
      exact wpS_pure ⟨rfl, rfl⟩
    · rintro c st'' ⟨rfl, rfl⟩
      exact wpS_pure (h _ hD.1 hD.2.1 hD.2.2.2)
theorem sorted_start {vs : List Value} {ns : List Int} (hI : IntsAre vs ns) (ho : ns.Pairwise (· ≤ ·)) : SortedTo (pairsOf vs) (pairsOf vs).size := by
  intro i j hij hj
  rw [pairsOf_size] at hj
  have hl := hI.length
  have at_ : ∀ k, (hk : k < vs.length) → K (pairsOf vs) k = ns[k]'(by (first | exact q133 (by assumption) (by assumption) | omega)) := fun k hk => by
    rw [K_eq (by rw [pairsOf_size]; exact hk)]
    obtain ⟨t, ht⟩ := hI.get k ns[k] (by simp)
    have : (pairsOf vs)[k]'(by rw [pairsOf_size]; exact hk) = (vs[k], vs[k]) := by simp [pairsOf]
    rw [this]
    have e : vs[k] = .int ns[k] t := by
      have := List.getElem?_eq_getElem hk
      rw [ht] at this
      exact (Option.some.inj this).symm
    rw [e]
    rfl
  rw [at_ i (by (first | exact q134 (by assumption) (by assumption) (by assumption) | omega)), at_ j hj]
  by_cases q : i = j
  · subst q; exact Int.le_refl _
  · exact List.pairwise_iff_getElem.mp ho i j (by (first | exact q135 (by assumption) (by assumption) (by assumption) | omega)) (by (first | exact q136 (by assumption) (by assumption) | omega)) (by (first | exact q137 (by assumption) (by assumption) | omega))
end
section
variable {prog : Program} {w : World} {A : Around} {E : Value → Shared → Prop} {s : Shared}
theorem two_of {α : Type} {vs : List α} (h : ¬ vs.toArray.size < 2) : ∃ v₁ v₂ rest, vs = v₁ :: v₂ :: rest := by
  cases vs with
  | nil => simp at h
  | cons a l =>
    cases l with
    | nil => simp at h
    | cons b r => exact ⟨a, b, r, rfl⟩
theorem sort_asc {a : Addr} {vs : List Value} {ns : List Int} {n : Nat} {P : Fin → Shared → Prop} (ho : s.heap.get? a = some (seqObj "list" vs.toArray n))
    (hI : IntsAre vs ns) (hr : ns.Pairwise (· ≤ ·)) (hlen : vs.length ≤ 100000)
    (h : ∀ (out : Array Value) (ns' : List Int), IntsAre out.toList ns' → ns'.Perm ns → ns'.Pairwise (· ≤ ·) → P (.done (.ret .none)) { s with heap := sortedHeap s.heap a vs out }) :
    wpAny (model prog w) A (Builtin.«list.sort» ⟨[.ref a], []⟩) P E s := by
  rw [list_sort_plain]
  have ha : a < s.heap.objs.size := Heap.lt_size ho
  have fits : vs.length ≤ sizeLine := by rw [sizeLine_eq]; (first | exact q128 (by assumption) | omega)
  have hsz : vs.toArray.size = vs.length := by simp
  refine wpAny_bind (listItems_at ho rfl ?_)
  refine wpAny_bind (listUpdate_at ho rfl ?_ (by rw [hsz]; exact fits))
  obtain ⟨e1, ho1⟩ : ∃ e1, (s.heap.update a (Obj.mapSeq fun _ => #[])).get? a = some (seqObj "list" #[] e1) := ⟨_, get?_update_seq ho (fun _ => #[])⟩
  refine wpAny_bind (seqEpoch_at ho1 rfl ?_)
  refine wpAny_bind (wpAny_newTuple ?_ (by show vs.length ≤ _; exact fits))
  refine wpAny_bind (wpAny_newList ?_)
  refine wpAny_holding ?_
  have ho6 : (((s.heap.update a (Obj.mapSeq fun _ => #[])).push (seqObj "tuple" vs.toArray 0)).push (seqObj "list" #[] 0)).get? a = some (seqObj "list" #[] e1) :=
    Heap.get?_push_of_some _ (Heap.get?_push_of_some _ ho1)
  show wpAny (model prog w) A _ P E { s with heap := ((s.heap.update a (Obj.mapSeq fun _ => #[])).push (seqObj "tuple" vs.toArray 0)).push (seqObj "list" #[] 0) }
  try dsimp only
  have st0 := sorted_start hI hr
  have fin : ∀ st' : SortSt, (arrOf st').Perm (pairsOf vs) → SortedTo (arrOf st') (pairsOf vs).size → P (.done (.ret .none)) { s with heap := sortedHeap s.heap a vs ((arrOf st').map (·.2)) } := by
    intro st' hp hs
    refine via fun G_ hG_ => ?_
    obtain ⟨ns', h1, h2, h3⟩ := sorted_out hI hp hs
    refine hG_ ?_
    clear hG_ G_
    exact h _ ns' h1 h2 h3
  by_cases h2 : vs.toArray.size < 2
  · rw [if_pos h2, if_pos h2]
    refine wpAny_bind (wpAny_pure ?_)
    rw [StateT.run_pure]
    refine wpAny_bind (wpAny_pure ?_)
    try dsimp only
    refine wpAny_bind (seqEpoch_at ho6 rfl ?_)
    refine wpAny_bind (listUpdate_at ho6 rfl ?_ (hsz2 := by rw [Array.size_map]; show (pairsOf vs).size ≤ _; rw [pairsOf_size]; (first | exact q129 (by assumption) (by assumption) | omega)))
    simp only [bne_self_eq_false, Bool.false_eq_true, if_false]
    exact wpAny_pure (fin (SortSt.mk' general' (vs.toArray.zip vs.toArray) #[] 7 none) (Array.Perm.refl _) st0)
  · rw [if_neg h2, if_neg h2]
    refine via fun G_ hG_ => ?_
    obtain ⟨v₁, v₂, rest, rfl⟩ : ∃ v₁ v₂ rest, vs = v₁ :: v₂ :: rest := two_of h2
    refine hG_ ?_
    clear hG_ G_
    rw [keyKind_ints hI]
    refine wpAny_bind (wpAny_pure ?_)
    refine wpAny_bind (wpAny_mono (runs_asc (a₀ := pairsOf (v₁ :: v₂ :: rest)) (st := SortSt.mk' oneType' ((v₁ :: v₂ :: rest).toArray.zip (v₁ :: v₂ :: rest).toArray) #[] 7 none)
      (Q := fun _ st' => (arrOf st').Perm (pairsOf (v₁ :: v₂ :: rest)) ∧ failedOf st' = none ∧ SortedTo (arrOf st') (pairsOf (v₁ :: v₂ :: rest)).size)
      hI.intKeys ⟨Array.Perm.refl _, rfl, rfl, rfl⟩ (by rw [pairsOf_size]; simp) st0 fun st' a1 a2 a3 => ⟨a1, a2, a3⟩) ?_ fun _ _ e => e)
    intro z0_ s' z1_
    refine via fun G_ hG_ => ?_
    obtain ⟨⟨⟩, st'⟩ := z0_
    obtain ⟨rfl, hp, hf, hs⟩ := z1_
    refine hG_ ?_
    clear hG_ G_
    try dsimp only
    refine wpAny_bind (seqEpoch_at ho6 rfl ?_)
    refine wpAny_bind (listUpdate_at ho6 rfl ?_ (hsz2 := by refine Nat.le_trans (Nat.le_of_eq ((Array.size_map ..).trans (hp.size_eq.trans (pairsOf_size _)))) ?_; (first | exact q129 (by assumption) (by assumption) | omega)))
    rw [hf]
    simp only [bne_self_eq_false, Bool.false_eq_true, if_false]
    exact wpAny_pure (fin st' hp hs)

theorem asc_eq : ∀ {l₁ l₂ : List Int}, l₁.Perm l₂ → l₁.Pairwise (· ≤ ·) → l₂.Pairwise (· ≤ ·) → l₁ = l₂
  | [], l₂, h, _, _ => h.nil_eq
  | a :: l₁, [], h, _, _ => absurd h.length_eq (by simp)
  | a :: l₁, b :: l₂, h, o₁, o₂ => by
    have e : a = b := by
      have h1 := (List.pairwise_cons.mp o₁).1
      have h2 := (List.pairwise_cons.mp o₂).1
      rcases List.mem_cons.mp (h.mem_iff.mp List.mem_cons_self) with q | q
      · exact q
      · rcases List.mem_cons.mp (h.mem_iff.mpr List.mem_cons_self) with q' | q'
        · exact q'.symm
        · exact Int.le_antisymm (h1 b q') (h2 a q)
    subst e
    rw [asc_eq (List.Perm.cons_inv h) (List.pairwise_cons.mp o₁).2 (List.pairwise_cons.mp o₂).2]
theorem ints_of : ∀ {vs : List Value} {ns : List Int}, vs.length = ns.length → (∀ (j : Nat) v, vs[j]? = some v → ∃ k t, ns[j]? = some k ∧ v = .int k t) → IntsAre vs ns
  | [], [], _, _ => .nil
  | [], _ :: _, h, _ => absurd h (by simp)
  | _ :: _, [], h, _ => absurd h (by simp)
  | v :: vs, n :: ns, h, k => by
    refine via fun G_ hG_ => ?_
    obtain ⟨k0, t, e, rfl⟩ := k 0 v rfl
    refine hG_ ?_
    clear hG_ G_
    simp only [List.getElem?_cons_zero, Option.some.injEq] at e
    subst e
    exact .cons _ _ (ints_of (by simpa using h) fun j u hu => by simpa using k (j + 1) u (by simpa using hu))
theorem flat_keys {w : World} {prog : Program} {kvs : List (Int × Value)} {ps : List (Int × Int)} (hf : FlatPairs PyData.int kvs (intD ps)) {j : Nat} {k : Int} {x : Value} (hx : kvs[j]? = some (k, x)) : (ps.map (·.1))[j]? = some k := by
  refine via fun G_ hG_ => ?_
  obtain ⟨dv, hd, _⟩ := hf.at hx
  refine hG_ ?_
  clear hG_ G_
  simp only [intD, List.getElem?_map, Option.map_eq_some_iff] at hd ⊢
  refine via fun G_ hG_ => ?_
  obtain ⟨p, hp, e⟩ := hd
  refine hG_ ?_
  clear hG_ G_
  simp only [Prod.mk.injEq, PyData.int.injEq] at e
  exact ⟨p, hp, e.1⟩
/-- sorted over a dict whose keys rise: a new list of them -/
theorem sorted_dict {h₀ : Heap} {L d : Addr} {m : Str → Option Value} {news : List (Addr × Obj)} {Q : Value → Shared → Prop} {ps : List (Int × Int)} (hh : A.handled = none) (F : Fr h₀ L s.heap m) (N : News h₀ L s.heap news)
    (Ta : TabAt (intKind prog w) PyData.int s.heap d (intD ps)) (hr : ps.Pairwise (fun p q => p.1 < q.1)) (hlen : ps.length ≤ 100000)
    (h : ∀ (B : Addr) h' tk vs n, Fr h₀ L h' m → News h₀ L h' ((B, listOf (List.toArray vs) n) :: news) → (∀ q ∈ news, LT.lt (α := Nat) q.1 B) → (∀ b o, s.heap.get? b = some o → h'.get? b = some o) → IntsAre vs (ps.map (·.1)) → Q (.ref B) { s with heap := h', toks := tk }) :
    wpAny (model prog w) A (call (.builtin "sorted") [.ref d]) Q E s := by
  refine via fun G_ hG_ => ?_
  obtain ⟨lo, kvs, hD, hf⟩ := Ta
  refine hG_ ?_
  clear hG_ G_
  obtain ⟨ep, hat⟩ := hD.dictAt
  have hkl : kvs.length = ps.length := by rw [← hf.length]; simp [intD]
  refine call_function_entry kind_sorted plain_sorted entry_sorted (args_sorted1 _) ?_
  unfold Builtin.«sorted»
  refine wpAny_bind (m := checkCount "sorted" 1 1 _) (wpAny_pure ?_)
  refine wpAny_bind (kdu_collect (A := A.in1) (kdl_dict (knd := intKind prog w) (kvs := kvs) (ep := ep) lo) hh hat (by rw [sizeLine_eq]; (first | exact q125 (by assumption) (by assumption) | omega)) fun h' tk acc hk hacc => ?_)
  have hl : acc.toList.length = kvs.length := by rw [Array.length_toList]; exact hacc.1
  refine wpAny_bind (wpAny_newList ?_ (by rw [hl, sizeLine_eq]; (first | exact q127 (by assumption) (by assumption) (by assumption) | omega)))
  have hI : IntsAre acc.toList (ps.map (·.1)) := ints_of (by rw [hl, hkl]; simp) fun j v hv => by
    obtain ⟨k, x, hx, hkd⟩ := hacc.2 j v (by rw [← Array.getElem?_toList]; exact hv)
    obtain ⟨t, rfl⟩ := Flat.int_inv (kdl_flat_int hkd)
    exact ⟨k, t, flat_keys (w := w) (prog := prog) hf hx, rfl⟩
  have hr' : (ps.map (·.1)).Pairwise (· ≤ ·) := List.pairwise_map.mpr (hr.imp fun h => Int.le_of_lt h)
  have hoB : (h'.push { cls := .type "list", data := .seq acc.toList.toArray }).get? h'.objs.size = some (seqObj "list" acc.toList.toArray 0) := Heap.get?_push_size _ rfl
  refine wpAny_bind (wpAny_holding (wpAny_call_entry slot_list_sort ⟨_, hoB, rfl⟩ entry_list_sort (sort_asc hoB hI hr' (by rw [hl]; (first | exact q126 (by assumption) (by assumption) (by assumption) | omega)) fun out ns' a1 a2 a3 => ⟨_, rfl, ?_⟩) (args_list_sort _)))
  obtain rfl := asc_eq a2 a3 hr'
  generalize hH : h'.push { cls := .type "list", data := .seq acc.toList.toArray } = H at hoB
  generalize hBB : h'.objs.size = B at hoB
  have hBH : LT.lt (α := Nat) B H.objs.size := Heap.lt_size hoB
  have keep : ∀ b o, h'.get? b = some o → (sortedHeap H B acc.toList out).get? b = some o := fun b o e => by
    have hne : B ≠ b := by rw [← hBB]; exact Nat.ne_of_gt (Heap.lt_size e)
    unfold sortedHeap
    rw [Heap.get?_update_other _ _ hne]
    refine Heap.get?_push_of_some _ (Heap.get?_push_of_some _ ?_)
    rw [Heap.get?_update_other _ _ hne, ← hH]
    exact Heap.get?_push_of_some _ e
  obtain ⟨e1, ho1⟩ : ∃ e1, (H.update B (Obj.mapSeq fun _ => #[])).get? B = some (seqObj "list" #[] e1) := ⟨_, get?_update_seq hoB (fun _ => #[])⟩
  have ho2 : (((H.update B (Obj.mapSeq fun _ => #[])).push (seqObj "tuple" acc.toList.toArray 0)).push (seqObj "list" #[] 0)).get? B = some (seqObj "list" #[] e1) := Heap.get?_push_of_some _ (Heap.get?_push_of_some _ ho1)
  obtain ⟨e2, ho3⟩ : ∃ e2, (sortedHeap H B acc.toList out).get? B = some (seqObj "list" out e2) := ⟨_, get?_update_seq ho2 (fun _ => out)⟩
  have hnew : h'.get? B = none := by
    rw [← hBB]
    cases z : h'.get? h'.objs.size with
    | none => rfl
    | some o => exact absurd (Heap.lt_size z) (Nat.lt_irrefl _)
  have hLB : B ≠ L := fun q => by
    refine via fun G_ hG_ => ?_
    obtain ⟨o, es, ep', ho, _⟩ := F.ns
    refine hG_ ?_
    clear hG_ G_
    have := hk _ _ ho
    rw [← q, hnew] at this
    cases this
  refine wpAny_pure ⟨_, rfl, h B (sortedHeap H B acc.toList out) tk out.toList e2 (F.keeps fun b o e => keep b o (hk b o e)) (fun p hp => ?_) (fun q hq => ?_) (fun b o e => keep b o (hk b o e)) a1⟩
  · rcases List.mem_cons.mp hp with rfl | hp
    · refine ⟨?_, hLB, ?_⟩
      · show _ = some (listOf out.toList.toArray e2)
        rw [Array.toArray_toList]
        exact ho3
      · cases z : h₀.get? B with
        | none => rfl
        | some o => have := hk _ _ (F.keep _ _ z); rw [hnew] at this; cases this
    · exact ⟨keep _ _ (hk _ _ (N p hp).1), (N p hp).2⟩
  · rw [← hBB]; exact Heap.lt_size (hk _ _ (N q hq).1)
end
end
section
open PyProof.Rows.LCg PyProof.V


/-- a ClassDef over the dict d -/
noncomputable def ClsAt (x dx d : Addr) (h : Heap) : Prop :=
  h.get? x = some (instObj 210 dx) ∧ ∃ k1 tk1, h.get? dx = some (dictOf [⟨k1, .str (Str.ofString "classes") tk1, .ref d⟩] 1)
theorem cd_init {w : World} {mean : ExcName → Option Value} {mg mb : Str → Option Value} {base : Heap} {A : Around} {s : Shared} {d x dx : Addr} {R : Result → Shared → Prop} (G : Gnd w mean mg mb base A s.heap) (hroom : A.depth ≤ 580)
    (hx : s.heap.get? x = some (instObj 210 dx)) (hdx : s.heap.get? dx = some (dictOf [] 0)) (hbx : base.get? x = none) (hbd : base.get? dx = none) (hdf : dx ∉ frAddrs A) (hlt : LT.lt (α := Nat) dx x)
    (ret : ∀ h' tk, Ext [dx] s.heap h' → ClsAt x dx d h' → R (.ok (.ret .none)) { s with heap := h', toks := tk }) :
    codeAny (model PySem.Challenge.rw_pb0173_01.row.prog w) A (.call (.ref 183) ⟨[.ref x, .ref d], []⟩) R s := by
  k_dflt (refine' enter (news := [(x, instObj 210 dx), (dx, dictOf [] 0)]) G ?hn ?ho ?hcd ?hroom ?hbind ?hloc ?_ ?q1 ?q2 ?q3 ?q4; (case ho => k_is); (case hcd => k_is); (case hroom => first | (simp only [recursionLimit]; (first | exact q34 (by assumption) | omega)) | omega | assumption); (case hbind => exact BindsTo.of_eq rfl); (case hloc => exact locs rfl); (case q1 => rfl); (case q2 => rfl); (case q3 => rfl); (case q4 => decide))
  case hn =>
    exact two_mem ⟨hx, hbx, G.notFr hx (fun _ _ e => by cases e)⟩ ⟨hdx, hbd, hdf⟩
  intro g L' h₁ l hsub hsup hL F N B X T FR
  try dsimp only
  (repeat' (first | ((with_reducible show wpAny _ _ (exec _ _) _ _ _); k_fold) | (with_reducible first | refine Jq0 ?_ | refine Jq1 ?_ | refine Jq2 ?_ | refine Jq3 ?_ | refine Jq4 ?_) | (k_unfold; (try dsimp only)) | (k_end; wrow_close) | walk1 | (dsimp only; walk1) | (leave1; walk_say "STEP leave1"; try dsimp only) | fail "no step"))
  k_end
  rename News _ _ _ _ => Ne
  rename Fr _ _ _ _ => Fe
  exact ret _ _ (kept_of hsub Fe (two_mem hx hdx) (two_mem (fun _ => (Ne _ (.head _)).1) (fun q => absurd (.head _) q))) ⟨(Ne _ (.head _)).1, _, _, (Ne _ (.tail _ (.head _))).1⟩
theorem cd_new {w : World} {mean : ExcName → Option Value} {mg mb : Str → Option Value} {base : Heap} {A : Around} {E : Value → Shared → Prop} {s : Shared} {d : Addr} {Q : Value → Shared → Prop} (G : Gnd w mean mg mb base A s.heap) (hroom : A.depth ≤ 570)
    (ret : ∀ x dx h' tk, Ext [] s.heap h' → ClsAt x dx d h' → s.heap.get? x = none → s.heap.get? dx = none → LT.lt (α := Nat) dx x → Q (.ref x) { s with heap := h', toks := tk }) :
    wpAny (model PySem.Challenge.rw_pb0173_01.row.prog w) A (call (.ref 210) [.ref d]) Q E s := by
  refine wpAny_call ?_
  have X := G.K.keeps G.stays
  refine via fun G_ hG_ => ?_
  obtain ⟨h, g, dd, tk, os⟩ := s
  refine hG_ ?_
  clear hG_ G_
  have k : ∀ b o, h.get? b = some o → ((h.push emptyDict).push (instObj 210 h.objs.size)).get? b = some o := fun b o e => Heap.get?_push_of_some _ (Heap.get?_push_of_some _ e)
  have hx : ((h.push emptyDict).push (instObj 210 h.objs.size)).get? (h.objs.size + 1) = some (instObj 210 h.objs.size) := by heap_get
  have hdx : ((h.push emptyDict).push (instObj 210 h.objs.size)).get? h.objs.size = some emptyDict := by heap_get
  have n0 : ∀ b, h.objs.size ≤ b → h.get? b = none := fun b q => by
    cases z : h.get? b with
    | none => rfl
    | some o => exact absurd (Heap.lt_size z) (Nat.not_lt.mpr q)
  have nb : ∀ b, h.objs.size ≤ b → base.get? b = none := fun b q => by
    cases z : base.get? b with
    | none => rfl
    | some o => have := G.stays _ _ z; rw [n0 b q] at this; cases this
  have G' : Gnd w mean mg mb base (A.under (.builtin "type.__call__" ⟨[.ref 210, .ref d], []⟩)) ((h.push emptyDict).push (instObj 210 h.objs.size)) := (G.ext (S := []) (fun b o z _ => k b o z) (fun _ m => nomatch m)).underTC _
  refine make_core (makes_of X (by k_is)) (looks_findIn X (by k_is)) (fun self => bind_fn X self (by k_is)) (.inl rfl) ?_
  refine cd_init (s := ⟨(h.push emptyDict).push (instObj 210 h.objs.size), g, dd, tk, os⟩) G' (by simp only [depth_under_make]; (first | exact q32 (by assumption) | omega)) hx hdx (nb _ (Nat.le_succ _)) (nb _ (Nat.le_refl _)) ?_ (Nat.lt_succ_self _) fun h' tk' x O => ?_
  · intro m
    refine via fun G_ hG_ => ?_
    obtain ⟨l, hl, F⟩ := G.fr
    refine hG_ ?_
    clear hG_ G_
    have hl' : (A.under (.builtin "type.__call__" ⟨[.ref 210, .ref d], []⟩)).frames = some l := by
      show pushEnvs (Code.builtin "type.__call__" ⟨[.ref 210, .ref d], []⟩).envs A.frames = some l
      exact hl
    rw [frAddrs_of hl'] at m
    refine via fun G_ hG_ => ?_
    obtain ⟨env, he, hf⟩ := List.mem_filterMap.mp m
    refine hG_ ?_
    clear hG_ G_
    refine via fun G_ hG_ => ?_
    obtain ⟨_, L, _, hf', _, o, _, _, ho, _⟩ := F env he
    refine hG_ ?_
    clear hG_ G_
    rw [hf] at hf'
    cases hf'
    exact absurd (Heap.lt_size ho) (Nat.lt_irrefl _)
  · refine And.intro rfl ?_
    refine ret _ _ h' tk' (fun b o e _ => x b o (k b o e) fun m => ?_) O (n0 _ (Nat.le_succ _)) (n0 _ (Nat.le_refl _)) (Nat.lt_succ_self _)
    rw [List.mem_singleton.mp m] at e
    exact absurd (Heap.lt_size e) (Nat.lt_irrefl _)
end
section
open PyProof.Rows.LCg PyProof.V


/-- glyphs rise, classes are 16 bits -/
noncomputable def Rising (ps : List (Int × Int)) : Prop := ps.Pairwise (fun p q => p.1 < q.1) ∧ ∀ p ∈ ps, 0 ≤ p.1 ∧ p.1 ≤ 65535 ∧ 0 ≤ p.2 ∧ p.2 ≤ 65535
noncomputable def IntObj (w : World) (o : Obj) (ps : List (Int × Int)) : Prop := ∃ kvs, o.IsDictOf (intKind PySem.Challenge.rw_pb0173_01.row.prog w) kvs ∧ PyProof.V.FlatPairs PyData.int kvs (intD ps)
/-- the class of a glyph -/
noncomputable def clsOf (ps : List (Int × Int)) (k : Int) : Int := match ps with
  | [] => 0
  | p :: r => if p.1 = k then p.2 else clsOf r k
theorem intD_lookup {k : Int} : ∀ {ps : List (Int × Int)}, k ∈ ps.map (·.1) → Spec.lookup (.int k) (intD ps) = some (.int (clsOf ps k))
  | [], h => nomatch h
  | p :: r, h => by
    show (if Spec.same (.int p.1) (.int k) then _ else _) = _
    rw [same_int]
    unfold clsOf
    by_cases q : p.1 = k
    · rw [if_pos (by simpa using q), if_pos q]
    · rw [if_neg (by simpa using q), if_neg q]
      exact intD_lookup ((List.mem_cons.mp h).resolve_left fun e => q e.symm)
theorem tests_one {prog : Program} {w : World} {A : Around} {E : Value → Shared → Prop} {s : Shared} {c : Expr} {env : Env} {Q : Bool → Shared → Prop} (h : wpAny (model prog w) A (isTrue c env (eval c env)) Q E s) : wpAny (model prog w) A (testsOf [c] env) Q E s := by
  unfold testsOf
  rw [List.forIn_cons]
  simp only [if_true, bind_assoc, pure_bind, List.forIn_nil]
  exact wpAny_bind (wpAny_mono h (fun ok s₁ q => wpAny_pure q) fun _ _ e => e)
theorem Rising.fresh {ps : List (Int × Int)} (R : Rising ps) {i : Nat} {p : Int × Int} (hp : ps[i]? = some p) : ∀ q ∈ ps.take i, q.1 ≠ p.1 := fun q hq => by
  obtain ⟨j, hj⟩ := List.getElem?_of_mem hq
  have hji : j < i := by
    have := (List.getElem?_eq_some_iff.mp hj).1
    simp at this
    (first | exact q140 (by assumption) | omega)
  rw [List.getElem?_take_of_lt hji] at hj
  obtain ⟨h1, e1⟩ := List.getElem?_eq_some_iff.mp hj
  obtain ⟨h2, e2⟩ := List.getElem?_eq_some_iff.mp hp
  have := List.pairwise_iff_getElem.mp R.1 j i h1 h2 hji
  rw [e1, e2] at this
  (first | exact q139 (by assumption) | omega)
theorem take_succ_of {α : Type} {ps : List α} {i : Nat} {p : α} (hp : ps[i]? = some p) : ps.take (i + 1) = ps.take i ++ [p] := by
  rw [List.take_add_one, hp]; rfl
/-- the pairs whose class is above 0 -/
noncomputable def marks (ps : List (Int × Int)) : List (Int × Int) := ps.filter fun p => decide (p.2 ≠ 0)
theorem clsOf_mem : ∀ {ps : List (Int × Int)} {p : Int × Int}, ps.Pairwise (fun p q => p.1 < q.1) → p ∈ ps → clsOf ps p.1 = p.2
  | q :: r, p, h, hp => by
    unfold clsOf
    rcases List.mem_cons.mp hp with rfl | hp
    · rw [if_pos rfl]
    · have := (List.pairwise_cons.mp h).1 p hp
      rw [if_neg (by (first | exact q139 (by assumption) | omega))]
      exact clsOf_mem (List.pairwise_cons.mp h).2 hp
theorem marks_eq {ps : List (Int × Int)} (h : ps.Pairwise (fun p q => p.1 < q.1)) : ((ps.map (·.1)).filter fun k => decide (clsOf ps k ≠ 0)).map (fun k => (k, clsOf ps k)) = marks ps := by
  rw [List.filter_map, List.map_map]
  unfold marks
  rw [List.filter_congr (q := fun p => decide (p.2 ≠ 0)) (fun p hp => by simp only [Function.comp]; rw [clsOf_mem h hp])]
  conv => rhs; rw [← List.map_id (List.filter _ ps)]
  exact List.map_congr_left fun p hp => by
    simp only [Function.comp, id]
    rw [clsOf_mem h (List.mem_filter.mp hp |>.1)]
theorem cdo_spec {w : World} {mean : ExcName → Option Value} {mg mb : Str → Option Value} {base : Heap} {A : Around} {E : Value → Shared → Prop} {s : Shared} {D : Addr} {ps : List (Int × Int)} {h₀ : Heap} {Q : Value → Shared → Prop} (G : Gnd w mean mg mb base A s.heap) (hroom : A.depth ≤ 560) (hun : A.units ≤ 6600)
    (P : PairsAt h₀ s.heap D ps) (R : Rising ps) (hlen : ps.length ≤ 65536)
    (ret : ∀ x dx d h' tk, Ext [] s.heap h' → ClsAt x dx d h' → TabAt (intKind PySem.Challenge.rw_pb0173_01.row.prog w) PyData.int h' d (intD (marks ps)) → s.heap.get? x = none → s.heap.get? dx = none → s.heap.get? d = none → Q (.ref x) { s with heap := h', toks := tk }) :
    wpAny (model PySem.Challenge.rw_pb0173_01.row.prog w) A (call (.ref 219) [.ref D]) Q E s := by
  refine via fun G_ hG_ => ?_
  obtain ⟨_, ys, n, fro, hD, hP, hfro⟩ := P
  refine hG_ ?_
  clear hG_ G_
  refine wpAny_call ?_
  k_dflt (refine' enterC (news := []) G ?hn ?ho ?hcd ?hroom ?hbind ?hkind ?hnd ?_ ?q1 ?q2 ?q3; (case ho => k_is); (case hcd => k_is); (case hroom => first | (simp only [recursionLimit]; (first | exact q46 (by assumption) | omega)) | omega | assumption); (case hbind => exact BindsTo.of_eq rfl); (case hkind => exact rfl); (case hnd => decide +kernel); (case q1 => rfl); (case q2 => rfl); (case q3 => rfl))
  case hn => exact fun _ hp => nomatch hp
  intro g L' h₁ l tk0 cells hsub hsup hL F N Y B X T FR lt0
  k_cells Y
  try dsimp only
  simp only [List.cons_append, List.nil_append] at N
  (repeat' (first | ((with_reducible show wpAny _ _ (exec _ _) _ _ _); k_fold) | (with_reducible first | refine Jq0 ?_ | refine Jq1 ?_ | refine Jq2 ?_ | refine Jq3 ?_ | refine Jq4 ?_) | (k_unfold; (try dsimp only)) | (k_end; wrow_close) | walk1 | (dsimp only; walk1) | (leave1; walk_say "STEP leave1"; try dsimp only) | fail "no step"))
  unfold Hold
  rename Fr _ _ _ _ => Fa
  rename_i dF hA oD0 loD hs0 fs0 hi0 fi0 ldF hB oC N0 dC
  refine For_invTF Fa ?_ (fun _ => rfl)
  (repeat' (first | ((with_reducible show wpAny _ _ (exec _ _) _ _ _); k_fold) | (with_reducible first | refine Jq0 ?_ | refine Jq1 ?_ | refine Jq2 ?_ | refine Jq3 ?_ | refine Jq4 ?_) | (k_unfold; (try dsimp only)) | (k_end; wrow_close) | walk1 | (dsimp only; walk1) | (leave1; walk_say "STEP leave1"; try dsimp only) | fail "no step"))
  have hIt : ∀ i : Nat, i < ps.length → ∃ T a b, ys[i]? = some (Value.ref T) ∧ g.IsTuple T #[a, b] ∧ ∃ p t1 t2, ps[i]? = some p ∧ a = .int p.1 t1 ∧ b = .int p.2 t2 := fun i hi => by
    refine via fun G_ hG_ => ?_
    obtain ⟨T, t1, t2, e1, e2⟩ := hP.2 i ps[i] (by simp [hi])
    refine hG_ ?_
    clear hG_ G_
    exact ⟨T, _, _, e1, ⟨_, hsub _ _ (hfro _ e2).1 (fun m => nomatch m), rfl, _, rfl⟩, ps[i], t1, t2, by simp [hi], rfl, rfl⟩
  refine pairs_loop (fun i a b => ∃ p t1 t2, ps[i]? = some p ∧ a = .int p.1 t1 ∧ b = .int p.2 t2) []
    (fun i m nx => ∃ oD, nx = [(dF, oD), (L' + 1, oC)] ∧ IntObj w oD (ps.take i)) G.hand ⟨_, hsub _ _ hD (fun m => nomatch m), rfl, _, rfl⟩ hP.1 hIt (by rfl) (by rfl) (by rfl) Fa N0 ⟨_, rfl, _, hi0, fi0⟩ ?_ ?_
  · intro i _ _ m₁ _ s₁ I oI hi z0_ hIn hIlt z1_ hkp F N
    refine via fun G_ hG_ => ?_
    obtain ⟨p, t1, t2, hp, rfl, rfl⟩ := z0_
    obtain ⟨oD, rfl, kvs, hkv, hfl⟩ := z1_
    refine hG_ ?_
    clear hG_ G_
    clear Fa N0
    have lI1 : LT.lt (α := Nat) dF I := hIlt (dF, _) (.head _)
    have lI2 : LT.lt (α := Nat) (L' + 1) I := hIlt (L' + 1, _) (.tail _ (.head _))
    (repeat' (first | ((with_reducible show wpAny _ _ (exec _ _) _ _ _); k_fold) | (with_reducible first | refine Jq0 ?_ | refine Jq1 ?_ | refine Jq2 ?_ | refine Jq3 ?_ | refine Jq4 ?_) | (k_unfold; (try dsimp only)) | (k_end; wrow_close) | walk1 | (dsimp only; walk1) | (leave1; walk_say "STEP leave1"; try dsimp only) | fail "no step"))
    rename Flat _ _ => fl
    have hfr := R.fresh hp
    have fl' := fl
    rw [intD_lookup_none hfr] at fl'
    obtain ⟨t9, rfl⟩ := Flat.int_inv fl'
    (repeat' (first | ((with_reducible show wpAny _ _ (exec _ _) _ _ _); k_fold) | (with_reducible first | refine Jq0 ?_ | refine Jq1 ?_ | refine Jq2 ?_ | refine Jq3 ?_ | refine Jq4 ?_) | (k_unfold; (try dsimp only)) | (k_end; wrow_close) | walk1 | (dsimp only; walk1) | (leave1; walk_say "STEP leave1"; try dsimp only) | fail "no step"))
    all_goals try (exfalso; rename (p.2 ≠ p.2) => q; exact q rfl; done)
    have hlD : (intD (ps.take i)).length ≤ sizeLine := by
      rw [PySem.sizeLine_eq]
      simp only [intD, List.length_map, List.length_take]
      (first | exact q141 (by assumption) (by assumption) | omega)
    refine setItem_K same_int (intKind_is _ _ _ _) (Flat.int _ _) F N (.tail (Nat.ne_of_gt lI1) (.head (fun q hq => by rw [List.mem_singleton.mp hq]; exact Nat.ne_of_lt ldF))) hkv hfl ?_ hlD
    clear F N
    intro h2 o2 F N hk2 hf2
    rw [intD_putD hfr, ← take_succ_of hp] at hf2
    (repeat' (first | ((with_reducible show wpAny _ _ (exec _ _) _ _ _); k_fold) | (with_reducible first | refine Jq0 ?_ | refine Jq1 ?_ | refine Jq2 ?_ | refine Jq3 ?_ | refine Jq4 ?_) | (k_unfold; (try dsimp only)) | (k_end; wrow_close) | walk1 | (dsimp only; walk1) | (leave1; walk_say "STEP leave1"; try dsimp only) | fail "no step"))
    refine ⟨rfl, _, _, _, [(dF, o2), (L' + 1, oC)], rfl, F, N, fun q hq => ?_, ⟨o2, rfl, _, hk2, hf2⟩, fun z h1 h2 => ?_⟩
    · rcases List.mem_cons.mp hq with rfl | hq
      · exact Nat.ne_of_lt lI1
      · rw [List.mem_singleton.mp hq]; exact Nat.ne_of_lt lI2
    · have h3 : z ≠ Str.ofString "number" := fun q => h2 (q ▸ .head _)
      simp only [h1, h3, ↓reduceIte]
      exact hkp z h1 h2
  · intro m₁ _ h tk z0_ hkp F N
    refine via fun G_ hG_ => ?_
    obtain ⟨oD, rfl, kvs, hkv, hfl⟩ := z0_
    refine hG_ ?_
    clear hG_ G_
    clear Fa N0
    rw [List.take_length] at hfl
    (repeat' (first | ((with_reducible show wpAny _ _ (exec _ _) _ _ _); k_fold) | (with_reducible first | refine Jq0 ?_ | refine Jq1 ?_ | refine Jq2 ?_ | refine Jq3 ?_ | refine Jq4 ?_) | (k_unfold; (try dsimp only)) | (k_end; wrow_close) | walk1 | (dsimp only; walk1) | (leave1; walk_say "STEP leave1"; try dsimp only) | fail "no step"))
    refine dict_comp (fun k => decide (clsOf ps k ≠ 0)) (clsOf ps) (by with_unfolding_all rfl) (by decide) (by rfl) (by decide) (by rfl) ?_
    (repeat' (first | ((with_reducible show wpAny _ _ (exec _ _) _ _ _); k_fold) | (with_reducible first | refine Jq0 ?_ | refine Jq1 ?_ | refine Jq2 ?_ | refine Jq3 ?_ | refine Jq4 ?_) | (k_unfold; (try dsimp only)) | (k_end; wrow_close) | walk1 | (dsimp only; walk1) | (leave1; walk_say "STEP leave1"; try dsimp only) | fail "no step"))
    rename Fr _ _ _ _ => Fc
    rename News _ _ _ _ => Nc
    refine sorted_dict G.hand Fc Nc (TabAt.ofNews Nc (.head _) loD hkv hfl) R.1 (by (first | exact q142 (by assumption) | omega)) ?_
    clear Fc Nc
    intro B2 h' tk vs n F N ltB kp hI
    (repeat' (first | ((with_reducible show wpAny _ _ (exec _ _) _ _ _); k_fold) | (with_reducible first | refine Jq0 ?_ | refine Jq1 ?_ | refine Jq2 ?_ | refine Jq3 ?_ | refine Jq4 ?_) | (k_unfold; (try dsimp only)) | (k_end; wrow_close) | walk1 | (dsimp only; walk1) | (leave1; walk_say "STEP leave1"; try dsimp only) | fail "no step"))
    have hnd : (ps.map (·.1)).Nodup := List.pairwise_map.mpr (R.1.imp fun h => Int.ne_of_lt h)
    have tab : ∀ (h₃ : Heap), (∀ b o, h'.get? b = some o → h₃.get? b = some o) → TabAt (intKind PySem.Challenge.rw_pb0173_01.row.prog w) PyData.int h₃ dF (intD ps) := fun h₃ k => (TabAt.ofNews N (by fail "JMEM") loD hkv hfl).keep k
    refine ⟨B2, vs, ps.map (·.1), rfl, G.hand, ⟨_, (N _ (.head _)).1, rfl, _, rfl⟩, hI, by rw [PySem.sizeLine_eq, List.length_map]; (first | exact q108 (by assumption) | omega), hnd, ?_, ?_, ?_, ?_⟩
    · intro C k t s₃ m₃ E' hk hns hm up
      refine tests_one ?_
      have Tb := tab _ up
      (repeat' (first | ((with_reducible show wpAny _ _ (exec _ _) _ _ _); k_fold) | (with_reducible first | refine Jq0 ?_ | refine Jq1 ?_ | refine Jq2 ?_ | refine Jq3 ?_ | refine Jq4 ?_) | (k_unfold; (try dsimp only)) | (k_end; wrow_close) | walk1 | (dsimp only; walk1) | (leave1; walk_say "STEP leave1"; try dsimp only) | fail "no step"))
      refine getItem_tab same_int (intKind_is _ _ _ _) Tb (intD_lookup hk) fun v fl => ?_
      obtain ⟨t9, rfl⟩ := Flat.int_inv fl
      (repeat' (first | ((with_reducible show wpAny _ _ (exec _ _) _ _ _); k_fold) | (with_reducible first | refine Jq0 ?_ | refine Jq1 ?_ | refine Jq2 ?_ | refine Jq3 ?_ | refine Jq4 ?_) | (k_unfold; (try dsimp only)) | (k_end; wrow_close) | walk1 | (dsimp only; walk1) | (leave1; walk_say "STEP leave1"; try dsimp only) | fail "no step"))
      · by_cases q : clsOf ps k = 0 <;> simp [q]
      · exact ⟨_, _, rfl, fun _ _ e => e⟩
    · intro C k t s₃ m₃ E' hk hpk hns hm up
      (repeat' (first | ((with_reducible show wpAny _ _ (exec _ _) _ _ _); k_fold) | (with_reducible first | refine Jq0 ?_ | refine Jq1 ?_ | refine Jq2 ?_ | refine Jq3 ?_ | refine Jq4 ?_) | (k_unfold; (try dsimp only)) | (k_end; wrow_close) | walk1 | (dsimp only; walk1) | (leave1; walk_say "STEP leave1"; try dsimp only) | fail "no step"))
      exact ⟨_, _, rfl, fun _ _ e => e⟩
    · intro C k t s₃ m₃ E' hk hpk hns hm up
      have Tb := tab _ up
      (repeat' (first | ((with_reducible show wpAny _ _ (exec _ _) _ _ _); k_fold) | (with_reducible first | refine Jq0 ?_ | refine Jq1 ?_ | refine Jq2 ?_ | refine Jq3 ?_ | refine Jq4 ?_) | (k_unfold; (try dsimp only)) | (k_end; wrow_close) | walk1 | (dsimp only; walk1) | (leave1; walk_say "STEP leave1"; try dsimp only) | fail "no step"))
      refine getItem_tab same_int (intKind_is _ _ _ _) Tb (intD_lookup hk) fun v fl => ?_
      obtain ⟨t9, rfl⟩ := Flat.int_inv fl
      exact ⟨⟨_, rfl⟩, _, _, rfl, fun _ _ e => e⟩
    · intro D' h2 tk2 kvs2 hfresh hD2 hf2 up
      have st2 : g.StaysIn h2 := fun b o e => up _ _ (F.keep _ _ e)
      have X2 := X.keeps st2
      (repeat' (first | ((with_reducible show wpAny _ _ (exec _ _) _ _ _); k_fold) | (with_reducible first | refine Jq0 ?_ | refine Jq1 ?_ | refine Jq2 ?_ | refine Jq3 ?_ | refine Jq4 ?_) | (k_unfold; (try dsimp only)) | (k_end; wrow_close) | walk1 | (dsimp only; walk1) | (leave1; walk_say "STEP leave1"; try dsimp only) | fail "no step"))
      unfold Hold
      have F2 := F.keeps up
      have s2 : ∀ b o, s.heap.get? b = some o → h2.get? b = some o := fun b o e => up _ _ (F.keep _ _ (hsub b o e fun m => nomatch m))
      have dn : ∀ b, h2.get? b = none → s.heap.get? b = none := fun b e => by
        cases z : s.heap.get? b with
        | none => rfl
        | some o => have := s2 b o z; rw [e] at this; cases this
      refine cd_new (G.inside B FR F2 rfl rfl) (by simp only [depth_deeper]; (first | exact q47 (by assumption) | omega)) fun x dx h3 tk3 ex C nx nd lt => ?_
      try dsimp only
      have lo2 : (D' == sysModules) = false := beq_eq_false_iff_ne.mpr (Nat.ne_of_gt (Nat.lt_of_lt_of_le (modules_low (T.nolimit.keeps F.keep)) hfresh))
      refine ret x dx D' h3 tk3 (fun b o e _ => ex b o (s2 b o e) fun m => nomatch m) C ⟨lo2, kvs2, hD2.at (fun o e => ex _ o e (fun m => nomatch m)), by rw [← marks_eq R.1]; exact hf2⟩ (dn _ nx) (dn _ nd) ?_
      cases z : s.heap.get? D' with
      | none => rfl
      | some o =>
        exact absurd (Heap.lt_size (F.keep _ _ (hsub _ o z fun m => nomatch m))) (Nat.not_lt.mpr hfresh)
end
section
open PyProof.Rows.LCg PyProof.V


theorem row_rising {arr : Array UInt8} {ks : List Int} {a : Int} {ps : List (Int × Int)} (hks : KBw.bInts arr = ks) (G : RowGood ks a ps) : Rising ps ∧ ps.length ≤ 65536 := by
  refine via fun G_ hG_ => ?_
  obtain ⟨_, h2, rfl⟩ := G
  refine hG_ ?_
  clear hG_ G_
  have b0 := w2_bd hks a
  have b2 := w2_bd hks (a + 2)
  refine ⟨⟨List.pairwise_map.mpr (List.pairwise_lt_range.imp fun h => by dsimp only; (first | exact q143 (by assumption) | omega)), fun p hp => ?_⟩, by simp only [rowPairs, List.length_map, List.length_range]; (first | exact q146 (by assumption) | omega)⟩
  refine via fun G_ hG_ => ?_
  obtain ⟨i, hi, rfl⟩ := List.mem_map.mp hp
  refine hG_ ?_
  clear hG_ G_
  have hi := List.mem_range.mp hi
  have b3 := w2_bd hks (a + 4 + 2 * (i : Int))
  exact ⟨by dsimp only; (first | exact q144 (by assumption) | omega), by dsimp only; (first | exact q145 (by assumption) (by assumption) | omega), b3.1, b3.2⟩
theorem span_mem {arr : Array UInt8} {ks : List Int} {a : Int} (hks : KBw.bInts arr = ks) : ∀ i, SpanOk ks a i → (spanPairs ks a i).Pairwise (fun p q => p.1 < q.1) ∧ ∀ p ∈ spanPairs ks a i, 0 ≤ p.1 ∧ p.1 < sLeast ks a i ∧ 0 ≤ p.2 ∧ p.2 ≤ 65535
  | 0, _ => ⟨.nil, fun _ h => nomatch h⟩
  | i + 1, h => by
    have ih := span_mem hks i ⟨by have := h.1; (first | exact q78 (by assumption) | omega), fun j hj => h.2 j (by (first | exact q79 (by assumption) | omega))⟩
    have hi := h.2 i (by (first | exact q80 | omega))
    have bf := w2_bd hks (a + 2 + 6 * (i : Int))
    have bn := w2_bd hks (a + 2 + 6 * (i : Int) + 4)
    have one : ∀ p ∈ oneSpan (sFirst ks a i) (sLast ks a i) (sNum ks a i), sFirst ks a i ≤ p.1 ∧ p.1 ≤ sLast ks a i ∧ p.2 = sNum ks a i := fun p hp => by
      refine via fun G_ hG_ => ?_
      obtain ⟨j, hj, rfl⟩ := List.mem_map.mp hp
      refine hG_ ?_
      clear hG_ G_
      have := List.mem_range.mp hj
      exact ⟨by dsimp only; (first | exact q161 | omega), by dsimp only; (first | exact q162 (by assumption) (by assumption) | omega), rfl⟩
    refine ⟨List.pairwise_append.mpr ⟨ih.1, List.pairwise_map.mpr (List.pairwise_lt_range.imp fun h => by dsimp only; (first | exact q143 (by assumption) | omega)), fun p hp q hq => ?_⟩, fun p hp => ?_⟩
    · have h1 := (ih.2 p hp).2.1
      have h2 := (one q hq).1
      omega
    · rcases List.mem_append.mp hp with hp | hp
      · have h1 := ih.2 p hp
        show 0 ≤ p.1 ∧ p.1 < sLast ks a i + 1 ∧ _
        exact ⟨h1.1, by (first | exact q164 (by assumption) (by assumption) | omega), h1.2.2⟩
      · have h2 := one p hp
        show 0 ≤ p.1 ∧ p.1 < sLast ks a i + 1 ∧ _
        have hf0 : 0 ≤ sFirst ks a i := bf.1
        exact ⟨by (first | exact q165 (by assumption) (by assumption) | omega), by (first | exact q166 (by assumption) | omega), by rw [h2.2.2]; exact bn.1, by rw [h2.2.2]; exact bn.2⟩
theorem least_le {arr : Array UInt8} {ks : List Int} {a : Int} (hks : KBw.bInts arr = ks) : ∀ i, sLeast ks a i ≤ 65536
  | 0 => by simp [sLeast]
  | i + 1 => by have := w2_bd hks (a + 2 + 6 * (i : Int) + 2); show sLast ks a i + 1 ≤ _; unfold sLast; (first | exact q104 (by assumption) | omega)
theorem span_rising {arr : Array UInt8} {ks : List Int} {a : Int} {ps : List (Int × Int)} (hks : KBw.bInts arr = ks) (G : SpanGood ks a ps) : Rising ps ∧ ps.length ≤ 65536 := by
  refine via fun G_ hG_ => ?_
  obtain ⟨_, h2, rfl⟩ := G
  refine hG_ ?_
  clear hG_ G_
  have h3 := span_mem hks _ h2
  have h4 := least_le (a := a) hks (w2 ks a).toNat
  have h5 := spanPairs_len ks a _ h2
  exact ⟨⟨h3.1, fun p hp => by have := h3.2 p hp; (first | exact q147 (by assumption) (by assumption) | omega)⟩, by (first | exact q148 (by assumption) (by assumption) | omega)⟩
noncomputable def ReadBad (ks : List Int) (a z : Int) : Prop :=
  (ks.length < a + 2 ∧ z = a) ∨ (a + 2 ≤ ks.length ∧ w2 ks a = 1 ∧ RowBad ks (a + 2) z) ∨ (a + 2 ≤ ks.length ∧ w2 ks a = 2 ∧ SpanBad ks (a + 2) z) ∨ (a + 2 ≤ ks.length ∧ w2 ks a ≠ 1 ∧ w2 ks a ≠ 2 ∧ z = a)
noncomputable def ReadGood (ks : List Int) (a : Int) (ps : List (Int × Int)) : Prop :=
  a + 2 ≤ ks.length ∧ ((w2 ks a = 1 ∧ RowGood ks (a + 2) ps) ∨ (w2 ks a = 2 ∧ SpanGood ks (a + 2) ps))
theorem read_rising {arr : Array UInt8} {ks : List Int} {a : Int} {ps : List (Int × Int)} (hks : KBw.bInts arr = ks) (G : ReadGood ks a ps) : Rising ps ∧ ps.length ≤ 65536 := by
  rcases G.2 with ⟨_, h⟩ | ⟨_, h⟩
  · exact row_rising hks h
  · exact span_rising hks h
theorem read_spec {w : World} {mean : ExcName → Option Value} {mg mb : Str → Option Value} {base : Heap} {A : Around} {E : Value → Shared → Prop} {s : Shared} {arr : Array UInt8} {a : Int} {ks : List Int} {t ta : Tok} {Q : Value → Shared → Prop} (G : Gnd w mean mg mb base A s.heap) (hroom : A.depth ≤ 550) (hun : A.units ≤ 6500)
    (hks : KBw.bInts arr = ks) (hsz : ks.length ≤ 900) (ha : 0 ≤ a) (ha2 : a ≤ 900)
    (exc : ∀ e z h' tk, ReadBad ks a z → Fly (frAddrs A) [] s.heap e z h' → E (.ref e) { s with heap := h', toks := tk })
    (ret : ∀ x dx d h' tk ps, ReadGood ks a ps → Ext [] s.heap h' → ClsAt x dx d h' → TabAt (intKind PySem.Challenge.rw_pb0173_01.row.prog w) PyData.int h' d (intD (marks ps)) → s.heap.get? x = none → s.heap.get? dx = none → s.heap.get? d = none → Q (.ref x) { s with heap := h', toks := tk }) :
    wpAny (model PySem.Challenge.rw_pb0173_01.row.prog w) A (call (.ref 236) [.bytes arr t, .int a ta]) Q E s := by
  refine wpAny_call ?_
  k_dflt (refine' enter (news := []) G ?hn ?ho ?hcd ?hroom ?hbind ?hloc ?_ ?q1 ?q2 ?q3 ?q4; (case ho => k_is); (case hcd => k_is); (case hroom => first | (simp only [recursionLimit]; (first | exact q149 (by assumption) | omega)) | omega | assumption); (case hbind => exact BindsTo.of_eq rfl); (case hloc => exact locs rfl); (case q1 => rfl); (case q2 => rfl); (case q3 => rfl); (case q4 => decide))
  case hn => exact fun _ hp => nomatch hp
  intro g L' h₁ l hsub hsup hL F N B X T FR
  try dsimp only
  (repeat' (first | ((with_reducible show wpAny _ _ (exec _ _) _ _ _); k_fold) | (with_reducible first | refine Jq0 ?_ | refine Jq1 ?_ | refine Jq2 ?_ | refine Jq3 ?_ | refine Jq4 ?_) | (k_unfold; (try dsimp only)) | (k_end; wrow_close) | walk1 | (dsimp only; walk1) | (leave1; walk_say "STEP leave1"; try dsimp only) | fail "no step"))
  unfold Hold
  refine oct_new (G.inside B FR F rfl rfl) (by simp only [depth_deeper]; (first | exact q150 (by assumption) | omega)) (by simp only [units_deeper]; (first | exact q151 (by assumption) | omega)) fun x dx h2 tk2 ex2 O nx ndx lt => ?_
  have F2 := fr_ext F ex2 (fun m => nomatch m) (fun _ m => nomatch m)
  have g1 : ∀ b, h₁.get? b = none → g.get? b = none := fun b e => by
    cases z : g.get? b with
    | none => rfl
    | some o => have := F.keep _ _ z; rw [e] at this; cases this
  have s1 : ∀ b, h₁.get? b = none → s.heap.get? b = none := fun b e => by
    cases z : s.heap.get? b with
    | none => rfl
    | some o => have := F.keep _ _ (hsub _ _ z fun m => nomatch m); rw [e] at this; cases this
  have neL : ∀ b, h₁.get? b = none → b ≠ L' := fun b e q => by
    refine via fun G_ hG_ => ?_
    obtain ⟨o, _, _, ho, _⟩ := F.ns
    refine hG_ ?_
    clear hG_ G_
    rw [q, ho] at e; cases e
  have hbx : base.get? x = none := by
    cases z : base.get? x with
    | none => rfl
    | some o => have := B.stays _ _ z; rw [g1 x nx] at this; cases this
  have hbd : base.get? dx = none := by
    cases z : base.get? dx with
    | none => rfl
    | some o => have := B.stays _ _ z; rw [g1 dx ndx] at this; cases this
  have hdf : dx ∉ frAddrs A := fun m => by
    rw [frAddrs_in B] at m
    refine via fun G_ hG_ => ?_
    obtain ⟨env, he, hf⟩ := List.mem_filterMap.mp m
    refine hG_ ?_
    clear hG_ G_
    refine via fun G_ hG_ => ?_
    obtain ⟨_, L, _, hf', _, o, _, _, ho, _⟩ := FR env he
    refine hG_ ?_
    clear hG_ G_
    rw [hf] at hf'
    cases hf'
    have := g1 _ ndx
    rw [ho] at this
    cases this
  have hdL : dx ≠ L' := neL dx ndx
  have hgd : g.get? dx = none := g1 dx ndx
  refine via fun G_ hG_ => ?_
  obtain ⟨ox, k1, tk1, t0, k2, tk2', ta0, od⟩ := O
  refine hG_ ?_
  clear hG_ G_
  have N2 : News g L' h2 [(x, instObj 165 dx), (dx, dictOf [⟨k1, .str (Str.ofString "data") tk1, .bytes arr t0⟩, ⟨k2, .str (Str.ofString "at") tk2', .int a ta0⟩] 2)] :=
    two_mem ⟨ox, neL x nx, g1 x nx⟩ ⟨od, hdL, hgd⟩
  clear F N
  (repeat' (first | ((with_reducible show wpAny _ _ (exec _ _) _ _ _); k_fold) | (with_reducible first | refine Jq0 ?_ | refine Jq1 ?_ | refine Jq2 ?_ | refine Jq3 ?_ | refine Jq4 ?_) | (k_unfold; (try dsimp only)) | (k_end; wrow_close) | walk1 | (dsimp only; walk1) | (leave1; walk_say "STEP leave1"; try dsimp only) | fail "no step"))
  rename Fr _ _ _ _ => Fc
  rename News _ _ _ _ => Nc
  unfold Hold
  refine oct_u16 (x := x) (dx := dx) (G.inside B FR Fc rfl rfl) (by simp only [depth_deeper]; (first | exact q150 (by assumption) | omega)) (by simp only [units_deeper]; (first | exact q151 (by assumption) | omega)) (.inside B ⟨(Nc (x, _) (by fail "JMEM")).1, _, _, _, _, _, _, (Nc (dx, _) (by fail "JMEM")).1⟩ hbx hbd hdf lt hdL) hks (by (first | exact q152 (by assumption) | omega)) ha (by (first | exact q153 (by assumption) (by assumption) | omega)) (fun r1 tr1 h1' tk1' hle1 hr1 ex1 O1 => ?_) fun e h' tk' hlt' fly => ?_
  case refine_2 =>
    try dsimp only
    exact pass_fly (S := []) (S' := [dx]) (E := fun e s'' => E e s'') hL (ext_of hsub Fc) B FR Fc (fun _ m => nomatch m) (fun b hb o q => by rw [List.mem_singleton.mp hb, s1 dx ndx] at q; cases q) (fun b hb => List.mem_singleton.mp hb ▸ ⟨hdL, hdf⟩) rfl rfl fly fun h'' fl => exc e _ h'' _ (.inl ⟨hlt', rfl⟩) fl
  refine via fun G_ hG_ => ?_
  obtain ⟨k11, tk11, t1, k21, tk21, ta1, N1⟩ := news_oct (pre := []) (post := []) Nc ex1 O1 (fun _ m => nomatch m) (fun _ m => nomatch m)
  refine hG_ ?_
  clear hG_ G_
  have F1 := fr_oct Fc ex1 hdL hgd
  clear Fc Nc
  simp only [List.nil_append] at N1
  (repeat' (first | ((with_reducible show wpAny _ _ (exec _ _) _ _ _); k_fold) | (with_reducible first | refine Jq0 ?_ | refine Jq1 ?_ | refine Jq2 ?_ | refine Jq3 ?_ | refine Jq4 ?_) | (k_unfold; (try dsimp only)) | (k_end; wrow_close) | walk1 | (dsimp only; walk1) | (leave1; walk_say "STEP leave1"; try dsimp only) | fail "no step"))
  · rename (r1 = 1) => hform
    rename Fr _ _ _ _ => Fc
    rename News _ _ _ _ => Nc
    unfold Hold
    refine row_spec (x := x) (dx := dx) (G.inside B FR Fc rfl rfl) (by simp only [depth_deeper]; (first | exact q154 (by assumption) | omega)) (by simp only [units_deeper]; (first | exact q155 (by assumption) | omega)) (.inside B ⟨(Nc (x, _) (by fail "JMEM")).1, _, _, _, _, _, _, (Nc (dx, _) (by fail "JMEM")).1⟩ hbx hbd hdf lt hdL) hks (by (first | exact q156 (by assumption) | omega)) (by (first | exact q157 (by assumption) (by assumption) | omega)) (by (first | exact q158 (by assumption) (by assumption) | omega)) (fun e z h' tk' hbad fly => ?_) fun D h3 tk3 ps hgood ex3 P => ?_
    · try dsimp only
      exact pass_fly (S := []) (S' := [dx]) (E := fun e s'' => E e s'') hL (ext_of hsub Fc) B FR Fc (fun _ m => nomatch m) (fun b hb o q => by rw [List.mem_singleton.mp hb, s1 dx ndx] at q; cases q) (fun b hb => List.mem_singleton.mp hb ▸ ⟨hdL, hdf⟩) rfl rfl fly fun h'' fl => exc e _ h'' _ (.inr (.inl ⟨hle1, hr1.symm.trans hform, hbad⟩)) fl
    have F3 := fr_oct Fc ex3 hdL hgd
    have N3 : News g L' h3 [] := fun _ hp => nomatch hp
    clear Fc Nc
    (repeat' (first | ((with_reducible show wpAny _ _ (exec _ _) _ _ _); k_fold) | (with_reducible first | refine Jq0 ?_ | refine Jq1 ?_ | refine Jq2 ?_ | refine Jq3 ?_ | refine Jq4 ?_) | (k_unfold; (try dsimp only)) | (k_end; wrow_close) | walk1 | (dsimp only; walk1) | (leave1; walk_say "STEP leave1"; try dsimp only) | fail "no step"))
    unfold Hold
    rename Fr _ _ _ _ => Fd
    have hri := row_rising hks hgood
    refine cdo_spec (G.inside B FR Fd rfl rfl) (by simp only [depth_deeper]; (first | exact q154 (by assumption) | omega)) (by simp only [units_deeper]; (first | exact q155 (by assumption) | omega)) P hri.1 hri.2 fun y dy d h4 tk4 ex4 C Tb ny ndy nd => ?_
    try dsimp only
    have up : ∀ b o, s.heap.get? b = some o → h3.get? b = some o := fun b o q => Fd.keep _ _ (hsub _ _ q fun m => nomatch m)
    have dn : ∀ b, h3.get? b = none → s.heap.get? b = none := fun b q => by
      cases z : s.heap.get? b with
      | none => rfl
      | some o => have := up _ _ z; rw [q] at this; cases this
    exact ret y dy d h4 tk4 ps (⟨hle1, .inl ⟨hr1.symm.trans hform, hgood⟩⟩) (fun b o q _ => ex4 b o (up b o q) fun m => nomatch m) C Tb (dn _ ny) (dn _ ndy) (dn _ nd)
  · rename (r1 = 2) => hform
    rename Fr _ _ _ _ => Fc
    rename News _ _ _ _ => Nc
    unfold Hold
    refine span_spec (x := x) (dx := dx) (G.inside B FR Fc rfl rfl) (by simp only [depth_deeper]; (first | exact q154 (by assumption) | omega)) (by simp only [units_deeper]; (first | exact q155 (by assumption) | omega)) (.inside B ⟨(Nc (x, _) (by fail "JMEM")).1, _, _, _, _, _, _, (Nc (dx, _) (by fail "JMEM")).1⟩ hbx hbd hdf lt hdL) hks (by (first | exact q156 (by assumption) | omega)) (by (first | exact q157 (by assumption) (by assumption) | omega)) (by (first | exact q158 (by assumption) (by assumption) | omega)) (fun e z h' tk' hbad fly => ?_) fun D h3 tk3 ps hgood ex3 P => ?_
    · try dsimp only
      exact pass_fly (S := []) (S' := [dx]) (E := fun e s'' => E e s'') hL (ext_of hsub Fc) B FR Fc (fun _ m => nomatch m) (fun b hb o q => by rw [List.mem_singleton.mp hb, s1 dx ndx] at q; cases q) (fun b hb => List.mem_singleton.mp hb ▸ ⟨hdL, hdf⟩) rfl rfl fly fun h'' fl => exc e _ h'' _ (.inr (.inr (.inl ⟨hle1, hr1.symm.trans hform, hbad⟩))) fl
    have F3 := fr_oct Fc ex3 hdL hgd
    have N3 : News g L' h3 [] := fun _ hp => nomatch hp
    clear Fc Nc
    (repeat' (first | ((with_reducible show wpAny _ _ (exec _ _) _ _ _); k_fold) | (with_reducible first | refine Jq0 ?_ | refine Jq1 ?_ | refine Jq2 ?_ | refine Jq3 ?_ | refine Jq4 ?_) | (k_unfold; (try dsimp only)) | (k_end; wrow_close) | walk1 | (dsimp only; walk1) | (leave1; walk_say "STEP leave1"; try dsimp only) | fail "no step"))
    unfold Hold
    rename Fr _ _ _ _ => Fd
    have hri := span_rising hks hgood
    refine cdo_spec (G.inside B FR Fd rfl rfl) (by simp only [depth_deeper]; (first | exact q154 (by assumption) | omega)) (by simp only [units_deeper]; (first | exact q155 (by assumption) | omega)) P hri.1 hri.2 fun y dy d h4 tk4 ex4 C Tb ny ndy nd => ?_
    try dsimp only
    have up : ∀ b o, s.heap.get? b = some o → h3.get? b = some o := fun b o q => Fd.keep _ _ (hsub _ _ q fun m => nomatch m)
    have dn : ∀ b, h3.get? b = none → s.heap.get? b = none := fun b q => by
      cases z : s.heap.get? b with
      | none => rfl
      | some o => have := up _ _ z; rw [q] at this; cases this
    exact ret y dy d h4 tk4 ps (⟨hle1, .inr ⟨hr1.symm.trans hform, hgood⟩⟩) (fun b o q _ => ex4 b o (up b o q) fun m => nomatch m) C Tb (dn _ ny) (dn _ ndy) (dn _ nd)
  · rename (r1 ≠ 1) => hf1
    rename (r1 ≠ 2) => hf2
    rename Fr _ _ _ _ => Fc
    rename News _ _ _ _ => Nc
    unfold Hold
    refine raise_own G.K G.hand ?_
    (repeat' (first | ((with_reducible show wpAny _ _ (exec _ _) _ _ _); k_fold) | (with_reducible first | refine Jq0 ?_ | refine Jq1 ?_ | refine Jq2 ?_ | refine Jq3 ?_ | refine Jq4 ?_) | (k_unfold; (try dsimp only)) | (k_end; wrow_close) | walk1 | (dsimp only; walk1) | (leave1; walk_say "STEP leave1"; try dsimp only) | fail "no step"))
    exact raise_call G (by (first | exact q159 (by assumption) | omega)) (by (first | exact q160 (by assumption) | omega)) hL (ext_of hsub Fc) B FR Fc (fun _ m => nomatch m) rfl rfl fun e h' tk fly => exc e _ h' tk (.inr (.inr (.inr ⟨hle1, fun q => hf1 (hr1.trans q), fun q => hf2 (hr1.trans q), rfl⟩))) fly
end
section
open PyProof.Rows.LCg PyProof.V


theorem size_two {a b : Int} (h : a ≤ b + 1) : Builtin.Range.rangeSize a b 2 = (((b + 1 - a) / 2).toNat : Int) := by
  unfold Builtin.Range.rangeSize
  by_cases q : a < b
  · simp only [q, if_true, show (2 : Int) > 0 from by decide]
    (first | exact q169 (by assumption) | omega)
  · simp only [q, if_false, if_true, show (2 : Int) > 0 from by decide]
    (first | exact q170 (by assumption) (by assumption) | omega)
theorem small_two {a b : Int} (h0 : 0 ≤ a) (h1 : a ≤ 1000) (h2 : a ≤ b + 1) (h3 : b ≤ 1000) : Builtin.Range.small a b 2 = true := by
  unfold Builtin.Range.small
  rw [size_two h2]
  simp only [Builtin.Range.rangeFitsLong, Bool.and_eq_true, Bool.or_eq_true, decide_eq_true_eq, beq_iff_eq, show (2 : Int) > 0 by decide, if_true]
  have q : (((b + 1 - a) / 2).toNat : Int) ≤ 1001 := by (first | exact q167 (by assumption) (by assumption) (by assumption) | omega)
  (first | exact q168 (by assumption) (by assumption) (by assumption) (by assumption) (by assumption) | omega)
section
variable {prog : Program} {w : World} {A : Around} {E : Value → Shared → Prop} {s : Shared} {env : Env} {h₀ : Heap} {x : Str} {body : List Stmt} {Q : Flow → Shared → Prop} {m₀ : Str → Option Value} {news : List (Addr × Obj)}
theorem range_loop2 {r : Addr} {a₀ b₀ : Int} {t₀ u₀ v₀ : Tok} {n : Nat} (ys : List Str) (J : Nat → (Str → Option Value) → List (Addr × Obj) → Prop)
    (hh : A.handled = none) (hr : IsRange s.heap r a₀ b₀ 2 t₀ u₀ v₀) (hsmall : Builtin.Range.small a₀ b₀ 2 = true) (hn : Builtin.Range.rangeSize a₀ b₀ 2 = (n : Int)) (F : Fr h₀ env.locals s.heap m₀) (N : News h₀ env.locals s.heap news) (hR : J 0 m₀ news)
    (turn : ∀ (i : Nat) t m₁ nx h tk own, i < n → OwnOff own (news.map (·.1)) → nx.map (·.1) = news.map (·.1) → J i m₁ nx → Mine.Keeps x ys m₀ m₁ → Fr h₀ env.locals h (fun y => if y = x then some (.int (a₀ + i * 2) t) else m₁ y) → News h₀ env.locals h (nx ++ own) →
      wpAny (model prog w) A (execs body env) (InvPostN h₀ env.locals (fun m nx => J (i + 1) m nx ∧ Mine.Keeps x ys m₀ m) own (news.map (·.1)) { s with heap := h, toks := tk } Q) E { s with heap := h, toks := tk })
    (done : ∀ m₁ nx h tk, J n m₁ nx → Mine.Keeps x ys m₀ m₁ → Fr h₀ env.locals h m₁ → News h₀ env.locals h nx → Q .next { s with heap := h, toks := tk }) :
    wpAny (model prog w) A (pyIter (.ref r)) (fun it s₂ => LoopAtV prog w A h₀ env x body Q E it s₂) E s := by
  refine wpAny_pyIter_range hr hsmall ?_
  have W : Walks prog w A s.heap.objs.size [s.heap.objs.size] [s.heap.objs.size] n (fun i v => i < n ∧ ∃ t, v = .int (a₀ + i * 2) t)
      (fun i h => IsRangeIter h s.heap.objs.size (a₀ + (i : Nat) * 2) ((n : Int) - (i : Nat)) 2) := (Walks.range hh _ a₀ 2 n).bound
  refine loop_invN (fun i m nx => J i m nx ∧ Mine.Keeps x ys m₀ m) W ?_ ?_ ?_ ?_ (by show IsRangeIter _ _ _ _ _; rw [hn]; simpa using Heap.get?_push_size _ rfl) (F.push _) (fun p hp => ⟨Heap.get?_push_of_some _ (N p hp).1, (N p hp).2⟩) ⟨hR, Mine.Keeps.refl _ _ _⟩ ?_ ?_
  · intro hm
    exact absurd F.ns.lt ((List.mem_singleton.mp hm) ▸ Nat.lt_irrefl _)
  · intro b hb
    rw [List.mem_singleton.mp hb]
    exact next_is_new F
  · intro p hp hI
    exact absurd (Heap.lt_size (N p hp).1) ((List.mem_singleton.mp hI) ▸ Nat.lt_irrefl _)
  · intro p hp hI
    exact absurd (Heap.lt_size (N p hp).1) ((List.mem_singleton.mp hI) ▸ Nat.lt_irrefl _)
  · intro i v m₁ nx h tk own hi z0_ hadr ho hr' F' N'
    refine via fun G_ hG_ => ?_
    obtain ⟨_, u, rfl⟩ := z0_
    refine hG_ ?_
    clear hG_ G_
    exact turn i u m₁ nx h tk own hi ho hadr hr'.1 hr'.2 F' N'
  · intro m₁ nx h tk hJ F' N'
    exact done m₁ nx h tk hJ.1 hJ.2 F' N'
end
theorem ints_snoc {vs : List Value} {ns : List Int} (h : IntsAre vs ns) (k : Int) (t : Tok) : IntsAre (vs ++ [.int k t]) (ns ++ [k]) := by
  induction h with
  | nil => exact .cons _ _ .nil
  | cons a b _ ih => exact .cons _ _ ih
noncomputable def nums (ks : List Int) (a : Int) (n : Nat) : List Int := (List.range n).map fun (i : Nat) => w2 ks (a + 2 * i)
theorem nums_succ (ks : List Int) (a : Int) (i : Nat) : nums ks a (i + 1) = nums ks a i ++ [w2 ks (a + 2 * i)] := by
  unfold nums
  rw [List.range_succ, List.map_append]
  rfl
theorem inv_one {h₀ h' : Heap} {L nL : Addr} {J : (Str → Option Value) → List (Addr × Obj) → Prop} {own : List (Addr × Obj)} {o o₀ : Obj} {s₁ : Shared} {tk : Nat} {m' : Str → Option Value} (F : Fr h₀ L h' m') (N : News h₀ L h' ((nL, o) :: own)) (hJ : J m' [(nL, o)]) :
    InvEndN h₀ L J own (List.map (·.1) [(nL, o₀)]) s₁ { s₁ with heap := h', toks := tk } :=
  ⟨h', tk, m', _, [(nL, o)], rfl, F, N, fun p hp => by rw [List.mem_singleton.mp hp]; exact .head _, fun p hp => .tail _ hp, rfl, hJ⟩
theorem nums_len (ks : List Int) (a : Int) (n : Nat) : (nums ks a n).length = n := by simp [nums]
theorem nums_at {ks : List Int} {a : Int} {n : Nat} {i : Nat} (h : i < n) : (nums ks a n).getD i 0 = w2 ks (a + 2 * i) := by
  simp [nums, List.getD, h]
theorem rowPairs_fresh {ks : List Int} {a : Int} {i : Nat} : ∀ p ∈ rowPairs ks a i, p.1 ≠ w2 ks a + i := fun p hp => by
  refine via fun G_ hG_ => ?_
  obtain ⟨j, hj, rfl⟩ := List.mem_map.mp hp
  refine hG_ ?_
  clear hG_ G_
  have := List.mem_range.mp hj
  show w2 ks a + (j : Int) ≠ _
  (first | exact q172 (by assumption) | omega)
theorem Keeps.map3 {x a b c : Str} {m₀ m₁ : Str → Option Value} {v : Value} (h : Mine.Keeps x [a, b, c] m₀ m₁) :
    (fun z => if z = x then some v else m₁ z) = fun z => if z = x then some v else if z = a then m₁ a else if z = b then m₁ b else if z = c then m₁ c else m₀ z := by
  funext z
  by_cases h0 : z = x
  · subst h0; simp
  by_cases h1 : z = a
  · subst h1; simp [h0]
  by_cases h2 : z = b
  · subst h2; simp [h0, h1]
  by_cases h3 : z = c
  · subst h3; simp [h0, h1, h2]
  simp only [h0, h1, h2, h3, if_false]
  exact h z h0 (by simp [h1, h2, h3])
theorem Keeps.done3 {x a b c : Str} {m₀ m₁ : Str → Option Value} (h : Mine.Keeps x [a, b, c] m₀ m₁) :
    m₁ = fun z => if z = x then m₁ x else if z = a then m₁ a else if z = b then m₁ b else if z = c then m₁ c else m₀ z := by
  funext z
  by_cases h0 : z = x
  · subst h0; simp
  by_cases h1 : z = a
  · subst h1; simp [h0]
  by_cases h2 : z = b
  · subst h2; simp [h0, h1]
  by_cases h3 : z = c
  · subst h3; simp [h0, h1, h2]
  simp only [h0, h1, h2, h3, if_false]
  exact h z h0 (by simp [h1, h2, h3])
theorem inv_four {h₀ h' : Heap} {L : Addr} {J : (Str → Option Value) → List (Addr × Obj) → Prop} {own : List (Addr × Obj)} {d e1 e2 e3 : Addr} {o o₀ p1 p2 p3 : Obj} {s₁ : Shared} {tk : Nat} {m' : Str → Option Value}
    (F : Fr h₀ L h' m') (N : News h₀ L h' ((d, o) :: (e1, p1) :: (e2, p2) :: (e3, p3) :: own)) (hJ : J m' [(d, o), (e1, p1), (e2, p2), (e3, p3)]) :
    InvEndN h₀ L J own (List.map (·.1) [(d, o₀), (e1, p1), (e2, p2), (e3, p3)]) s₁ { s₁ with heap := h', toks := tk } :=
  ⟨h', tk, m', _, [(d, o), (e1, p1), (e2, p2), (e3, p3)], rfl, F, N, fun p hp => by simp only [List.mem_cons, List.not_mem_nil, or_false] at hp ⊢; rcases hp with hp | hp | hp | hp <;> simp only [hp, true_or, or_true],
    fun p hp => .tail _ (.tail _ (.tail _ (.tail _ hp))), rfl, hJ⟩
theorem inv_fourO {h₀ h' : Heap} {L : Addr} {J : (Str → Option Value) → List (Addr × Obj) → Prop} {own own₀ : List (Addr × Obj)} {d e1 e2 e3 : Addr} {o o₀ p1 p2 p3 : Obj} {s₁ : Shared} {tk : Nat} {m' : Str → Option Value}
    (F : Fr h₀ L h' m') (N : News h₀ L h' ((d, o) :: (e1, p1) :: (e2, p2) :: (e3, p3) :: (own₀ ++ own))) (hJ : J m' ((d, o) :: (e1, p1) :: (e2, p2) :: (e3, p3) :: own₀)) :
    InvEndN h₀ L J own (List.map (·.1) ((d, o₀) :: (e1, p1) :: (e2, p2) :: (e3, p3) :: own₀)) s₁ { s₁ with heap := h', toks := tk } :=
  ⟨h', tk, m', _, (d, o) :: (e1, p1) :: (e2, p2) :: (e3, p3) :: own₀, rfl, F, N, fun p hp => by simp only [List.mem_cons, List.mem_append] at hp ⊢; rcases hp with hp | hp | hp | hp | hp <;> simp only [hp, true_or, or_true],
    fun p hp => .tail _ (.tail _ (.tail _ (.tail _ (List.mem_append_right _ hp)))), rfl, hJ⟩
theorem span_fresh {arr : Array UInt8} {ks : List Int} {a : Int} (hks : KBw.bInts arr = ks) {i j : Nat} (ok : SpanOk ks a i) (hf : sLeast ks a i ≤ sFirst ks a i) : ∀ p ∈ spanPairs ks a i ++ onePairs (sFirst ks a i) (sNum ks a i) j, p.1 ≠ sFirst ks a i + j := fun p hp => by
  rcases List.mem_append.mp hp with hp | hp
  · have := (span_mem hks i ok).2 p hp
    (first | exact q171 (by assumption) (by assumption) | omega)
  · refine via fun G_ hG_ => ?_
    obtain ⟨k, hk, rfl⟩ := List.mem_map.mp hp
    refine hG_ ?_
    clear hG_ G_
    have := List.mem_range.mp hk
    show sFirst ks a i + (k : Int) ≠ _
    (first | exact q172 (by assumption) | omega)
@[reducible] noncomputable def DueJ (w : World) (ks : List Int) (a : Int) (d e nL f : Addr) (oe of_ oL : Obj) (i : Nat) (m : Str → Option Value) (nx : List (Addr × Obj)) : Prop :=
  ∃ oD fr tf, nx = [(d, oD), (e, oe), (f, of_), (nL, oL)] ∧ IntObj w oD (spanPairs ks (a + 2) i) ∧ SpanOk ks (a + 2) i ∧ m (Str.ofString "free") = some (.int fr tf) ∧ fr = sLeast ks (a + 2) i
theorem due_spec {w : World} {mean : ExcName → Option Value} {mg mb : Str → Option Value} {base : Heap} {A : Around} {E : Value → Shared → Prop} {s : Shared} {arr : Array UInt8} {a : Int} {ks : List Int} {t ta : Tok} {Q : Value → Shared → Prop} (G : Gnd w mean mg mb base A s.heap) (hroom : A.depth ≤ 550) (hun : A.units ≤ 6500)
    (hks : KBw.bInts arr = ks) (hsz : ks.length ≤ 900) (ha : 0 ≤ a) (ha2 : a ≤ ks.length)
    (bad : ∀ z tz h' tk, ReadBad ks a z → Ext [] s.heap h' → Q (.int z tz) { s with heap := h', toks := tk })
    (good : ∀ d h' tk ps, ReadGood ks a ps → Ext [] s.heap h' → TabAt (intKind PySem.Challenge.rw_pb0173_01.row.prog w) PyData.int h' d (intD ps) → s.heap.get? d = none → Q (.ref d) { s with heap := h', toks := tk }) :
    wpAny (model PySem.Challenge.rw_pb0173_01.row.prog w) A (call (.ref 262) [.bytes arr t, .int a ta]) Q E s := by
  refine wpAny_call ?_
  k_dflt (refine' enter (news := []) G ?hn ?ho ?hcd ?hroom ?hbind ?hloc ?_ ?q1 ?q2 ?q3 ?q4; (case ho => k_is); (case hcd => k_is); (case hroom => first | (simp only [recursionLimit]; (first | exact q149 (by assumption) | omega)) | omega | assumption); (case hbind => exact BindsTo.of_eq rfl); (case hloc => exact locs rfl); (case q1 => rfl); (case q2 => rfl); (case q3 => rfl); (case q4 => decide))
  case hn => exact fun _ hp => nomatch hp
  intro g L' h₁ l hsub hsup hL F N B X T FR
  try dsimp only
  (repeat' (first | ((with_reducible show wpAny _ _ (exec _ _) _ _ _); k_fold) | (with_reducible first | refine Jq0 ?_ | refine Jq1 ?_ | refine Jq2 ?_ | refine Jq3 ?_ | refine Jq4 ?_) | (k_unfold; (try dsimp only)) | (k_end; wrow_close) | walk1 | (dsimp only; walk1) | (leave1; walk_say "STEP leave1"; try dsimp only) | fail "no step"))
  unfold Hold
  rename Fr _ _ _ _ => Fa
  rename_i nL hA lT hB N0
  refine For_invVF Fa (by rfl) (by rfl) ?_
  (repeat' (first | ((with_reducible show wpAny _ _ (exec _ _) _ _ _); k_fold) | (with_reducible first | refine Jq0 ?_ | refine Jq1 ?_ | refine Jq2 ?_ | refine Jq3 ?_ | refine Jq4 ?_) | (k_unfold; (try dsimp only)) | (k_end; wrow_close) | walk1 | (dsimp only; walk1) | (leave1; walk_say "STEP leave1"; try dsimp only) | fail "no step"))
  rename Fr _ _ _ _ => Fc
  rename News _ _ _ _ => Nc
  rename IsRange _ _ _ _ _ _ _ _ => Rc
  have e1 : (ks.length : Int) - 1 + 1 - a = ks.length - a := by (first | exact q173 | omega)
  refine range_loop2 [] (fun i m nx => ∃ vs c, nx = [(nL, listOf (List.toArray vs) c)] ∧ IntsAre vs (nums ks a i)) G.hand Rc (small_two ha (by (first | exact q174 (by assumption) (by assumption) | omega)) (by (first | exact q175 (by assumption) | omega)) (by (first | exact q176 (by assumption) | omega))) (n := ((ks.length - a) / 2).toNat) (by rw [size_two (by (first | exact q175 (by assumption) | omega)), e1]) Fc Nc ⟨[], _, rfl, .nil⟩ ?_ ?_
  · intro i tv m₁ _ h tk own hi hoff hadr z0_ hkp F N
    refine via fun G_ hG_ => ?_
    obtain ⟨vs, c, rfl, hI⟩ := z0_
    refine hG_ ?_
    clear hG_ G_
    clear Fc Nc Rc
    rw [hkp.map0] at F
    (repeat' (first | ((with_reducible show wpAny _ _ (exec _ _) _ _ _); k_fold) | (with_reducible first | refine Jq0 ?_ | refine Jq1 ?_ | refine Jq2 ?_ | refine Jq3 ?_ | refine Jq4 ?_) | (k_unfold; (try dsimp only)) | (k_end; wrow_close) | walk1 | (dsimp only; walk1) | (leave1; walk_say "STEP leave1"; try dsimp only) | fail "no step"))
    unfold Hold
    rename Fr _ _ _ _ => Fc
    rename News _ _ _ _ => Nc
    have hvl : vs.length = i := by rw [hI.length]; simp [nums]
    refine append_K (its := vs.toArray) (n := c) Fc Nc (.head fun p hp => (hoff p hp _ (.head _))) ?_ (by rw [PySem.sizeLine_eq]; show vs.length ≤ _; omega)
    clear Fc Nc
    intro h5 F5 N5
    (repeat' (first | ((with_reducible show wpAny _ _ (exec _ _) _ _ _); k_fold) | (with_reducible first | refine Jq0 ?_ | refine Jq1 ?_ | refine Jq2 ?_ | refine Jq3 ?_ | refine Jq4 ?_) | (k_unfold; (try dsimp only)) | (k_end; wrow_close) | walk1 | (dsimp only; walk1) | (leave1; walk_say "STEP leave1"; try dsimp only) | fail "no step"))
    rw [List.push_toArray] at N5
    refine inv_one F5 N5 ⟨⟨_, _, rfl, ?_⟩, ?_⟩
    · rw [nums_succ]
      have e : w2 ks (a + 2 * i) = ks.getD (a + (i : Int) * 2).toNat 0 * 256 + ks.getD (a + (i : Int) * 2 + 1).toNat 0 := by
        unfold w2
        rw [show (a + 2 * (i : Int)).toNat = (a + (i : Int) * 2).toNat from by (first | exact q177 (by assumption) | omega), show (a + (i : Int) * 2 + 1).toNat = (a + (i : Int) * 2).toNat + 1 from by (first | exact q178 (by assumption) (by assumption) (by assumption) (by assumption) | omega)]
      rw [e]
      exact ints_snoc hI _ _
    · ((intro zK hK1 hK2; simp only [List.mem_cons, List.not_mem_nil, or_false, not_or] at hK2; simp only [hK1, hK2, if_false, ↓reduceIte]))
  · intro m₁ _ h tk z0_ hkp F N
    refine via fun G_ hG_ => ?_
    obtain ⟨vs, c, rfl, hI⟩ := z0_
    refine hG_ ?_
    clear hG_ G_
    clear Fc Nc Rc
    rw [hkp.done0] at F
    generalize hn : ((ks.length - a) / 2).toNat = n at hI
    have hnl := nums_len ks a n
    have hat : ∀ i : Nat, i < n → (nums ks a n).getD i 0 = w2 ks (a + 2 * i) := fun i h => nums_at h
    generalize hns : nums ks a n = ns at hI hnl hat
    (repeat' (first | ((with_reducible show wpAny _ _ (exec _ _) _ _ _); k_fold) | (with_reducible first | refine Jq0 ?_ | refine Jq1 ?_ | refine Jq2 ?_ | refine Jq3 ?_ | refine Jq4 ?_) | (k_unfold; (try dsimp only)) | (k_end; wrow_close) | walk1 | (dsimp only; walk1) | (leave1; walk_say "STEP leave1"; try dsimp only) | fail "no step"))
    · rename (decide (ns = []) = true) => q
      have q : ns = [] := of_decide_eq_true q
      rename Fr _ _ _ _ => Fe
      try dsimp only
      refine bad a _ _ _ (.inl ⟨?_, rfl⟩) (ext_of hsub Fe)
      rw [q] at hnl
      simp at hnl
      (first | exact q180 (by assumption) (by assumption) | omega)
    rename (decide (ns = []) = false) => q
    have q : 0 < ns.length := by
      cases ns with
      | nil => simp at q
      | cons _ _ => simp
    have hlo : a + 2 * (n : Int) ≤ ks.length := by (first | exact q181 (by assumption) (by assumption) (by assumption) | omega)
    have hhi : (ks.length : Int) < a + 2 * n + 2 := by (first | exact q182 (by assumption) (by assumption) (by assumption) | omega)
    have h0 : ns.getD (Int.toNat 0) 0 = w2 ks a := by rw [show Int.toNat 0 = 0 from rfl, hat 0 (by (first | exact q183 (by assumption) (by assumption) | omega))]; simp
    have h1 : 1 < n → ns.getD (Int.toNat 1) 0 = w2 ks (a + 2) := fun q => by rw [show Int.toNat 1 = 1 from rfl, hat 1 q]; rfl
    have h2 : 2 < n → ns.getD (Int.toNat 2) 0 = w2 ks (a + 2 + 2) := fun q => by rw [show Int.toNat 2 = 2 from rfl, hat 2 q, show a + 2 * ((2 : Nat) : Int) = a + 2 + 2 from by (first | exact q184 | omega)]
    (repeat' (first | ((with_reducible show wpAny _ _ (exec _ _) _ _ _); k_fold) | (with_reducible first | refine Jq0 ?_ | refine Jq1 ?_ | refine Jq2 ?_ | refine Jq3 ?_ | refine Jq4 ?_) | (k_unfold; (try dsimp only)) | (k_end; wrow_close) | walk1 | (dsimp only; walk1) | (leave1; walk_say "STEP leave1"; try dsimp only) | fail "no step"))
    all_goals (try (rename (List.length vs = List.length ns) => hl0; clear hl0))
    · rename (ns.getD (Int.toNat 0) 0 = 1) => q1
      rename ((ns.length : Int) < 3) => q2
      rename Fr _ _ _ _ => Fe
      refine bad _ _ _ _ (.inr (.inl ⟨by (first | exact q185 (by assumption) (by assumption) (by assumption) (by assumption) (by assumption) (by assumption) | omega), h0.symm.trans q1, ?_⟩)) (ext_of hsub Fe)
      by_cases q3 : n = 1
      · exact .inl ⟨by omega, by (first | exact q187 (by assumption) (by assumption) | omega)⟩
      · exact .inr (.inl ⟨by (first | exact q188 (by assumption) (by assumption) (by assumption) (by assumption) (by assumption) (by assumption) (by assumption) | omega), by (first | exact q189 (by assumption) (by assumption) (by assumption) (by assumption) (by assumption) | omega), by (first | exact q190 (by assumption) (by assumption) (by assumption) (by assumption) | omega)⟩)
    · rename (ns.getD (Int.toNat 0) 0 = 1) => q1
      rename (¬ (ns.length : Int) < 3) => q2
      rename (65536 < _) => q3
      rename Fr _ _ _ _ => Fe
      try dsimp only
      rw [h1 (by (first | exact q194 (by assumption) (by assumption) | omega)), h2 (by (first | exact q193 (by assumption) (by assumption) | omega))] at q3
      exact bad _ _ _ _ (.inr (.inl ⟨by (first | exact q191 (by assumption) (by assumption) (by assumption) (by assumption) (by assumption) | omega), h0.symm.trans q1, .inr (.inr (.inl ⟨by (first | exact q192 (by assumption) (by assumption) (by assumption) (by assumption) (by assumption) | omega), q3, by (first | exact q195 | omega)⟩))⟩)) (ext_of hsub Fe)
    · rename (ns.getD (Int.toNat 0) 0 = 1) => q1
      rename (¬ (ns.length : Int) < 3) => q2
      rename (¬ 65536 < _) => q3
      rename ((ns.length : Int) - 3 < _) => q4
      rename Fr _ _ _ _ => Fe
      rw [h1 (by (first | exact q194 (by assumption) (by assumption) | omega)), h2 (by (first | exact q193 (by assumption) (by assumption) | omega))] at q3
      rw [h2 (by (first | exact q193 (by assumption) (by assumption) | omega))] at q4
      exact bad _ _ _ _ (.inr (.inl ⟨by (first | exact q191 (by assumption) (by assumption) (by assumption) (by assumption) (by assumption) | omega), h0.symm.trans q1, .inr (.inr (.inr ⟨by (first | exact q192 (by assumption) (by assumption) (by assumption) (by assumption) (by assumption) | omega), by (first | exact q196 (by assumption) | omega), n - 3, by (first | exact q197 (by assumption) (by assumption) (by assumption) | omega), by (first | exact q198 (by assumption) (by assumption) (by assumption) (by assumption) | omega), by (first | exact q199 (by assumption) (by assumption) (by assumption) (by assumption) | omega), by (first | exact q200 (by assumption) (by assumption) | omega)⟩))⟩)) (ext_of hsub Fe)
    · rename (ns.getD (Int.toNat 0) 0 = 1) => q1
      rename (¬ (ns.length : Int) < 3) => q2
      rename (¬ 65536 < _) => q3
      rename (¬ (ns.length : Int) - 3 < _) => q4
      rename ((_ == sysModules) = false) => loD
      rename (Obj.IsDictOf (intKind _ _) _ []) => hi0
      rename (FlatPairs PyData.int [] []) => fi0
      rename (_ ∧ _ ∧ nL < _) => ltd
      rw [h1 (by (first | exact q194 (by assumption) (by assumption) | omega)), h2 (by (first | exact q193 (by assumption) (by assumption) | omega))] at q3
      rw [h2 (by (first | exact q193 (by assumption) (by assumption) | omega))] at q4
      have b1 := w2_bd hks (a + 2)
      have b2 := w2_bd hks (a + 2 + 2)
      unfold Hold
      rename Fr _ _ _ _ => Fa
      refine For_invVF Fa (by rfl) (by rfl) ?_
      (repeat' (first | ((with_reducible show wpAny _ _ (exec _ _) _ _ _); k_fold) | (with_reducible first | refine Jq0 ?_ | refine Jq1 ?_ | refine Jq2 ?_ | refine Jq3 ?_ | refine Jq4 ?_) | (k_unfold; (try dsimp only)) | (k_end; wrow_close) | walk1 | (dsimp only; walk1) | (leave1; walk_say "STEP leave1"; try dsimp only) | fail "no step"))
      rename Fr _ _ _ _ => Fc
      rename News _ _ _ _ => Nc
      rename IsRange _ _ _ _ _ _ _ _ => Rc
      rw [h2 (by (first | exact q193 (by assumption) (by assumption) | omega))] at Rc
      refine range_loop [] (fun i m nx => ∃ oD, nx = [(_, oD), (_, _), (_, _), (nL, listOf (List.toArray vs) c)] ∧ IntObj w oD (rowPairs ks (a + 2) i)) G.hand Rc (small_one (by decide) (by decide) (by (first | exact q201 (by assumption) | omega)) (by (first | exact q202 (by assumption) | omega))) (n := (w2 ks (a + 2 + 2)).toNat) (by simpa only [Int.sub_zero] using rangeSize_nat 0 (w2 ks (a + 2 + 2))) Fc Nc ⟨_, rfl, _, hi0, fi0⟩ ?_ ?_
      · intro i tv m₁ _ h tk own hi hoff hadr z0_ hkp F N
        refine via fun G_ hG_ => ?_
        obtain ⟨oD, rfl, kvs, hkv, hfl⟩ := z0_
        refine hG_ ?_
        clear hG_ G_
        clear Fc Nc Rc
        rw [hkp.map0] at F
        (repeat' (first | ((with_reducible show wpAny _ _ (exec _ _) _ _ _); k_fold) | (with_reducible first | refine Jq0 ?_ | refine Jq1 ?_ | refine Jq2 ?_ | refine Jq3 ?_ | refine Jq4 ?_) | (k_unfold; (try dsimp only)) | (k_end; wrow_close) | walk1 | (dsimp only; walk1) | (leave1; walk_say "STEP leave1"; try dsimp only) | fail "no step"))
        have ek : ns.getD (Int.toNat 1) 0 + (0 + (i : Int)) = w2 ks (a + 2) + i := by rw [h1 (by (first | exact q194 (by assumption) (by assumption) | omega))]; (first | exact q203 | omega)
        have ev : ns.getD (Int.toNat (3 + (0 + (i : Int)))) 0 = w2 ks (a + 2 + 4 + 2 * i) := by
          rw [show Int.toNat (3 + (0 + (i : Int))) = 3 + i from by (first | exact q204 | omega), hat (3 + i) (by (first | exact q205 (by assumption) (by assumption) (by assumption) | omega)), show a + 2 * ((3 + i : Nat) : Int) = a + 2 + 4 + 2 * (i : Int) from by (first | exact q206 | omega)]
        have hlD : (intD (rowPairs ks (a + 2) i)).length ≤ sizeLine := by
          rw [PySem.sizeLine_eq]
          simp only [intD, rowPairs, List.length_map, List.length_range]
          omega
        refine setItem_K same_int (intKind_is _ _ _ _) (Flat.int _ _) F N (.head fun q hq => ?_) hkv hfl ?_ hlD
        · rcases List.mem_cons.mp hq with rfl | hq
          · exact Nat.ne_of_lt ltd.1
          rcases List.mem_cons.mp hq with rfl | hq
          · exact Nat.ne_of_lt ltd.2.1
          rcases List.mem_cons.mp hq with rfl | hq
          · exact Nat.ne_of_lt ltd.2.2
          · exact hoff q hq _ (.head _)
        clear F N
        intro h3 o3 F N hk3 hf3
        rw [ek, ev, intD_putD rowPairs_fresh, ← rowPairs_succ] at hf3
        rw [ek, ev] at hk3
        (repeat' (first | ((with_reducible show wpAny _ _ (exec _ _) _ _ _); k_fold) | (with_reducible first | refine Jq0 ?_ | refine Jq1 ?_ | refine Jq2 ?_ | refine Jq3 ?_ | refine Jq4 ?_) | (k_unfold; (try dsimp only)) | (k_end; wrow_close) | walk1 | (dsimp only; walk1) | (leave1; walk_say "STEP leave1"; try dsimp only) | fail "no step"))
        refine inv_four F N ⟨⟨o3, rfl, _, hk3, hf3⟩, ?_⟩
        intro z hK1 hK2
        simp only [hK1, ↓reduceIte]
      · intro m₂ _ h tk z0_ hkp F N
        refine via fun G_ hG_ => ?_
        obtain ⟨oD, rfl, kvs, hkv, hfl⟩ := z0_
        refine hG_ ?_
        clear hG_ G_
        clear Fc Nc Rc
        rw [hkp.done0] at F
        (repeat' (first | ((with_reducible show wpAny _ _ (exec _ _) _ _ _); k_fold) | (with_reducible first | refine Jq0 ?_ | refine Jq1 ?_ | refine Jq2 ?_ | refine Jq3 ?_ | refine Jq4 ?_) | (k_unfold; (try dsimp only)) | (k_end; wrow_close) | walk1 | (dsimp only; walk1) | (leave1; walk_say "STEP leave1"; try dsimp only) | fail "no step"))
        try dsimp only
        refine good _ h tk _ ⟨by (first | exact q191 (by assumption) (by assumption) (by assumption) (by assumption) (by assumption) | omega), .inl ⟨h0.symm.trans q1, ⟨by omega, by (first | exact q196 (by assumption) | omega), rfl⟩⟩⟩ (ext_of hsub F) (TabAt.ofNews N (.head _) loD hkv hfl) ?_
        cases z : s.heap.get? _ with
        | none => rfl
        | some o =>
          have := (N _ (.head _)).2.2
          rw [hsub _ _ z fun m => nomatch m] at this
          cases this
    · rename (ns.getD (Int.toNat 0) 0 ≠ 1) => q1
      rename ((ns.length : Int) < 2) => q2
      rename (_ = true) => q3
      rename Fr _ _ _ _ => Fe
      have q4 : w2 ks a = 2 := by
        rw [← h0]
        simp only [List.any_cons, List.any_nil, Bool.or_false, Bool.or_eq_true, beq_iff_eq] at q3
        (first | exact q209 (by assumption) (by assumption) (by assumption) | omega)
      try dsimp only
      exact bad _ _ _ _ (.inr (.inr (.inl ⟨by (first | exact q210 (by assumption) (by assumption) (by assumption) (by assumption) (by assumption) (by assumption) | omega), q4, .inl ⟨by (first | exact q211 (by assumption) (by assumption) (by assumption) (by assumption) (by assumption) | omega), rfl⟩⟩))) (ext_of hsub Fe)
    · rename (ns.getD (Int.toNat 0) 0 ≠ 1) => q1
      rename (¬ (ns.length : Int) < 2) => q2
      rename (_ = true) => q3
      rename ((_ == sysModules) = false) => loD
      rename (Obj.IsDictOf (intKind _ _) _ []) => hi0
      rename (FlatPairs PyData.int [] []) => fi0
      rename (_ ∧ _ ∧ nL < _) => ltd
      have q4 : w2 ks a = 2 := by
        rw [← h0]
        simp only [List.any_cons, List.any_nil, Bool.or_false, Bool.or_eq_true, beq_iff_eq] at q3
        (first | exact q209 (by assumption) (by assumption) (by assumption) | omega)
      have b1 := w2_bd hks (a + 2)
      unfold Hold
      rename Fr _ _ _ _ => Fa
      refine For_invVF Fa (by rfl) (by rfl) ?_
      (repeat' (first | ((with_reducible show wpAny _ _ (exec _ _) _ _ _); k_fold) | (with_reducible first | refine Jq0 ?_ | refine Jq1 ?_ | refine Jq2 ?_ | refine Jq3 ?_ | refine Jq4 ?_) | (k_unfold; (try dsimp only)) | (k_end; wrow_close) | walk1 | (dsimp only; walk1) | (leave1; walk_say "STEP leave1"; try dsimp only) | fail "no step"))
      rename Fr _ _ _ _ => Fc
      rename News _ _ _ _ => Nc
      rename IsRange _ _ _ _ _ _ _ _ => Rc
      rw [h1 (by (first | exact q214 (by assumption) (by assumption) | omega))] at Rc
      have ha' : a + 2 + 2 ≤ ks.length := by omega
      have okc : ∀ i : Nat, i < (w2 ks (a + 2)).toNat → (i : Int) < w2 ks (a + 2) := fun i h => by (first | exact q213 (by assumption) (by assumption) | omega)
      refine range_loop [Str.ofString "field", Str.ofString "glyph", Str.ofString "free"] (DueJ w ks a _ _ nL _ _ _ (listOf (List.toArray vs) c)) G.hand Rc (small_one (by decide) (by decide) (by (first | exact q201 (by assumption) | omega)) (by (first | exact q202 (by assumption) | omega))) (n := (w2 ks (a + 2)).toNat) (by simpa only [Int.sub_zero] using rangeSize_nat 0 (w2 ks (a + 2))) Fc Nc ⟨_, _, _, rfl, ⟨_, hi0, fi0⟩, ⟨by (first | exact q215 (by assumption) | omega), fun j hj => absurd hj (Nat.not_lt_zero _)⟩, rfl, rfl⟩ ?_ ?_
      · intro i tv m₃ _ h tk own hi hoff hadr z0_ hkp F N
        refine via fun G_ hG_ => ?_
        obtain ⟨oD, fr, tf, rfl, ⟨kvs, hkv, hfl⟩, ok, hfm, hfr⟩ := z0_
        refine hG_ ?_
        clear hG_ G_
        clear Fc Nc Rc
        rw [hkp.map3, hfm] at F
        have ok1 := ok.1
        have hF : 2 + 3 * i < n → ns.getD (2 + 3 * (0 + (i : Int))).toNat 0 = sFirst ks (a + 2) i := fun q => by
          rw [show (2 + 3 * (0 + (i : Int))).toNat = 2 + 3 * i from by (first | exact q216 | omega), hat _ q]
          unfold sFirst
          rw [show a + 2 * ((2 + 3 * i : Nat) : Int) = a + 2 + 2 + 6 * (i : Int) from by (first | exact q217 | omega)]
        have hLs : 2 + 3 * i + 1 < n → ns.getD (2 + 3 * (0 + (i : Int)) + 1).toNat 0 = sLast ks (a + 2) i := fun q => by
          rw [show (2 + 3 * (0 + (i : Int)) + 1).toNat = 2 + 3 * i + 1 from by (first | exact q218 | omega), hat _ q]
          unfold sLast
          rw [show a + 2 * ((2 + 3 * i + 1 : Nat) : Int) = a + 2 + 2 + 6 * (i : Int) + 2 from by (first | exact q219 | omega)]
        have hNm : 2 + 3 * i + 2 < n → ns.getD (2 + 3 * (0 + (i : Int)) + 2).toNat 0 = sNum ks (a + 2) i := fun q => by
          rw [show (2 + 3 * (0 + (i : Int)) + 2).toNat = 2 + 3 * i + 2 from by (first | exact q220 | omega), hat _ q]
          unfold sNum
          rw [show a + 2 * ((2 + 3 * i + 2 : Nat) : Int) = a + 2 + 2 + 6 * (i : Int) + 4 from by (first | exact q221 | omega)]
        (repeat' (first | ((with_reducible show wpAny _ _ (exec _ _) _ _ _); k_fold) | (with_reducible first | refine Jq0 ?_ | refine Jq1 ?_ | refine Jq2 ?_ | refine Jq3 ?_ | refine Jq4 ?_) | (k_unfold; (try dsimp only)) | (k_end; wrow_close) | walk1 | (dsimp only; walk1) | (leave1; walk_say "STEP leave1"; try dsimp only) | fail "no step"))
        · rename (_ ≤ 2 + 3 * (0 + (i : Int))) => p1
          rename Fr _ _ _ _ => Fe
          exact bad _ _ _ _ (.inr (.inr (.inl ⟨by (first | exact q222 (by assumption) | omega), q4, .inr ⟨ha', i, okc i hi, ok, .inl ⟨by omega, by (first | exact q224 | omega)⟩⟩⟩))) (ext_of hsub Fe)
        · rename (¬ _ ≤ 2 + 3 * (0 + (i : Int))) => p1
          rename (_ < fr) => p2
          rename Fr _ _ _ _ => Fe
          rw [hF (by (first | exact q227 (by assumption) (by assumption) | omega))] at p2
          exact bad _ _ _ _ (.inr (.inr (.inl ⟨by (first | exact q222 (by assumption) | omega), q4, .inr ⟨ha', i, okc i hi, ok, .inr (.inl ⟨by omega, by (first | exact q226 (by assumption) (by assumption) | omega), by (first | exact q224 | omega)⟩)⟩⟩))) (ext_of hsub Fe)
        · rename (¬ _ ≤ 2 + 3 * (0 + (i : Int))) => p1
          rename (¬ _ < fr) => p2
          rename (_ ≤ 2 + 3 * (0 + (i : Int)) + 1) => p3
          rename Fr _ _ _ _ => Fe
          rw [hF (by (first | exact q230 (by assumption) (by assumption) (by assumption) | omega))] at p2
          exact bad _ _ _ _ (.inr (.inr (.inl ⟨by (first | exact q222 (by assumption) | omega), q4, .inr ⟨ha', i, okc i hi, ok, .inr (.inr (.inl ⟨by omega, by (first | exact q229 (by assumption) (by assumption) | omega), by omega, by (first | exact q232 | omega)⟩))⟩⟩))) (ext_of hsub Fe)
        · rename (¬ _ < fr) => p2
          rename (¬ _ ≤ 2 + 3 * (0 + (i : Int)) + 1) => p3
          rename (ns.getD _ 0 < ns.getD _ 0) => p4
          rename Fr _ _ _ _ => Fe
          rw [hF (by (first | exact q234 (by assumption) (by assumption) | omega))] at p2
          rw [hF (by (first | exact q234 (by assumption) (by assumption) | omega)), hLs (by (first | exact q235 (by assumption) (by assumption) | omega))] at p4
          exact bad _ _ _ _ (.inr (.inr (.inl ⟨by (first | exact q222 (by assumption) | omega), q4, .inr ⟨ha', i, okc i hi, ok, .inr (.inr (.inr (.inl ⟨by omega, by (first | exact q229 (by assumption) (by assumption) | omega), by (first | exact q235 (by assumption) (by assumption) | omega), by (first | exact q232 | omega)⟩)))⟩⟩))) (ext_of hsub Fe)
        · rename (¬ _ < fr) => p2
          rename (¬ _ ≤ 2 + 3 * (0 + (i : Int)) + 1) => p3
          rename (¬ ns.getD _ 0 < ns.getD _ 0) => p4
          rename (_ ≤ 2 + 3 * (0 + (i : Int)) + 2) => p5
          rename Fr _ _ _ _ => Fe
          rw [hF (by (first | exact q237 (by assumption) (by assumption) (by assumption) | omega))] at p2
          rw [hF (by (first | exact q237 (by assumption) (by assumption) (by assumption) | omega)), hLs (by (first | exact q239 (by assumption) (by assumption) (by assumption) | omega))] at p4
          exact bad _ _ _ _ (.inr (.inr (.inl ⟨by (first | exact q222 (by assumption) | omega), q4, .inr ⟨ha', i, okc i hi, ok, .inr (.inr (.inr (.inr ⟨by omega, by (first | exact q229 (by assumption) (by assumption) | omega), by (first | exact q238 (by assumption) | omega), by omega, by (first | exact q241 | omega)⟩)))⟩⟩))) (ext_of hsub Fe)
        · rename (¬ _ < fr) => p2
          rename (¬ ns.getD _ 0 < ns.getD _ 0) => p4
          rename (¬ _ ≤ 2 + 3 * (0 + (i : Int)) + 2) => p5
          rw [hF (by (first | exact q243 (by assumption) (by assumption) | omega))] at p2
          rw [hF (by (first | exact q243 (by assumption) (by assumption) | omega)), hLs (by (first | exact q242 (by assumption) (by assumption) | omega))] at p4
          have bf := w2_bd hks (a + 2 + 2 + 6 * (i : Int))
          have bl := w2_bd hks (a + 2 + 2 + 6 * (i : Int) + 2)
          unfold Hold
          rename Fr _ _ _ _ => Fe
          refine For_invVF Fe (by rfl) (by rfl) ?_
          (repeat' (first | ((with_reducible show wpAny _ _ (exec _ _) _ _ _); k_fold) | (with_reducible first | refine Jq0 ?_ | refine Jq1 ?_ | refine Jq2 ?_ | refine Jq3 ?_ | refine Jq4 ?_) | (k_unfold; (try dsimp only)) | (k_end; wrow_close) | walk1 | (dsimp only; walk1) | (leave1; walk_say "STEP leave1"; try dsimp only) | fail "no step"))
          rename Fr _ _ _ _ => Fc
          rename News _ _ _ _ => Nc
          rename IsRange _ _ _ _ _ _ _ _ => Rc
          rw [hF (by (first | exact q243 (by assumption) (by assumption) | omega)), hLs (by (first | exact q242 (by assumption) (by assumption) | omega))] at Rc
          have hf0 : 0 ≤ sFirst ks (a + 2) i ∧ sFirst ks (a + 2) i ≤ 65535 := bf
          have hl0 : 0 ≤ sLast ks (a + 2) i ∧ sLast ks (a + 2) i ≤ 65535 := bl
          simp only [List.cons_append, List.nil_append] at Nc
          refine range_loop [] (fun j m nx => ∃ oD2, nx = (_, oD2) :: (_, _) :: (_, _) :: (nL, listOf (List.toArray vs) c) :: own ∧ IntObj w oD2 (spanPairs ks (a + 2) i ++ onePairs (sFirst ks (a + 2) i) (sNum ks (a + 2) i) j)) G.hand Rc (small_one (by (first | exact q201 (by assumption) | omega)) (by (first | exact q202 (by assumption) | omega)) (by (first | exact q244 (by assumption) | omega)) (by (first | exact q245 (by assumption) | omega))) (n := (sLast ks (a + 2) i + 1 - sFirst ks (a + 2) i).toNat) (rangeSize_nat _ _) Fc Nc ⟨_, rfl, _, hkv, by rw [show onePairs (sFirst ks (a + 2) i) (sNum ks (a + 2) i) 0 = [] from rfl, List.append_nil]; exact hfl⟩ ?_ ?_
          · intro j jv m₄ _ h tk own2 hj hoff2 hadr2 z0_ hkp2 F N
            refine via fun G_ hG_ => ?_
            obtain ⟨oD2, rfl, kvs2, hkv2, hfl2⟩ := z0_
            refine hG_ ?_
            clear hG_ G_
            clear Fc Nc Rc
            rw [hkp2.map0] at F
            (repeat' (first | ((with_reducible show wpAny _ _ (exec _ _) _ _ _); k_fold) | (with_reducible first | refine Jq0 ?_ | refine Jq1 ?_ | refine Jq2 ?_ | refine Jq3 ?_ | refine Jq4 ?_) | (k_unfold; (try dsimp only)) | (k_end; wrow_close) | walk1 | (dsimp only; walk1) | (leave1; walk_say "STEP leave1"; try dsimp only) | fail "no step"))
            have hlD : (intD (spanPairs ks (a + 2) i ++ onePairs (sFirst ks (a + 2) i) (sNum ks (a + 2) i) j)).length ≤ sizeLine := by
              rw [PySem.sizeLine_eq]
              have := spanPairs_len ks (a + 2) i ok
              have := least_le (a := a + 2) hks i
              simp only [intD, List.length_map, List.length_append, onePairs, List.length_range]
              (first | exact q246 (by assumption) (by assumption) (by assumption) (by assumption) (by assumption) (by assumption) | omega)
            refine setItem_K same_int (intKind_is _ _ _ _) (Flat.int _ _) F N (.head fun q hq => ?_) hkv2 hfl2 ?_ hlD
            · rcases List.mem_cons.mp hq with rfl | hq
              · exact Nat.ne_of_lt ltd.1
              rcases List.mem_cons.mp hq with rfl | hq
              · exact Nat.ne_of_lt ltd.2.1
              rcases List.mem_cons.mp hq with rfl | hq
              · exact Nat.ne_of_lt ltd.2.2
              rcases List.mem_append.mp hq with hq | hq
              · exact hoff q hq _ (.head _)
              · exact hoff2 q hq _ (.head _)
            clear F N
            intro h3 o3 F N hk3 hf3
            rw [hNm (by (first | exact q247 (by assumption) (by assumption) | omega)), intD_putD (span_fresh hks ok (by (first | exact q229 (by assumption) (by assumption) | omega))), List.append_assoc, ← onePairs_succ] at hf3
            rw [hNm (by (first | exact q247 (by assumption) (by assumption) | omega))] at hk3
            (repeat' (first | ((with_reducible show wpAny _ _ (exec _ _) _ _ _); k_fold) | (with_reducible first | refine Jq0 ?_ | refine Jq1 ?_ | refine Jq2 ?_ | refine Jq3 ?_ | refine Jq4 ?_) | (k_unfold; (try dsimp only)) | (k_end; wrow_close) | walk1 | (dsimp only; walk1) | (leave1; walk_say "STEP leave1"; try dsimp only) | fail "no step"))
            refine inv_fourO F N ⟨⟨o3, rfl, _, hk3, hf3⟩, ?_⟩
            intro z hK1 hK2
            simp only [hK1, ↓reduceIte]
          · intro m₄ _ h tk z0_ hkp2 F N
            refine via fun G_ hG_ => ?_
            obtain ⟨oD2, rfl, kvs2, hkv2, hfl2⟩ := z0_
            refine hG_ ?_
            clear hG_ G_
            clear Fc Nc Rc
            rw [hkp2.done0] at F
            (repeat' (first | ((with_reducible show wpAny _ _ (exec _ _) _ _ _); k_fold) | (with_reducible first | refine Jq0 ?_ | refine Jq1 ?_ | refine Jq2 ?_ | refine Jq3 ?_ | refine Jq4 ?_) | (k_unfold; (try dsimp only)) | (k_end; wrow_close) | walk1 | (dsimp only; walk1) | (leave1; walk_say "STEP leave1"; try dsimp only) | fail "no step"))
            rename Fr _ _ _ _ => Fe
            rename News _ _ _ _ => Ne
            refine inv_four Fe Ne ⟨⟨oD2, _, _, rfl, ⟨_, hkv2, hfl2⟩, ⟨by omega, fun j hj => ?_⟩, rfl, by rw [hLs (by (first | exact q242 (by assumption) (by assumption) | omega))]; rfl⟩, ?_⟩
            · rcases Nat.lt_succ_iff_lt_or_eq.mp hj with q | rfl
              · exact ok.2 j q
              · exact ⟨by (first | exact q229 (by assumption) (by assumption) | omega), by (first | exact q238 (by assumption) | omega)⟩
            · intro z hK1 hK2
              simp only [List.mem_cons, List.not_mem_nil, or_false, not_or] at hK2
              simp only [hK1, hK2, ↓reduceIte]
      · intro m₃ _ h tk z0_ hkp F N
        refine via fun G_ hG_ => ?_
        obtain ⟨oD, fr, tf, rfl, ⟨kvs, hkv, hfl⟩, ok, hfm, hfr⟩ := z0_
        refine hG_ ?_
        clear hG_ G_
        clear Fc Nc Rc
        rw [hkp.done3, hfm] at F
        (repeat' (first | ((with_reducible show wpAny _ _ (exec _ _) _ _ _); k_fold) | (with_reducible first | refine Jq0 ?_ | refine Jq1 ?_ | refine Jq2 ?_ | refine Jq3 ?_ | refine Jq4 ?_) | (k_unfold; (try dsimp only)) | (k_end; wrow_close) | walk1 | (dsimp only; walk1) | (leave1; walk_say "STEP leave1"; try dsimp only) | fail "no step"))
        try dsimp only
        refine good _ h _ _ ⟨by (first | exact q222 (by assumption) | omega), .inr ⟨q4, ⟨ha', ok, rfl⟩⟩⟩ (ext_of hsub F) (TabAt.ofNews N (.head _) loD hkv hfl) ?_
        cases z : s.heap.get? _ with
        | none => rfl
        | some o =>
          have := (N _ (.head _)).2.2
          rw [hsub _ _ z fun m => nomatch m] at this
          cases this
    · rename (_ = false) => q3
      rename Fr _ _ _ _ => Fe
      try dsimp only
      refine bad _ _ _ _ (.inr (.inr (.inr ⟨by (first | exact q249 (by assumption) (by assumption) (by assumption) (by assumption) (by assumption) | omega), fun q => ?_, fun q => ?_, rfl⟩))) (ext_of hsub Fe)
      · rw [← h0] at q; rw [q] at q3; simp at q3
      · rw [← h0] at q; rw [q] at q3; simp at q3
end
section
theorem row_fun {n a w v z : Int} (h : (n < a + 2 ∧ z = a) ∨ (a + 2 ≤ n ∧ n < a + 4 ∧ z = a + 2) ∨ (a + 4 ≤ n ∧ 65536 < w ∧ z = a + 2) ∨ (a + 4 ≤ n ∧ w ≤ 65536 ∧ ∃ i : Nat, (i : Int) < v ∧ a + 4 + 2 * i ≤ n ∧ n < a + 4 + 2 * i + 2 ∧ z = a + 4 + 2 * i)) :
    z = if n < a + 2 then a else if n < a + 4 ∨ 65536 < w then a + 2 else n - (n - a) % 2 := by
  rcases h with ⟨h, e⟩ | ⟨h, g, e⟩ | ⟨h, g, e⟩ | ⟨h, g, i, _, h3, h4, e⟩
  · rw [if_pos h, e]
  · rw [if_neg (Int.not_lt.mpr h), if_pos (.inl g), e]
  · rw [if_neg (by lia), if_pos (.inr g), e]
  · rw [if_neg (by lia), if_neg (by lia), e]; clear e g; lia
theorem row_bad_one {ks : List Int} {a z z' : Int} (h : RowBad ks a z) (h' : RowBad ks a z') : z = z' := (row_fun h).trans (row_fun h').symm
theorem row_bad_good {ks : List Int} {a z : Int} {ps : List (Int × Int)} (h : RowBad ks a z) (h' : RowGood ks a ps) (hw : 0 ≤ w2 ks (a + 2)) : False := by
  refine via fun G_ hG_ => ?_
  obtain ⟨g1, g2, _⟩ := h'
  refine hG_ ?_
  clear hG_ G_
  rcases h with h | h | h | ⟨h1, h2, i, h3, h4, h5, rfl⟩ <;> omega
/-- what fails at the span i -/
noncomputable def SpanFail (ks : List Int) (a : Int) (i : Nat) (z : Int) : Prop :=
  (ks.length < a + 2 + 6 * i + 2 ∧ z = a + 2 + 6 * i) ∨ (a + 2 + 6 * i + 2 ≤ ks.length ∧ sFirst ks a i < sLeast ks a i ∧ z = a + 2 + 6 * i) ∨
      (a + 2 + 6 * i + 2 ≤ ks.length ∧ sLeast ks a i ≤ sFirst ks a i ∧ ks.length < a + 2 + 6 * i + 4 ∧ z = a + 2 + 6 * i + 2) ∨
      (a + 2 + 6 * i + 4 ≤ ks.length ∧ sLeast ks a i ≤ sFirst ks a i ∧ sLast ks a i < sFirst ks a i ∧ z = a + 2 + 6 * i + 2) ∨
      (a + 2 + 6 * i + 4 ≤ ks.length ∧ sLeast ks a i ≤ sFirst ks a i ∧ sFirst ks a i ≤ sLast ks a i ∧ ks.length < a + 2 + 6 * i + 6 ∧ z = a + 2 + 6 * i + 4)
theorem fail_fun {n b l f e z : Int} (h : (n < b + 2 ∧ z = b) ∨ (b + 2 ≤ n ∧ f < l ∧ z = b) ∨ (b + 2 ≤ n ∧ l ≤ f ∧ n < b + 4 ∧ z = b + 2) ∨ (b + 4 ≤ n ∧ l ≤ f ∧ e < f ∧ z = b + 2) ∨ (b + 4 ≤ n ∧ l ≤ f ∧ f ≤ e ∧ n < b + 6 ∧ z = b + 4)) :
    z = if n < b + 2 ∨ f < l then b else if n < b + 4 ∨ e < f then b + 2 else b + 4 := by
  rcases h with ⟨h, r⟩ | ⟨h, g, r⟩ | ⟨h, g, k, r⟩ | ⟨h, g, k, r⟩ | ⟨h, g, k, m, r⟩
  · rw [if_pos (.inl h), r]
  · rw [if_pos (.inr g), r]
  · rw [if_neg (by lia), if_pos (.inl k), r]
  · rw [if_neg (by lia), if_pos (.inr k), r]
  · rw [if_neg (by lia), if_neg (by lia), r]
theorem span_fail_one {ks : List Int} {a z z' : Int} {i : Nat} (h : SpanFail ks a i z) (h' : SpanFail ks a i z') : z = z' := (fail_fun h).trans (fail_fun h').symm
theorem span_fail_ok {ks : List Int} {a z : Int} {i j : Nat} (h : SpanFail ks a i z) (ok : SpanOk ks a j) (hij : i < j) : False := by
  have h1 := ok.1
  have h2 := ok.2 i hij
  rcases h with h | h | h | h | h <;> (first | exact q250 (by assumption) (by assumption) (by assumption) | exact q251 (by assumption) (by assumption) | exact q252 (by assumption) (by assumption) (by assumption) | exact q253 (by assumption) (by assumption) | exact q254 (by assumption) (by assumption) (by assumption) | omega)
theorem span_bad_one {ks : List Int} {a z z' : Int} (h : SpanBad ks a z) (h' : SpanBad ks a z') : z = z' := by
  rcases h with h | ⟨h1, i, hi, ok, f⟩ <;> rcases h' with h' | ⟨h1', j, hj, ok', f'⟩
  · (first | exact q255 (by assumption) (by assumption) | omega)
  · omega
  · omega
  · rcases Nat.lt_trichotomy i j with q | q | q
    · exact (span_fail_ok f ok' q).elim
    · subst q; exact span_fail_one f f'
    · exact (span_fail_ok f' ok q).elim
theorem span_bad_good {ks : List Int} {a z : Int} {ps : List (Int × Int)} (h : SpanBad ks a z) (h' : SpanGood ks a ps) : False := by
  refine via fun G_ hG_ => ?_
  obtain ⟨g1, ok', _⟩ := h'
  refine hG_ ?_
  clear hG_ G_
  rcases h with h | ⟨h1, i, hi, ok, f⟩
  · omega
  · exact span_fail_ok f ok' (by (first | exact q315 (by assumption) | omega))
theorem read_bad_one {ks : List Int} {a z z' : Int} (h : ReadBad ks a z) (h' : ReadBad ks a z') : z = z' := by
  rcases h with h | ⟨h1, h2, h⟩ | ⟨h1, h2, h⟩ | h <;> rcases h' with h' | ⟨h1', h2', h'⟩ | ⟨h1', h2', h'⟩ | h' <;> first | (first | exact q255 (by assumption) (by assumption) | exact q304 (by assumption) (by assumption) | exact q305 (by assumption) (by assumption) | exact q307 (by assumption) (by assumption) | exact q308 (by assumption) (by assumption) | exact q309 (by assumption) (by assumption) | omega) | exact row_bad_one h h' | exact span_bad_one h h'
theorem read_bad_good {arr : Array UInt8} {ks : List Int} {a z : Int} {ps : List (Int × Int)} (hks : KBw.bInts arr = ks) (h : ReadBad ks a z) (h' : ReadGood ks a ps) : False := by
  obtain ⟨g1, g⟩ := h'
  have hw := (w2_bd hks (a + 2 + 2)).1
  rcases h with h | ⟨h1, h2, h⟩ | ⟨h1, h2, h⟩ | h <;> rcases g with ⟨q1, g⟩ | ⟨q1, g⟩ <;> first | (first | exact q310 (by assumption) (by assumption) | exact q311 (by assumption) (by assumption) | exact q313 (by assumption) (by assumption) | exact q314 (by assumption) (by assumption) | omega) | exact row_bad_good h g hw | exact span_bad_good h g
theorem read_good_one {ks : List Int} {a : Int} {ps ps' : List (Int × Int)} (h : ReadGood ks a ps) (h' : ReadGood ks a ps') : ps = ps' := by
  obtain ⟨_, ⟨q, g⟩ | ⟨q, g⟩⟩ := h <;> obtain ⟨_, ⟨q', g'⟩ | ⟨q', g'⟩⟩ := h' <;> first | omega | exact g.2.2.trans g'.2.2.symm
end
section
open PyProof.Rows.LCg PyProof.V


/-- a ClassDef and what its callers must know -/
structure ClsIn (w : World) (base : Heap) (A : Around) (x dx d : Addr) (ps : List (Int × Int)) (h : Heap) : Prop where
  is : ClsAt x dx d h
  tab : TabAt (intKind PySem.Challenge.rw_pb0173_01.row.prog w) PyData.int h d (intD ps)
  nx : base.get? x = none
  nd : base.get? dx = none
  off : dx ∉ frAddrs A
theorem tab_at {w : World} {d : Addr} {D : List (PyData × PyData)} {h h' : Heap} (T : TabAt (intKind PySem.Challenge.rw_pb0173_01.row.prog w) PyData.int h d D) (k : ∀ o, h.get? d = some o → h'.get? d = some o) : TabAt (intKind PySem.Challenge.rw_pb0173_01.row.prog w) PyData.int h' d D := by
  refine via fun G_ hG_ => ?_
  obtain ⟨lo, kvs, hD, hf⟩ := T
  refine hG_ ?_
  clear hG_ G_
  exact ⟨lo, kvs, hD.at k, hf⟩
theorem intD_get {k : Int} : ∀ {ps : List (Int × Int)}, (Spec.lookup (.int k) (intD ps)).getD (.int 0) = .int (clsOf ps k)
  | [] => rfl
  | p :: r => by
    show (if Spec.same (.int p.1) (.int k) then some (PyData.int p.2) else Spec.lookup (.int k) (intD r)).getD (.int 0) = _
    rw [same_int]
    unfold clsOf
    by_cases q : p.1 = k
    · rw [if_pos (by simpa using q), if_pos q]; rfl
    · rw [if_neg (by simpa using q), if_neg q]
      exact intD_get
theorem clsof_spec {w : World} {mean : ExcName → Option Value} {mg mb : Str → Option Value} {base : Heap} {A : Around} {E : Value → Shared → Prop} {s : Shared} {x dx d : Addr} {ps : List (Int × Int)} {k : Int} {tk : Tok} {Q : Value → Shared → Prop} (G : Gnd w mean mg mb base A s.heap) (hroom : A.depth ≤ 560) (hun : A.units ≤ 6600)
    (C : ClsIn w base A x dx d ps s.heap) (hdx : d ≠ x) (hddx : d ≠ dx)
    (ret : ∀ t h' tk', Ext [] s.heap h' → Q (.int (clsOf ps k) t) { s with heap := h', toks := tk' }) :
    wpAny (model PySem.Challenge.rw_pb0173_01.row.prog w) A (call (.ref 190) [.ref x, .int k tk]) Q E s := by
  refine via fun G_ hG_ => ?_
  obtain ⟨⟨hx, k1, tk1, hdx'⟩, Tb, hbx, hbd, hdf⟩ := C
  refine hG_ ?_
  clear hG_ G_
  refine wpAny_call ?_
  k_dflt (refine' enter (news := [(x, instObj 210 dx), (dx, dictOf [⟨k1, .str (Str.ofString "classes") tk1, .ref d⟩] 1)]) G ?hn ?ho ?hcd ?hroom ?hbind ?hloc ?_ ?q1 ?q2 ?q3 ?q4; (case ho => k_is); (case hcd => k_is); (case hroom => first | (simp only [recursionLimit]; (first | exact q46 (by assumption) | omega)) | omega | assumption); (case hbind => exact BindsTo.of_eq rfl); (case hloc => exact locs rfl); (case q1 => rfl); (case q2 => rfl); (case q3 => rfl); (case q4 => decide))
  case hn => exact two_mem ⟨hx, hbx, G.notFr hx (fun _ _ e => by cases e)⟩ ⟨hdx', hbd, hdf⟩
  intro g L' h₁ l hsub hsup hL F N B X T FR
  try dsimp only
  have T1 : TabAt (intKind PySem.Challenge.rw_pb0173_01.row.prog w) PyData.int h₁ d (intD ps) := tab_at Tb fun o e => F.keep _ _ (hsub _ _ e (by simp [hdx, hddx]))
  (repeat' (first | ((with_reducible show wpAny _ _ (exec _ _) _ _ _); k_fold) | (with_reducible first | refine Jq0 ?_ | refine Jq1 ?_ | refine Jq2 ?_ | refine Jq3 ?_ | refine Jq4 ?_) | (k_unfold; (try dsimp only)) | (k_end; wrow_close) | walk1 | (dsimp only; walk1) | (leave1; walk_say "STEP leave1"; try dsimp only) | fail "no step"))
  rename Flat _ _ => fl
  rw [intD_get] at fl
  obtain ⟨t9, rfl⟩ := Flat.int_inv fl
  exact ret _ _ _ (kept_of hsub F (two_mem hx hdx') (two_mem (fun _ => (N _ (.head _)).1) (fun _ => (N _ (.tail _ (.head _))).1)))
theorem dict_loop {prog : Program} {w : World} {A : Around} {E : Value → Shared → Prop} {s : Shared} {env : Env} {h₀ : Heap} {x : Str} {body : List Stmt} {Q : Flow → Shared → Prop} {m₀ : Str → Option Value} {news : List (Addr × Obj)} {d : Addr} {ps : List (Int × Int)}
    (ys : List Str) (J : Nat → (Str → Option Value) → List (Addr × Obj) → Prop) (hh : A.handled = none) (Ta : TabAt (intKind prog w) PyData.int h₀ d (intD ps)) (F : Fr h₀ env.locals s.heap m₀) (N : News h₀ env.locals s.heap news) (hj : J 0 m₀ news)
    (turn : ∀ i p t m₁ nx h tk own, ps[i]? = some p → OwnOff own (news.map (·.1)) → nx.map (·.1) = news.map (·.1) → J i m₁ nx → Mine.Keeps x ys m₀ m₁ → Fr h₀ env.locals h (fun y => if y = x then some (.int p.1 t) else m₁ y) → News h₀ env.locals h (nx ++ own) →
      wpAny (model prog w) A (execs body env) (InvPostN h₀ env.locals (fun m nx => J (i + 1) m nx ∧ Mine.Keeps x ys m₀ m) own (news.map (·.1)) { s with heap := h, toks := tk } Q) E { s with heap := h, toks := tk })
    (done : ∀ m₁ nx h tk, J ps.length m₁ nx → Mine.Keeps x ys m₀ m₁ → Fr h₀ env.locals h m₁ → News h₀ env.locals h nx → Q .next { s with heap := h, toks := tk }) :
    wpAny (model prog w) A (pyIter (.ref d)) (fun it s₂ => LoopAtV prog w A h₀ env x body Q E it s₂) E s := by
  refine via fun G_ hG_ => ?_
  obtain ⟨lo, kvs, hD, hf⟩ := Ta
  refine hG_ ?_
  clear hG_ G_
  have hDs : s.heap.DictOf (intKind prog w) d kvs := hD.at fun o e => F.keep _ _ e
  refine via fun G_ hG_ => ?_
  obtain ⟨od, hod, _⟩ := Heap.dictOf_iff.mp hD
  refine hG_ ?_
  clear hG_ G_
  obtain ⟨ep, hat⟩ := hDs.dictAt
  have hkl : kvs.length = ps.length := by rw [← hf.length]; simp [intD]
  refine via fun G_ hG_ => ?_
  obtain ⟨oI, St, hit, W, st⟩ := (kdl_dict (knd := intKind prog w) (kvs := kvs) (ep := ep) lo).iter A s hh hat
  refine hG_ ?_
  clear hG_ G_
  have hdlt : LT.lt (α := Nat) d env.locals := Nat.lt_of_lt_of_le (Heap.lt_size hod) F.above
  refine hit _ _ (loop_invN (fun i m nx => J i m nx ∧ Mine.Keeps x ys m₀ m) (hkl ▸ W) ?_ ?_ ?_ ?_ st (F.push _) (fun p hp => ⟨Heap.get?_push_of_some _ (N p hp).1, (N p hp).2⟩) ⟨hj, Mine.Keeps.refl _ _ _⟩ ?_ ?_)
  · intro hm
    rcases List.mem_cons.mp hm with e | hm
    · exact absurd F.ns.lt (e ▸ Nat.lt_irrefl _)
    · exact absurd hdlt ((List.mem_singleton.mp hm) ▸ Nat.lt_irrefl _)
  · intro b hb
    rw [List.mem_singleton.mp hb]
    exact next_is_new F
  · intro p hp hI
    exact absurd (Heap.lt_size (N p hp).1) ((List.mem_singleton.mp hI) ▸ Nat.lt_irrefl _)
  · intro p hp hI
    rcases List.mem_cons.mp hI with e | hI
    · exact absurd (Heap.lt_size (N p hp).1) (e ▸ Nat.lt_irrefl _)
    · have := (N p hp).2.2
      rw [List.mem_singleton.mp hI, hod] at this
      cases this
  · intro i v m₁ nx h tk own hi z0_ hadr ho hr' F' N'
    refine via fun G_ hG_ => ?_
    obtain ⟨k, xx, hx, hk⟩ := z0_
    refine hG_ ?_
    clear hG_ G_
    obtain ⟨t, rfl⟩ := Flat.int_inv (kdl_flat_int hk)
    have hp := flat_keys (w := w) (prog := prog) hf hx
    rw [List.getElem?_map] at hp
    refine via fun G_ hG_ => ?_
    obtain ⟨p, hp2, rfl⟩ := Option.map_eq_some_iff.mp hp
    refine hG_ ?_
    clear hG_ G_
    exact turn i p t m₁ nx h tk own hp2 ho hadr hr'.1 hr'.2 F' N'
  · intro m₁ nx h tk hJ F' N'
    exact done m₁ nx h tk hJ.1 hJ.2 F' N'
theorem count_spec {w : World} {mean : ExcName → Option Value} {mg mb : Str → Option Value} {base : Heap} {A : Around} {E : Value → Shared → Prop} {s : Shared} {x dx d : Addr} {ps : List (Int × Int)} {Q : Value → Shared → Prop} (G : Gnd w mean mg mb base A s.heap) (hroom : A.depth ≤ 560) (hun : A.units ≤ 6600)
    (C : ClsIn w base A x dx d ps s.heap) (hdx : d ≠ x) (hddx : d ≠ dx) (hr : ps.Pairwise fun p q => p.1 < q.1)
    (ret : ∀ t h' tk', Ext [] s.heap h' → Q (.int (ps.foldl (fun m p => max m p.2) 0 + 1) t) { s with heap := h', toks := tk' }) :
    wpAny (model PySem.Challenge.rw_pb0173_01.row.prog w) A (call (.ref 202) [.ref x]) Q E s := by
  refine via fun G_ hG_ => ?_
  obtain ⟨⟨hx, k1, tk1, hdx'⟩, Tb, hbx, hbd, hdf⟩ := C
  refine hG_ ?_
  clear hG_ G_
  refine wpAny_call ?_
  k_dflt (refine' enter (news := [(x, instObj 210 dx), (dx, dictOf [⟨k1, .str (Str.ofString "classes") tk1, .ref d⟩] 1)]) G ?hn ?ho ?hcd ?hroom ?hbind ?hloc ?_ ?q1 ?q2 ?q3 ?q4; (case ho => k_is); (case hcd => k_is); (case hroom => first | (simp only [recursionLimit]; (first | exact q46 (by assumption) | omega)) | omega | assumption); (case hbind => exact BindsTo.of_eq rfl); (case hloc => exact locs rfl); (case q1 => rfl); (case q2 => rfl); (case q3 => rfl); (case q4 => decide))
  case hn => exact two_mem ⟨hx, hbx, G.notFr hx (fun _ _ e => by cases e)⟩ ⟨hdx', hbd, hdf⟩
  intro g L' h₁ l hsub hsup hL F N B X T FR
  try dsimp only
  have Tg : TabAt (intKind PySem.Challenge.rw_pb0173_01.row.prog w) PyData.int g d (intD ps) := tab_at Tb fun o e => hsub _ _ e (by simp [hdx, hddx])
  (repeat' (first | ((with_reducible show wpAny _ _ (exec _ _) _ _ _); k_fold) | (with_reducible first | refine Jq0 ?_ | refine Jq1 ?_ | refine Jq2 ?_ | refine Jq3 ?_ | refine Jq4 ?_) | (k_unfold; (try dsimp only)) | (k_end; wrow_close) | walk1 | (dsimp only; walk1) | (leave1; walk_say "STEP leave1"; try dsimp only) | fail "no step"))
  unfold Hold
  rename Fr _ _ _ _ => Fa
  refine For_invVF Fa (by rfl) (by rfl) ?_
  (repeat' (first | ((with_reducible show wpAny _ _ (exec _ _) _ _ _); k_fold) | (with_reducible first | refine Jq0 ?_ | refine Jq1 ?_ | refine Jq2 ?_ | refine Jq3 ?_ | refine Jq4 ?_) | (k_unfold; (try dsimp only)) | (k_end; wrow_close) | walk1 | (dsimp only; walk1) | (leave1; walk_say "STEP leave1"; try dsimp only) | fail "no step"))
  rename Fr _ _ _ _ => Fc
  rename News _ _ _ _ => Nc
  refine dict_loop [Str.ofString "most"] (fun i m nx => nx = [(x, instObj 210 dx), (dx, dictOf [⟨k1, .str (Str.ofString "classes") tk1, .ref d⟩] 1)] ∧ ∃ t, m (Str.ofString "most") = some (.int ((ps.take i).foldl (fun m p => max m p.2) 0) t)) G.hand Tg Fc Nc ⟨rfl, _, rfl⟩ ?_ ?_
  · intro i p tv m₁ _ h tk own hp hoff hadr z0_ hkp F N
    refine via fun G_ hG_ => ?_
    obtain ⟨rfl, tm, hm⟩ := z0_
    refine hG_ ?_
    clear hG_ G_
    clear Fc Nc
    rw [hkp.map1 hm] at F
    have Th : TabAt (intKind PySem.Challenge.rw_pb0173_01.row.prog w) PyData.int h d (intD ps) := tab_at Tg fun o e => F.keep _ _ e
    (repeat' (first | ((with_reducible show wpAny _ _ (exec _ _) _ _ _); k_fold) | (with_reducible first | refine Jq0 ?_ | refine Jq1 ?_ | refine Jq2 ?_ | refine Jq3 ?_ | refine Jq4 ?_) | (k_unfold; (try dsimp only)) | (k_end; wrow_close) | walk1 | (dsimp only; walk1) | (leave1; walk_say "STEP leave1"; try dsimp only) | fail "no step"))
    have hpm := List.mem_of_getElem? hp
    refine getItem_tab same_int (intKind_is _ _ _ _) Th (intD_lookup (List.mem_map_of_mem hpm)) fun v fl => ?_
    rw [clsOf_mem hr hpm] at fl
    obtain ⟨t9, rfl⟩ := Flat.int_inv fl
    (repeat' (first | ((with_reducible show wpAny _ _ (exec _ _) _ _ _); k_fold) | (with_reducible first | refine Jq0 ?_ | refine Jq1 ?_ | refine Jq2 ?_ | refine Jq3 ?_ | refine Jq4 ?_) | (k_unfold; (try dsimp only)) | (k_end; wrow_close) | walk1 | (dsimp only; walk1) | (leave1; walk_say "STEP leave1"; try dsimp only) | fail "no step"))
    refine max_two_N G.hand F N ?_
    clear F N
    intro h3 tk3 F N
    have em : (if p.2 > (ps.take i).foldl (fun m p => max m p.2) 0 then p.2 else (ps.take i).foldl (fun m p => max m p.2) 0) = (ps.take (i + 1)).foldl (fun m p => max m p.2) 0 := by
      rw [take_succ_of hp, List.foldl_append]
      show _ = max _ p.2
      split <;> (first | exact q316 (by assumption) | exact q317 (by assumption) | omega)
    (repeat' (first | ((with_reducible show wpAny _ _ (exec _ _) _ _ _); k_fold) | (with_reducible first | refine Jq0 ?_ | refine Jq1 ?_ | refine Jq2 ?_ | refine Jq3 ?_ | refine Jq4 ?_) | (k_unfold; (try dsimp only)) | (k_end; wrow_close) | walk1 | (dsimp only; walk1) | (leave1; walk_say "STEP leave1"; try dsimp only) | fail "no step"))
    rename Fr _ _ _ _ => Fe
    rename News _ _ _ _ => Ne
    refine ⟨_, _, _, _, [(x, instObj 210 dx), (dx, dictOf [⟨k1, .str (Str.ofString "classes") tk1, .ref d⟩] 1)], rfl, Fe, Ne, (fun p hp => List.mem_append_left _ hp), (fun p hp => List.mem_append_right _ hp), rfl, ⟨rfl, ?_⟩, ?_⟩
    · rw [← em]; exact ⟨_, rfl⟩
    · ((intro zK hK1 hK2; simp only [List.mem_cons, List.not_mem_nil, or_false, not_or] at hK2; simp only [hK1, hK2, if_false, ↓reduceIte]))
  · intro m₁ _ h tk z0_ hkp F N
    refine via fun G_ hG_ => ?_
    obtain ⟨rfl, tm, hm⟩ := z0_
    refine hG_ ?_
    clear hG_ G_
    clear Fc Nc
    rw [hkp.done1 hm] at F
    rw [List.take_length] at F
    (repeat' (first | ((with_reducible show wpAny _ _ (exec _ _) _ _ _); k_fold) | (with_reducible first | refine Jq0 ?_ | refine Jq1 ?_ | refine Jq2 ?_ | refine Jq3 ?_ | refine Jq4 ?_) | (k_unfold; (try dsimp only)) | (k_end; wrow_close) | walk1 | (dsimp only; walk1) | (leave1; walk_say "STEP leave1"; try dsimp only) | fail "no step"))
    try dsimp only
    exact ret _ _ _ (kept_of hsub F (two_mem hx hdx') (two_mem (fun _ => (N _ (.head _)).1) (fun _ => (N _ (.tail _ (.head _))).1)))
end
section
open PyProof.Rows.LCg PyProof.V


theorem off1_mem {D : Addr} : ∀ {l : List (Addr × Obj)}, Off1 D l → ∀ p ∈ l, p.1 ≠ D
  | [], _, _, h => nomatch h
  | _ :: _, x, p, h => by
    rcases List.mem_cons.mp h with rfl | h
    · exact x.1
    · exact off1_mem x.2 p h
theorem glyphs_spec {w : World} {mean : ExcName → Option Value} {mg mb : Str → Option Value} {base : Heap} {A : Around} {E : Value → Shared → Prop} {s : Shared} {x dx d : Addr} {ps : List (Int × Int)} {k : Int} {tk : Tok} {Q : Value → Shared → Prop} (G : Gnd w mean mg mb base A s.heap) (hroom : A.depth ≤ 560) (hun : A.units ≤ 6600)
    (C : ClsIn w base A x dx d ps s.heap) (hdx : d ≠ x) (hddx : d ≠ dx) (hr : ps.Pairwise fun p q => p.1 < q.1) (hlen : ps.length ≤ 65536)
    (ret : ∀ D h' tk' vs n, Ext [] s.heap h' → h'.get? D = some (listOf (List.toArray vs) n) → IntsAre vs ((ps.filter fun p => decide (p.2 = k)).map (·.1)) → s.heap.get? D = none → Q (.ref D) { s with heap := h', toks := tk' }) :
    wpAny (model PySem.Challenge.rw_pb0173_01.row.prog w) A (call (.ref 195) [.ref x, .int k tk]) Q E s := by
  refine via fun G_ hG_ => ?_
  obtain ⟨⟨hx, k1, tk1, hdx'⟩, Tb, hbx, hbd, hdf⟩ := C
  refine hG_ ?_
  clear hG_ G_
  refine wpAny_call ?_
  k_dflt (refine' enterC (news := [(x, instObj 210 dx), (dx, dictOf [⟨k1, .str (Str.ofString "classes") tk1, .ref d⟩] 1)]) G ?hn ?ho ?hcd ?hroom ?hbind ?hkind ?hnd ?_ ?q1 ?q2 ?q3; (case ho => k_is); (case hcd => k_is); (case hroom => first | (simp only [recursionLimit]; (first | exact q46 (by assumption) | omega)) | omega | assumption); (case hbind => exact BindsTo.of_eq rfl); (case hkind => exact rfl); (case hnd => decide +kernel); (case q1 => rfl); (case q2 => rfl); (case q3 => rfl))
  case hn => exact two_mem ⟨hx, hbx, G.notFr hx (fun _ _ e => by cases e)⟩ ⟨hdx', hbd, hdf⟩
  intro g L' h₁ l tk0 cells hsub hsup hL F N Y B X T FR lt0
  k_cells Y
  try dsimp only
  simp only [List.cons_append, List.nil_append] at N
  have Tg : TabAt (intKind PySem.Challenge.rw_pb0173_01.row.prog w) PyData.int g d (intD ps) := tab_at Tb fun o e => hsub _ _ e (by simp [hdx, hddx])
  (repeat' (first | ((with_reducible show wpAny _ _ (exec _ _) _ _ _); k_fold) | (with_reducible first | refine Jq0 ?_ | refine Jq1 ?_ | refine Jq2 ?_ | refine Jq3 ?_ | refine Jq4 ?_) | (k_unfold; (try dsimp only)) | (k_end; wrow_close) | walk1 | (dsimp only; walk1) | (leave1; walk_say "STEP leave1"; try dsimp only) | fail "no step"))
  unfold Hold
  refine comp_start (by with_unfolding_all rfl) (by rfl) (by decide) ?_
  (repeat' (first | ((with_reducible show wpAny _ _ (exec _ _) _ _ _); k_fold) | (with_reducible first | refine Jq0 ?_ | refine Jq1 ?_ | refine Jq2 ?_ | refine Jq3 ?_ | refine Jq4 ?_) | (k_unfold; (try dsimp only)) | (k_end; wrow_close) | walk1 | (dsimp only; walk1) | (leave1; walk_say "STEP leave1"; try dsimp only) | fail "no step"))
  rename Fr _ _ _ _ => Fc
  rename News _ _ _ _ => Nc
  refine sorted_dict G.hand Fc Nc (tab_at Tg fun o e => Fc.keep _ _ e) hr (by (first | exact q142 (by assumption) | omega)) ?_
  clear Fc Nc
  intro B2 h2 tk2 vs n F N ltB kp hI
  (repeat' (first | ((with_reducible show wpAny _ _ (exec _ _) _ _ _); k_fold) | (with_reducible first | refine Jq0 ?_ | refine Jq1 ?_ | refine Jq2 ?_ | refine Jq3 ?_ | refine Jq4 ?_) | (k_unfold; (try dsimp only)) | (k_end; wrow_close) | walk1 | (dsimp only; walk1) | (leave1; walk_say "STEP leave1"; try dsimp only) | fail "no step"))
  have hvl : vs.length = ps.length := by rw [hI.length]; simp
  refine list_block (base := base) (outer := l) (hc := s.heap) (S₀ := []) (Hz := fun _ => False) (its := vs.toArray)
    (fun i ys news => ∃ o1 o2, news = (B2, listOf (List.toArray vs) n) :: (L' + 1 + 1, o1) :: (L' + 1, o2) :: (x, instObj 210 dx) :: (dx, dictOf [⟨k1, .str (Str.ofString "classes") tk1, .ref d⟩] 1) :: [] ∧
      o1.data = .cell (some (.int k tk)) ∧ o2.data = .cell (some (.ref x)) ∧ IntsAre ys (((ps.take i).filter fun p => decide (p.2 = k)).map (·.1)))
    (by decide) (by rfl) (by rfl) (by simp only [Around.deeper, B.stack]; rfl) rfl rfl (base_L B F) FR G.hand ?_ (by rw [PySem.sizeLine_eq]; show vs.length ≤ _; (first | exact q318 (by assumption) (by assumption) | omega)) F N ?_ ⟨_, _, rfl, by assumption, by assumption, .nil⟩ ?_ ?_ ?_
  · intro i ys _ z0_
    refine via fun G_ hG_ => ?_
    obtain ⟨o1, o2, rfl, _⟩ := z0_
    refine hG_ ?_
    clear hG_ G_
    exact .inr ⟨_, .head _, rfl, _, rfl⟩
  · intro b o e
    have e1 : Ext [] s.heap h2 := kept_of hsub F (two_mem hx hdx') (two_mem (fun _ => (N (x, _) (by fail "JMEM")).1) (fun _ => (N (dx, _) (by fail "JMEM")).1))
    exact ⟨o, e1 b o e fun m => nomatch m⟩
  · intro i v I oI C oC D m₂ ys _ h tk3 hv hy z0_ hoC hm₂ F N off ne
    refine via fun G_ hG_ => ?_
    obtain ⟨o1, o2, rfl, d1, d2, hys⟩ := z0_
    refine hG_ ?_
    clear hG_ G_
    have hi : i < ps.length := by have := (Array.getElem?_eq_some_iff.mp hv).1; simp at this; (first | exact q133 (by assumption) (by assumption) | omega)
    obtain ⟨p, hp⟩ : ∃ p, ps[i]? = some p := ⟨ps[i], by simp [hi]⟩
    obtain ⟨t0, hg⟩ := hI.get i p.1 (by rw [List.getElem?_map, hp]; rfl)
    have hv2 : v = .int p.1 t0 := by
      have : vs[i]? = some v := by simpa using hv
      rw [hg] at this
      exact (Option.some.inj this).symm
    subst hv2
    have hpm := List.mem_of_getElem? hp
    have Th : TabAt (intKind PySem.Challenge.rw_pb0173_01.row.prog w) PyData.int h d (intD ps) := tab_at Tg fun o e => F.keep _ _ e
    refine tests_one ?_
    (repeat' (first | ((with_reducible show wpAny _ _ (exec _ _) _ _ _); k_fold) | (with_reducible first | refine Jq0 ?_ | refine Jq1 ?_ | refine Jq2 ?_ | refine Jq3 ?_ | refine Jq4 ?_) | (k_unfold; (try dsimp only)) | (k_end; wrow_close) | walk1 | (dsimp only; walk1) | (leave1; walk_say "STEP leave1"; try dsimp only) | fail "no step"))
    refine getItem_tab same_int (intKind_is _ _ _ _) Th (intD_lookup (List.mem_map_of_mem hpm)) fun v fl => ?_
    rw [clsOf_mem hr hpm] at fl
    obtain ⟨t9, rfl⟩ := Flat.int_inv fl
    (repeat' (first | ((with_reducible show wpAny _ _ (exec _ _) _ _ _); k_fold) | (with_reducible first | refine Jq0 ?_ | refine Jq1 ?_ | refine Jq2 ?_ | refine Jq3 ?_ | refine Jq4 ?_) | (k_unfold; (try dsimp only)) | (k_end; wrow_close) | walk1 | (dsimp only; walk1) | (leave1; walk_say "STEP leave1"; try dsimp only) | fail "no step"))
    · rename (p.2 = k) => q
      rename Fr _ _ _ _ => Fe
      rename News _ _ _ _ => Ne
      refine ⟨_, _, _, rfl, Fe, Ne, off, o1, o2, rfl, d1, d2, ?_⟩
      rw [take_succ_of hp, List.filter_append, List.map_append]
      simp only [List.filter_cons, q, decide_true, if_true, List.filter_nil, List.map_cons, List.map_nil]
      exact ints_snoc hys _ _
    · rename (¬ p.2 = k) => q
      rename Fr _ _ _ _ => Fe
      rename News _ _ _ _ => Ne
      refine ⟨_, _, _, rfl, Fe, Ne, off, o1, o2, rfl, d1, d2, ?_⟩
      rw [take_succ_of hp, List.filter_append, List.map_append]
      simp only [List.filter_cons, q, decide_false, Bool.false_eq_true, if_false, List.filter_nil, List.map_nil, List.append_nil]
      exact hys
  · intro e z h' tk' hz
    exact hz.elim
  · intro D h tk ys news' F N o1 hlen z0_
    refine via fun G_ hG_ => ?_
    obtain ⟨o1, o2, rfl, d1, d2, hys⟩ := z0_
    refine hG_ ?_
    clear hG_ G_
    (repeat' (first | ((with_reducible show wpAny _ _ (exec _ _) _ _ _); k_fold) | (with_reducible first | refine Jq0 ?_ | refine Jq1 ?_ | refine Jq2 ?_ | refine Jq3 ?_ | refine Jq4 ?_) | (k_unfold; (try dsimp only)) | (k_end; wrow_close) | walk1 | (dsimp only; walk1) | (leave1; walk_say "STEP leave1"; try dsimp only) | fail "no step"))
    try dsimp only
    have nD := N (D, _) (.head _)
    rw [List.take_of_length_le (by show ps.length ≤ vs.length; (first | exact q319 (by assumption) | omega))] at hys
    refine ret D h _ ys _ (kept_of hsub F (two_mem hx hdx') (two_mem (fun _ => (N (x, _) (by fail "JMEM")).1) (fun _ => (N (dx, _) (by fail "JMEM")).1))) nD.1 hys ?_
    cases z : s.heap.get? D with
    | none => rfl
    | some o =>
      have ox := off1_mem o1 (x, _) (by fail "JMEM")
      have od := off1_mem o1 (dx, _) (by fail "JMEM")
      have := hsub _ _ z (by simp only [List.map_cons, List.map_nil, List.mem_cons, List.not_mem_nil, or_false, not_or]; exact ⟨fun q => ox q.symm, fun q => od q.symm⟩)
      rw [nD.2.2] at this
      cases this
end
section
open PyProof.Rows.LCg PyProof.V


theorem catch_turn {A : Around} {base g h₂ h₅ : Heap} {l : List Env} {L' : Addr} {m : Str → Option Value} (B : Below A base l g) (FR : Frs base g l) (F : Fr g L' h₂ m) (K : Kept (L' :: frs l) [] h₂ h₅) :
    ∃ g', KtsTurn (frs l) g g' ∧ Fr g' L' h₅ m ∧ base.StaysIn g' ∧ Frs base g' l := by
  have hgL : g.get? L' = none := kts_self F
  have hfs : ∀ b ∈ frs l, ∃ o, g.get? b = some o := fun b hb => by
    refine via fun G_ hG_ => ?_
    obtain ⟨env, he, hf⟩ := List.mem_filterMap.mp hb
    refine hG_ ?_
    clear hG_ G_
    refine via fun G_ hG_ => ?_
    obtain ⟨_, L, _, hf', _, o, _, _, ho, _⟩ := FR env he
    refine hG_ ?_
    clear hG_ G_
    rw [hf] at hf'
    cases hf'
    exact ⟨o, ho⟩
  obtain ⟨T, k⟩ := kts_turn_at (h := h₅) hfs (fun b o e nm => K.keep b o (F.keep b o e) (fun m => nomatch m) fun hm => by
      rcases List.mem_cons.mp hm with rfl | hm
      · rw [hgL] at e; cases e
      · exact nm hm) (fun b o e hm => K.slot b o (F.keep b o e) (fun m => nomatch m) (.tail _ hm))
  refine ⟨_, T, ⟨?_, k, by rw [T.size]; exact F.above⟩, fun b o e => ?_, fun env he => ?_⟩
  · refine via fun G_ hG_ => ?_
    obtain ⟨o, es, ep, ho, hd, r⟩ := F.ns
    refine hG_ ?_
    clear hG_ G_
    obtain ⟨sl, z⟩ := K.slot L' o ho (fun m => nomatch m) (.head _)
    exact ⟨_, es, ep, z, hd, r⟩
  · refine T.other b o (B.stays b o e) fun hm => ?_
    refine via fun G_ hG_ => ?_
    obtain ⟨env, he, hf⟩ := List.mem_filterMap.mp hm
    refine hG_ ?_
    clear hG_ G_
    refine via fun G_ hG_ => ?_
    obtain ⟨_, L, _, hf', hn, _⟩ := FR env he
    refine hG_ ?_
    clear hG_ G_
    rw [hf] at hf'
    cases hf'
    rw [hn] at e
    cases e
  · refine via fun G_ hG_ => ?_
    obtain ⟨hk, L, m', hf, hn, o, es, ep, ho, hd, r⟩ := FR env he
    refine hG_ ?_
    clear hG_ G_
    obtain ⟨sl, z⟩ := T.up ho
    exact ⟨hk, L, m', hf, hn, _, es, ep, z, hd, r⟩
theorem flight_none {M : Model} {A : Around} {E : Value → Shared → Prop} {s : Shared} {e T : Addr} {oe oT : Obj} {vs ts : Array Value} {v : Value} {Q : Unit → Shared → Prop} (he : s.heap.get? e = some oe) (hd : oe.data = .fields vs) (h1 : vs[1]? = some (.ref T))
    (hT : s.heap.get? T = some oT) (hTd : oT.data = .fields ts) (h3 : ts[3]? = some v) (q : ∀ h' oT' ts' v', (∀ b, b ≠ T → h'.get? b = s.heap.get? b) → h'.get? T = some oT' → oT'.data = .fields ts' → ts'[3]? = some v' → Q () { s with heap := h' }) : wpAny M A (setFlight (.ref e) none) Q E s := by
  unfold setFlight
  refine wpAny_bind (wpAny_field he hd h1 ?_)
  rw [if_pos (show (Value.ref T != Value.none) = true from by simp)]
  have hsz := (Array.getElem?_eq_some_iff.mp h3).1
  refine wpAny_setField hT hTd hsz ?_
  exact q _ _ _ .none (fun b hb => Heap.get?_update_other _ _ (Ne.symm hb)) (Heap.get?_update_self _ hT (Obj.isFreed_of_fields (Obj.data_mapFields hTd _))) (Obj.data_mapFields hTd _) (by simp [hsz])
/-- the exception in hand -/
noncomputable def eObj (dx T : Addr) (q c3 c4 c5 c6 : Value) (sl : Array (Option Value)) : Obj := ⟨.ref 61, some dx, .fields #[q, .ref T, c3, c4, c5, c6], sl⟩
noncomputable def eDict (k1 : Int) (tk1 : Tok) (v1 : Value) (k2 : Int) (tk2 : Tok) (x : Int) (tx : Tok) (n : Nat) : Obj := dictOf [⟨k1, .str "what" tk1, v1⟩, ⟨k2, .str "at" tk2, .int x tx⟩] n
section
variable {w : World} {mean : ExcName → Option Value} {mg mb : Str → Option Value} {base : Heap} {A : Around} {E : Value → Shared → Prop} {s : Shared}
theorem catch_start {g h₀ h₂ : Heap} {l : List Env} {L' e : Addr} {m : Str → Option Value} {env : Env} {x : Int} {nw : List (Addr × Obj)} {hs : List ExceptHandler} {Q : Flow → Shared → Prop}
    (G : Gnd w mean mg mb base A h₀) (B : Below A base l g) (FR : Frs base g l) (F : Fr g L' h₂ m) (N : News g L' h₂ nw) (hfe : env.frame = some L') (hk : env.scope.kind = .function)
    (fly : Fly (frAddrs (A.deeper env)) [] h₂ e x s.heap)
    (q : ∀ g' h' dx T oT ts v qv c3 c4 c5 c6 sl k1 tk1 v1 k2 tk2 tx n, KtsTurn (frs l) g g' → (frag.heap_1 w.params).In g' → Top viewK (looseW viewK [Str.ofString "ShapeError"]) mean mg mb g' → Below A base l g' → Frs base g' l → Fr g' L' h' m →
      News g' L' h' ((e, eObj dx T qv c3 c4 c5 c6 sl) :: (dx, eDict k1 tk1 v1 k2 tk2 x tx n) :: nw) → h'.get? T = some oT → oT.data = .fields ts → ts[3]? = some v → (∀ p ∈ (e, eObj dx T qv c3 c4 c5 c6 sl) :: (dx, eDict k1 tk1 v1 k2 tk2 x tx n) :: nw, p.1 ≠ T) → L' ≠ T → g'.get? T = none →
      wpAny (model PySem.Challenge.rw_pb0173_01.row.prog w) (A.deeper env) (handleBy (.ref e) env hs) Q E { s with heap := h' }) :
    wpAny (model PySem.Challenge.rw_pb0173_01.row.prog w) (A.deeper env) (noteFrame (.ref e) env) (fun _ s₂ => wpAny (model PySem.Challenge.rw_pb0173_01.row.prog w) (A.deeper env) (setFlight (.ref e) none) (fun _ s₃ => wpAny (model PySem.Challenge.rw_pb0173_01.row.prog w) (A.deeper env) (handleBy (.ref e) env hs) Q E s₃) E s₂) E s := by
  have hst : (A.deeper env).frames = some (env :: l) := by simp only [Around.deeper, B.stack]; rfl
  have hfa : frAddrs (A.deeper env) = L' :: frs l := by rw [frAddrs_of hst]; simp [frs, hfe]
  have hbL : base.get? L' = none := base_L B F
  have FR2 : Frs base h₂ (env :: l) := fun ev hm => by
    rcases List.mem_cons.mp hm with rfl | hm
    · exact ⟨hk, L', m, hfe, hbL, F.ns⟩
    · refine via fun G_ hG_ => ?_
      obtain ⟨a1, L, m, a2, a3, o, es, ep, ho, r⟩ := FR ev hm
      refine hG_ ?_
      clear hG_ G_
      exact ⟨a1, L, m, a2, a3, o, es, ep, F.keep _ _ ho, r⟩
  rw [hfa] at fly
  have hfs : frs (env :: l) = L' :: frs l := by simp [frs, hfe]
  refine note_fly hst (FR2.kept fly.kept fun _ _ m => nomatch m) hfe fly (fun b hb => by rw [← hfs]; exact hb) fun h₃ fly₃ _ => ?_
  refine flight_fly (s := { s with heap := h₃ }) fly₃ fun h₅ fly₅ _ => ?_
  refine via fun G_ hG_ => ?_
  obtain ⟨g', T, F', st', FR'⟩ := catch_turn B FR F fly₅.kept
  refine hG_ ?_
  clear hG_ G_
  refine via fun G_ hG_ => ?_
  obtain ⟨dx, TT, oT, ts, ⟨⟨qv, sl, c3, c4, c5, c6, he⟩, k1, tk1, v1, k2, tk2, tx, n, hd⟩, hT, hTd, ⟨v, h3⟩, hTe, hTx, hde, n1, n2, n3, hdfr, hK⟩ := fly₅
  refine hG_ ?_
  clear hG_ G_
  have gn : ∀ b, h₂.get? b = none → g'.get? b = none := fun b e => T.none_ b (kts_none F.keep e)
  refine via fun G_ hG_ => ?_
  obtain ⟨oL, _, _, hoL, _⟩ := id F.ns
  refine hG_ ?_
  clear hG_ G_
  have nL : ∀ b, h₂.get? b = none → b ≠ L' := fun b e w => by rw [w, hoL] at e; cases e
  refine q g' h₅ dx TT oT ts v qv c3 c4 c5 c6 sl k1 tk1 v1 k2 tk2 tx n T (G.K.keeps st') (G.T.keeps st') ⟨B.stack, st', FR'.fun⟩ FR' F' (fun p hp => ?_) hT hTd h3 (fun p hp => ?_) (Ne.symm (nL _ n3)) (gn _ n3)
  · rcases List.mem_cons.mp hp with rfl | hp
    · exact ⟨he, nL _ n1, gn _ n1⟩
    rcases List.mem_cons.mp hp with rfl | hp
    · exact ⟨hd, nL _ n2, gn _ n2⟩
    · refine via fun G_ hG_ => ?_
      obtain ⟨a1, a2, a3⟩ := N p hp
      refine hG_ ?_
      clear hG_ G_
      refine ⟨hK.keep _ _ a1 (fun m => nomatch m) fun hm => ?_, a2, T.none_ _ a3⟩
      rcases List.mem_cons.mp hm with e | hm
      · exact a2 e
      · refine via fun G_ hG_ => ?_
        obtain ⟨ev, hev, hf⟩ := List.mem_filterMap.mp hm
        refine hG_ ?_
        clear hG_ G_
        refine via fun G_ hG_ => ?_
        obtain ⟨_, L, _, hf', _, o, _, _, ho, _⟩ := FR ev hev
        refine hG_ ?_
        clear hG_ G_
        rw [hf] at hf'
        cases hf'
        rw [a3] at ho
        cases ho
  · rcases List.mem_cons.mp hp with rfl | hp
    · exact Ne.symm hTe
    rcases List.mem_cons.mp hp with rfl | hp
    · exact Ne.symm hTx
    · intro w
      have := (N p hp).1
      rw [w, n3] at this
      cases this
theorem exc_matches {h : Heap} {gg : Array GenState} {dd : Drawn} {tt : Nat} {os : OsState} {e dx T : Addr} {qv c3 c4 c5 c6 : Value} {sl : Array (Option Value)} {Q : Bool → Shared → Prop} (X : (frag.heap_1 w.params).In h) (he : h.get? e = some (eObj dx T qv c3 c4 c5 c6 sl)) (q : Q true ⟨h, gg, dd, tt, os⟩) :
    wpAny (model PySem.Challenge.rw_pb0173_01.row.prog w) A (excMatches (.ref e) (.ref 61)) Q E ⟨h, gg, dd, tt, os⟩ := by
  have hC := X 61 _ (by k_is)
  have L1 : Looks (model PySem.Challenge.rw_pb0173_01.row.prog w) h (isInstance (.ref 61) (.type "tuple")) false := looks_instIn X (by k_is)
  have L2 : Looks (model PySem.Challenge.rw_pb0173_01.row.prog w) h (isSubtype (.ref 61) (.type "BaseException")) true := looks_subIn X (by k_is)
  have L3 : Looks (model PySem.Challenge.rw_pb0173_01.row.prog w) h (isSubtype (.ref 61) (.ref 61)) true := looks_subIn X (by k_is)
  have L5 : Looks (model PySem.Challenge.rw_pb0173_01.row.prog w) h (isInstance (.ref 61) (.type "type")) true := looks_instIn X (by k_is)
  have L4 : Looks (model PySem.Challenge.rw_pb0173_01.row.prog w) h (typeOf (.ref e)) (.ref 61) := (Looks.ld (part := none) he).andThen .now
  unfold excMatches isExcClass
  repeat (first | with_reducible refine Looks.at L1 ?_ | with_reducible refine Looks.at L2 ?_ | with_reducible refine Looks.at L3 ?_ | with_reducible refine Looks.at L4 ?_ | with_reducible refine Looks.at L5 ?_ | with_reducible refine wpAny_loadPart_at hC ?_ | with_reducible refine wpAny_loadPart_at he ?_ | wp_step)
  exact q
theorem e_cls {w : World} : ∃ cd, clsIn (frag.heap_1 w.params) 61 = some cd ∧ cd.hasDict = true := by
  have e : (clsIn (frag.heap_1 w.params) 61).map (·.hasDict) = some true := by kernel_rfl
  exact Option.map_eq_some_iff.mp e
theorem e_look {k1 k2 x : Int} {tk1 tk2 tx : Tok} {v1 : Value} {n : Nat} : lookIn (Str.ofString "at") (eDict k1 tk1 v1 k2 tk2 x tx n) = some (some (.int x tx)) := by kernel_rfl
theorem slot_e_ga : Slot "BaseException" "__getattribute__" "BaseException.__getattribute__" :=
  .of (owner := "BaseException") (n := "__getattribute__") (by rw [typeLookup_type, builtinLookup_eq_fast]; kernel_rfl) (by decide +kernel) (by decide +kernel) (by decide +kernel)
    (by first | exact .inl (by decide +kernel) | exact .inr (by decide +kernel)) (by rw [isSubtype_type]; kernel_rfl)
theorem oga_body {M : Model} {A : Around} {E : Value → Shared → Prop} {h : Heap} {gg : Array GenState} {dd : Drawn} {tt t1 : Nat} {os : OsState} {e : Addr} {C v : Value} {nm : Str} {P : PySem.Fin → Shared → Prop} (L4 : Looks M h (typeOf (.ref e)) C) (L8 : Looks M h (Builtin.ObjectAttr.find (.ref e) C nm) (.value v)) (q : P (.done (.ret v)) ⟨h, gg, dd, tt, os⟩) :
    wpAny M A (Builtin.«object.__getattribute__» ⟨[.ref e, .str nm t1], []⟩) P E ⟨h, gg, dd, tt, os⟩ := by
  unfold Builtin.«object.__getattribute__» slotArgs
  refine wpAny_bind (wpAny_pure ?_)
  try dsimp only
  refine wpAny_bind (wpAny_pure ?_)
  refine wpAny_bind (L4.at ?_)
  refine wpAny_bind (L8.at ?_)
  exact wpAny_pure q
theorem get_at {h : Heap} {gg : Array GenState} {dd : Drawn} {tt : Nat} {os : OsState} {e dx T : Addr} {qv c3 c4 c5 c6 v1 : Value} {sl : Array (Option Value)} {k1 k2 x : Int} {tk1 tk2 tx : Tok} {n : Nat} {expr : Bool} {Q : Value → Shared → Prop} (X : (frag.heap_1 w.params).In h) (he : h.get? e = some (eObj dx T qv c3 c4 c5 c6 sl)) (hd : h.get? dx = some (eDict k1 tk1 v1 k2 tk2 x tx n)) (q : Q (.int x tx) ⟨h, gg, dd, tt + 1, os⟩) :
    wpAny (model PySem.Challenge.rw_pb0173_01.row.prog w) A (getAttr (.ref e) (Str.ofString "at") expr) Q E ⟨h, gg, dd, tt, os⟩ := by
  have I : InstAt h e (eObj dx T qv c3 c4 c5 c6 sl) 61 (some (eDict k1 tk1 v1 k2 tk2 x tx n)) := ⟨he, rfl, rfl, hd⟩
  refine via fun G_ hG_ => ?_
  obtain ⟨cd, hcd, hhd⟩ := e_cls (w := w)
  refine hG_ ?_
  clear hG_ G_
  have L1 : Looks (model PySem.Challenge.rw_pb0173_01.row.prog w) h (typeLookup (.ref 61) "__getattribute__") (some (.builtin "BaseException.__getattribute__")) := looks_findIn X (by k_is)
  have L2 : Looks (model PySem.Challenge.rw_pb0173_01.row.prog w) h (typeLookup (.ref 61) "__getattr__") none := looks_findIn X (by k_is)
  have L3 : Looks (model PySem.Challenge.rw_pb0173_01.row.prog w) h (typeLookup (.ref 61) (Str.ofString "at")) none := looks_findIn X (by k_is)
  have L4 : Looks (model PySem.Challenge.rw_pb0173_01.row.prog w) h (typeOf (.ref e)) (.ref 61) := I.type
  have L5 : Looks (model PySem.Challenge.rw_pb0173_01.row.prog w) h (Builtin.ObjectAttr.inOwnDict (Str.ofString "at") (.ref e)) (some (.int x tx)) := looks_own X I hcd (by unfold PySem.W.ownOf; rw [hhd, if_pos rfl]; exact e_look)
  have L6 : Looks (model PySem.Challenge.rw_pb0173_01.row.prog w) h (isSubtype (.ref 61) (.type "BaseException")) true := looks_subIn X (by k_is)
  have L7 : Looks (model PySem.Challenge.rw_pb0173_01.row.prog w) h (isInstance (.ref e) (.type "BaseException")) true := L4.andThen L6
  have L8 : Looks (model PySem.Challenge.rw_pb0173_01.row.prog w) h (Builtin.ObjectAttr.find (.ref e) (.ref 61) (Str.ofString "at")) (.value (.int x tx)) := L3.andThen (Looks.now.andThen (Looks.now.andThen (L5.andThen (Looks.tag .now))))
  have hk : builtinKind "BaseException.__getattribute__" = some .slot := by decide +kernel
  have hsplit : splitId "BaseException.__getattribute__" = some ("BaseException", "__getattribute__") := by decide +kernel
  have hx2 : (Value.builtin "BaseException.__getattribute__" == Value.builtin "object.__getattribute__") = false := by decide +kernel
  unfold getAttr getAttrBy
  refine wpAny_bind (wpAny_mkText (wpAny_holding (wpAny_bind (L4.at (wpAny_bind (L1.at ?_))))))
  try dsimp only
  rw [hx2, Bool.and_false, if_neg Bool.false_ne_true]
  unfold getAttrByItsOwn hookBefore callGetattribute boundAndCalled
  rw [if_pos (show onTheHeap (Value.ref 61) = true from rfl)]
  refine wpAny_bind (L2.at (wpAny_bind (wpAny_attempt (wpAny_holding ?_))))
  rw [if_neg (show ¬ (expr && onTheHeap (Value.builtin "BaseException.__getattribute__")) = true by cases expr <;> exact Bool.false_ne_true)]
  refine wpAny_bind (wpAny_of_eq (slot_e_ga.bind _) ?_)
  dsimp only [List.cons_append, List.nil_append]
  refine wpAny_call ?_
  refine codeAny_call_builtin slot_e_ga.plain F.entry_bexc_ga ?_
  refine @check_slot (model PySem.Challenge.rw_pb0173_01.row.prog w) _ _ _ "BaseException.__getattribute__" "BaseException" "__getattribute__" (.ref e) [.str (Str.ofString "at") tt] [] _ hk hsplit L7 (F.args_bexc_ga (.ref e) (.str (Str.ofString "at") tt)) ?_
  refine oga_body L4 L8 ?_
  try dsimp only
  rw [handedOut_of rfl]
  exact wpAny_pure q
end
end
section
open PyProof.Rows.LCg PyProof.V
theorem entry_upd_loop : entryFor table "dict.update.loop" = some Builtin.«dict.update.loop» := entryFor_of_tree (by kernel_rfl)
theorem plain_upd_loop : plainId "dict.update.loop" = true := by decide +kernel
section
variable {prog : Program} {w : World} {A : Around} {E : Value → Shared → Prop} {s : Shared}
theorem keys_miss {a : Addr} {o : Obj} {xs : Array Value} {k : Nat} {Q : Option Value → Shared → Prop}
    (hx : s.heap.get? a = some o) (hc : o.cls = .type "list") (hdat : o.data = .seq xs k) (hd : o.dict = none) (hA : A.handled = none)
    (h : ∀ h' tk, (∀ b ob, s.heap.get? b = some ob → h'.get? b = some ob) → Q none { s with heap := h', toks := tk }) :
    wpAny (model prog w) A (getAttr? (.ref a) "keys") Q E s := by
  refine via fun G_ hG_ => ?_
  obtain ⟨c, dct, dat, sl⟩ := o
  refine hG_ ?_
  clear hG_ G_
  simp only at hc hdat hd
  subst hc hdat hd
  refine via fun G_ hG_ => ?_
  obtain ⟨hp, g, d, tk, os⟩ := s
  refine hG_ ?_
  clear hG_ G_
  have hT : ∀ tk', (⟨hp, g, d, tk', os⟩ : Shared).TypeIs (.ref a) "list" := fun _ => ⟨_, hx, rfl⟩
  have f1 := sub_AttributeError
  have f3 := F.slot_list_getattribute.lookup
  have f4 := F.slot_list_getattribute.bind (.ref a)
  have f5 := am_list_getattr_none
  have hmiss : typeLookup (.type "list") (Str.ofString "keys") = pure none := am_miss_of_fast (by decide +kernel)
  unfold getAttr? getAttrBy? getAttrBy
  repeat (any_goals (first | assumption | exact hT _ | ((with_reducible show wpAny _ _ (call (Value.builtin "list.__getattribute__") _ _) _ _ _); refine call_meets F.slot_list_getattribute (hT _) am_entry_list_getattribute (F.args_list_getattribute_2 _ _) (meets_getattribute_miss_list a xs k sl (Str.ofString "keys") _ hmiss (by decide +kernel)) ⟨hx, hA, fun h' tk' e hx' => ?_⟩) | wp_step))
  refine via fun G_ hG_ => ?_
  obtain ⟨t', u', he⟩ := hx'.there
  refine hG_ ?_
  clear hG_ G_
  show wpAny _ _ (getattributeRaised _ _ _ _ _ _ _) _ _ _
  unfold getattributeRaised
  repeat (any_goals (first | assumption | wp_step))
  exact h _ _ hx'.keeps
end
section
variable {prog : Program} {w : World} {A : Around} {R : Result → Shared → Prop} {I : Addr} {fp wr : List Addr} {n : Nat} {P : Nat → Value → Prop} {St : Nat → Heap → Prop}
theorem upd_code (W : Walks prog w A.in1 I fp wr n P St) (D : Addr) (hDf : D ∉ fp) {ps : List (Int × Int)} (hn : n = ps.length) (hnd : ps.Pairwise fun p q => p.1 < q.1) (hlen : n ≤ 100000) {h₀ : Heap}
    (hP : ∀ i v, i < n → P i v → ∃ p T t1 t2, ps[i]? = some p ∧ v = .ref T ∧ h₀.get? T = some ({ cls := .type "tuple", data := .seq #[.int p.1 t1, .int p.2 t2] } : Obj) ∧ T ≠ D ∧ T ∉ wr) :
    ∀ (k i : Nat) (c : Int) (tc : Tok) (s : Shared) (kvs : List (Int × Value)), n - i = k → i ≤ n → St i s.heap → (∀ b o, h₀.get? b = some o → b ≠ D → b ∉ wr → s.heap.get? b = some o) → s.heap.DictOf (intKind prog w) D kvs → FlatPairs PyData.int kvs (intD (ps.take i)) →
      (∀ h' tk kvs', (∀ b o, h₀.get? b = some o → b ≠ D → b ∉ wr → h'.get? b = some o) → h'.DictOf (intKind prog w) D kvs' → FlatPairs PyData.int kvs' (intD ps) → R (.ok (.ret .none)) { s with heap := h', toks := tk }) →
      codeAny (model prog w) A (.builtin "dict.update.loop" ⟨[.ref D, .ref I, .int c tc, .none], []⟩) R s := by
  have hDw : D ∉ wr := fun h => hDf (W.sub _ h)
  intro k
  induction k with
  | zero =>
    intro i c tc s kvs hk hi hst hbase hD hf hR
    have hin : i = n := by (first | exact q320 (by assumption) (by assumption) (by assumption) | omega)
    subst hin
    refine codeAny_builtin entry_upd_loop ?_
    rw [Around.under_plainId plain_upd_loop _]
    show wpAny _ A.in1 (pyNext (.ref I) >>= _) _ _ s
    refine wpAny_bind (W.done s _ _ hst fun h' tk hm => ?_)
    show wpAny _ A.in1 (Builtin.Dict.addKeywords D [] >>= _) _ _ _
    refine wpAny_bind (wpAny_pure ?_)
    refine wpAny_pure (hR h' tk kvs (fun b o e hb hw => hm b o hw (hbase b o e hb hw)) (hD.at fun o e => hm _ _ hDw e) ?_)
    rw [hn, List.take_length] at hf
    exact hf
  | succ k ih =>
    intro i c tc s kvs hk hi hst hbase hD hf hR
    have hlt : i < n := by (first | exact q321 (by assumption) (by assumption) (by assumption) | omega)
    refine codeAny_builtin entry_upd_loop ?_
    rw [Around.under_plainId plain_upd_loop _]
    show wpAny _ A.in1 (pyNext (.ref I) >>= _) _ _ s
    refine wpAny_bind (W.item i s _ _ hlt hst fun v h' tk hPv hst' hm => ?_)
    refine via fun G_ hG_ => ?_
    obtain ⟨p, T, t1, t2, hp, rfl, hT, hTD, hTw⟩ := hP i v hlt hPv
    refine hG_ ?_
    clear hG_ G_
    have hT' : h'.get? T = some ({ cls := .type "tuple", data := .seq #[.int p.1 t1, .int p.2 t2] } : Obj) := hm _ _ hTw (hbase _ _ hT hTD hTw)
    have hD' : h'.DictOf (intKind prog w) D kvs := hD.at fun o e => hm _ _ hDw e
    show wpAny _ A.in1 (holding [Value.ref T] _ >>= _) _ _ _
    refine wpAny_bind (wpAny_holding (wpAny_bind (wpAny_tryCatch ?_)))
    unfold Builtin.Dict.pairItems
    refine wpAny_bind (wpAny_typeOf (⟨_, hT', rfl⟩ : Shared.TypeIs _ (.ref T) "tuple") ?_)
    rw [if_pos (by decide)]
    refine wpAny_bind (wpAny_seqItems hT' rfl ?_)
    refine wpAny_pure ?_
    show wpAny _ A.in1 (holding [Value.int p.1 t1, Value.int p.2 t2] (dictSet D (.int p.1 t1) (.int p.2 t2))) _ _ _
    have hkl : kvs.length ≤ 100000 := by
      rw [← hf.length]
      simp only [intD, List.length_map, List.length_take]
      (first | exact q322 (by assumption) (by assumption) (by assumption) | omega)
    refine wpAny_holding (wpAny_dictSet_pairs (knd := intKind prog w) (k := p.1) (intKind_is _ _ _ _) hD' (fun h2 hd2 sb2 => ?_) (by rw [PySem.sizeLine_eq]; (first | exact q128 (by assumption) | omega)))
    have hfr : ∀ q ∈ ps.take i, q.1 ≠ p.1 := fun q hq => by
      obtain ⟨j, hj⟩ := List.getElem?_of_mem hq
      have hji : j < i := by
        have := (List.getElem?_eq_some_iff.mp hj).1
        simp at this
        omega
      rw [List.getElem?_take_of_lt hji] at hj
      obtain ⟨h1, e1⟩ := List.getElem?_eq_some_iff.mp hj
      obtain ⟨h2, e2⟩ := List.getElem?_eq_some_iff.mp hp
      have := List.pairwise_iff_getElem.mp hnd j i h1 h2 hji
      rw [e1, e2] at this
      (first | exact q139 (by assumption) | omega)
    have hf2 := hf.stored same_int p.1 (Flat.int p.2 t2)
    rw [intD_putD hfr, ← take_succ_of hp] at hf2
    refine wpAny_pure ⟨plainId_quiet plain_upd_loop _, ih (i + 1) _ _ _ _ (by (first | exact q324 (by assumption) (by assumption) (by assumption) | omega)) hlt (W.frame _ _ _ hst' fun b hb o e => ?_) (fun b o e hb hw => ?_) hd2 hf2 hR⟩
    · rw [sb2.2 b (fun h : b = D => hDf (by rw [← h]; exact hb))]; exact e
    · rw [sb2.2 b hb]
      exact hm _ _ hw (hbase b o e hb hw)
end
section
variable {prog : Program} {w : World} {A : Around} {E : Value → Shared → Prop} {s : Shared} {h₀ : Heap} {L : Addr} {m : Str → Option Value} {news : List (Addr × Obj)}
theorem dict_pairs {l : Addr} {ys : List Value} {n : Nat} {ps : List (Int × Int)} {fro : List (Addr × Obj)} {Q : Value → Shared → Prop} (hh : A.handled = none) (Fm : Fr h₀ L s.heap m) (N : News h₀ L s.heap news) (hbig : sysModules < h₀.objs.size)
    (hl : (l, ({ cls := .type "list", data := .seq ys.toArray n } : Obj)) ∈ news) (hP : PairsIn ys ps fro) (hsub : ∀ p ∈ fro, p ∈ news) (hnd : ps.Pairwise fun p q => p.1 < q.1) (hlen : ps.length ≤ 100000)
    (k : ∀ D h' tk o kvs, Fr h₀ L h' m → News h₀ L h' ((D, o) :: news) → (D == sysModules) = false → o.IsDictOf (intKind prog w) kvs → FlatPairs PyData.int kvs (intD ps) → (∀ p ∈ news, LT.lt (α := Nat) p.1 D) → Q (.ref D) { s with heap := h', toks := tk }) :
    wpAny (model prog w) A (call (.type "dict") [.ref l]) Q E s := by
  have hol := (N _ hl).1
  have hlt : l < s.heap.objs.size := Heap.lt_size hol
  refine callType_codes (Q₁ := fun obj s₁ => obj = .ref s.heap.objs.size ∧ s₁ = { s with heap := s.heap.push { cls := .type "dict", data := .dict #[] } }) F.kt_called_dict (F.kt_typeCall_dict_1 _) F.entry_dict_init (kt_code_dict_new _ ⟨rfl, rfl⟩) ?_
  rintro obj s₁ ⟨rfl, rfl⟩
  generalize hDD : s.heap.objs.size = D at hlt
  have hnew : (s.heap.push { cls := .type "dict", data := .dict #[] }).DictOf (intKind prog w) D [] := hDD ▸ Heap.DictOf.new s.heap
  have ho1 : (s.heap.push { cls := .type "dict", data := .dict #[] }).get? l = some ({ cls := .type "list", data := .seq ys.toArray n } : Obj) := Heap.get?_push_of_some _ hol
  have hT1 : Shared.TypeIs { s with heap := s.heap.push { cls := .type "dict", data := .dict #[] } } (.ref l) "list" := ⟨_, ho1, rfl⟩
  have hDT : Shared.TypeIs { s with heap := s.heap.push { cls := .type "dict", data := .dict #[] } } (.ref D) "dict" := hnew.typeIs
  refine ⟨hDT, F.args_dict_init_2 _ _, ?_⟩
  unfold Builtin.«dict.__init__»
  refine wpAny_bind ?_
  unfold Builtin.Dict.selfAndRest
  refine wpAny_bind (wpAny_notOrdered_dict hDT ?_)
  show wpAny _ _ (pure (D, [Value.ref l])) _ _ _
  refine wpAny_pure ?_
  show wpAny _ _ (Builtin.Dict.updateFrom "dict.__init__" D (.ref l) [] .none) _ _ _
  unfold Builtin.Dict.updateFrom
  refine wpAny_bind (wpAny_typeOf hT1 ?_)
  rw [if_pos (by decide)]
  refine wpAny_bind (keys_miss ho1 rfl rfl rfl hh fun h2 tk2 k2 => ?_)
  rw [if_pos (show ((none : Option Value).isNone) = true from rfl)]
  refine wpAny_bind (wpAny_rule ?_)
  have hl2 : h2.IsList l ys.toArray := ⟨_, k2 _ _ ho1, rfl, _, rfl⟩
  have hl2lt : l < h2.objs.size := Heap.lt_size (k2 _ _ ho1)
  refine via fun G_ hG_ => ?_
  obtain ⟨oD0, hoD0, _⟩ := Heap.dictOf_iff.mp hnew
  refine hG_ ?_
  clear hG_ G_
  have hDlt : D < h2.objs.size := Heap.lt_size (k2 _ _ hoD0)
  have hle : ∀ b o, s.heap.get? b = some o → LT.lt (α := Nat) b D := fun b o e => hDD ▸ Heap.lt_size e
  refine wpAny_bind (wpAny_pyIter_list hl2 ?_)
  have W := Walks.list (prog := prog) (w := w) (A := A.in1.in1) hh h2.objs.size l (Nat.ne_of_lt hl2lt) ys.toArray
  refine wpAny_pure ⟨plainId_quiet plain_upd_loop _, ?_⟩
  have hIt : ∀ (b : Addr) (o : Obj), s.heap.get? b = some o → b ≠ h2.objs.size := fun b o e => Nat.ne_of_lt (Nat.lt_trans (hle b o e) hDlt)
  refine upd_code (h₀ := s.heap) W D ?_ (by rw [List.size_toArray]; exact hP.1) hnd (by rw [List.size_toArray, hP.1]; exact hlen) ?_ ys.toArray.size 0 0 0 _ [] (Nat.sub_zero _) (Nat.zero_le _) ⟨⟨_, Heap.get?_push_size _ rfl, rfl, rfl⟩, hl2.push _⟩ ?_ ?_ .nil ?_
  · intro hm
    rcases List.mem_cons.mp hm with e | hm
    · exact Nat.lt_irrefl _ (e ▸ hDlt)
    · rw [List.mem_singleton.mp hm] at hlt; exact Nat.lt_irrefl _ hlt
  · intro i v hi hv
    have hi' : i < ps.length := by rw [← hP.1]; simpa using hi
    refine via fun G_ hG_ => ?_
    obtain ⟨T, t1, t2, e1, e2⟩ := hP.2 i ps[i] (by simp [hi'])
    refine hG_ ?_
    clear hG_ G_
    have hv2 : v = .ref T := by
      have : ys[i]? = some v := by simpa using hv
      rw [e1] at this
      exact (Option.some.inj this).symm
    have nT := (N _ (hsub _ e2)).1
    exact ⟨ps[i], T, t1, t2, by simp [hi'], hv2, nT, Nat.ne_of_lt (hle _ _ nT), fun hm => hIt _ _ nT (List.mem_singleton.mp hm)⟩
  · intro b o e _ _
    exact Heap.get?_push_of_some _ (k2 _ _ (Heap.get?_push_of_some _ e))
  · exact (hnew.at fun o e => Heap.get?_push_of_some _ (k2 _ _ e))
  · intro h3 tk3 kvs k3 hd3 hf3
    refine ⟨rfl, ?_⟩
    refine via fun G_ hG_ => ?_
    obtain ⟨oD, hoD, hkd⟩ := Heap.dictOf_iff.mp hd3
    refine hG_ ?_
    clear hG_ G_
    have up : ∀ b o, s.heap.get? b = some o → h3.get? b = some o := fun b o e => k3 b o e (Nat.ne_of_lt (hle b o e)) fun hm => hIt b o e (List.mem_singleton.mp hm)
    refine k D h3 tk3 oD kvs (Fm.keeps up) (fun p hp => ?_) (hDD ▸ Fm.notModules hbig) hkd hf3 fun p hp => hle _ _ (N p hp).1
    rcases List.mem_cons.mp hp with rfl | hp
    · refine ⟨hoD, fun e => ?_, ?_⟩
      · have := Fm.ns.lt
        have e' : D = L := e
        rw [hDD, e'] at this
        exact Nat.lt_irrefl _ this
      · cases z : h₀.get? D with
        | none => rfl
        | some o => exact absurd (hle _ _ (Fm.keep _ _ z)) (Nat.lt_irrefl _)
    · exact ⟨up _ _ (N p hp).1, (N p hp).2⟩
end
end
section
open PyProof.Rows.LCg PyProof.V
section
variable {prog : Program} {w : World} {A : Around} {E : Value → Shared → Prop} {s : Shared} {env : Env} {h₀ : Heap} {x : Str} {body : List Stmt} {Q : Flow → Shared → Prop} {m₀ : Str → Option Value} {news : List (Addr × Obj)}
/-- over a list of ints made in the call, which the ledger leaves out -/
theorem made_loop {l : Addr} {vs : List Value} {ns : List Int} (ys : List Str) (J : Nat → (Str → Option Value) → List (Addr × Obj) → Prop)
    (hh : A.handled = none) (hl : s.heap.IsList l vs.toArray) (hlo : ∀ p ∈ news, p.1 ≠ l) (hlL : l ≠ env.locals) (hi : IntsAre vs ns) (F : Fr h₀ env.locals s.heap m₀) (N : News h₀ env.locals s.heap news) (hR : J 0 m₀ news)
    (turn : ∀ i k t m₁ nx h tk own, ns[i]? = some k → OwnOff own (news.map (·.1)) → nx.map (·.1) = news.map (·.1) → J i m₁ nx → Mine.Keeps x ys m₀ m₁ → Fr h₀ env.locals h (fun y => if y = x then some (.int k t) else m₁ y) → News h₀ env.locals h (nx ++ own) →
      wpAny (model prog w) A (execs body env) (InvPostN h₀ env.locals (fun m nx => J (i + 1) m nx ∧ Mine.Keeps x ys m₀ m) own (news.map (·.1)) { s with heap := h, toks := tk } Q) E { s with heap := h, toks := tk })
    (done : ∀ m₁ nx h tk, J ns.length m₁ nx → Mine.Keeps x ys m₀ m₁ → Fr h₀ env.locals h m₁ → News h₀ env.locals h nx → Q .next { s with heap := h, toks := tk }) :
    wpAny (model prog w) A (pyIter (.ref l)) (fun it s₂ => LoopAtV prog w A h₀ env x body Q E it s₂) E s := by
  have hlt : l < s.heap.objs.size := by obtain ⟨_, e, _⟩ := hl; exact Heap.lt_size e
  refine wpAny_pyIter_list hl ?_
  have W := Walks.list (prog := prog) (w := w) hh s.heap.objs.size l (Nat.ne_of_lt hlt) vs.toArray
  have hsz : vs.toArray.size = ns.length := by rw [List.size_toArray]; exact hi.length
  rw [hsz] at W
  refine loop_invN (fun i m nx => J i m nx ∧ Mine.Keeps x ys m₀ m) W ?_ ?_ ?_ ?_ ⟨⟨_, Heap.get?_push_size _ rfl, rfl, rfl⟩, hl.push _⟩ (F.push _) (fun p hp => ⟨Heap.get?_push_of_some _ (N p hp).1, (N p hp).2⟩) ⟨hR, Mine.Keeps.refl _ _ _⟩ ?_ ?_
  · intro hm
    rcases List.mem_cons.mp hm with e | hm
    · exact absurd F.ns.lt (e ▸ Nat.lt_irrefl _)
    · exact hlL (List.mem_singleton.mp hm).symm
  · intro b' hb
    rw [List.mem_singleton.mp hb]
    exact next_is_new F
  · intro p hp hI
    exact absurd (Heap.lt_size (N p hp).1) ((List.mem_singleton.mp hI) ▸ Nat.lt_irrefl _)
  · intro p hp hI
    rcases List.mem_cons.mp hI with e | hI
    · exact absurd (Heap.lt_size (N p hp).1) (e ▸ Nat.lt_irrefl _)
    · exact hlo p hp (List.mem_singleton.mp hI)
  · rintro i v m₁ nx h tk own hn hv hadr ho hr' F' N'
    obtain ⟨t, e⟩ := hi.int_at i v (by simpa using hv)
    have hk : ns[i]? = some (ns.getD i 0) := by simp [List.getD, hn]
    subst e
    exact turn i _ t m₁ nx h tk own hk ho hadr hr'.1 hr'.2 F' N'
  · intro m₁ nx h tk hJ F' N'
    exact done m₁ nx h tk hJ.1 hJ.2 F' N'
end
theorem off_fresh {A : Around} {base g : Heap} {l : List Env} {a : Addr} (B : Below A base l g) (FR : Frs base g l) (hg : g.get? a = none) : a ∉ frAddrs A := fun m => by
  rw [frAddrs_in B] at m
  refine via fun G_ hG_ => ?_
  obtain ⟨env, he, hf⟩ := List.mem_filterMap.mp m
  refine hG_ ?_
  clear hG_ G_
  refine via fun G_ hG_ => ?_
  obtain ⟨_, L, _, hf', _, o, _, _, ho, _⟩ := FR env he
  refine hG_ ?_
  clear hG_ G_
  rw [hf] at hf'
  cases hf'
  rw [hg] at ho
  cases ho
theorem clsOf_none {k : Int} : ∀ {ps : List (Int × Int)}, (∀ p ∈ ps, p.1 ≠ k) → clsOf ps k = 0
  | [], _ => rfl
  | p :: r, h => by
    unfold clsOf
    rw [if_neg (h p (.head _))]
    exact clsOf_none fun q hq => h q (.tail _ hq)
theorem clsOf_marks {k : Int} : ∀ {ps : List (Int × Int)}, ps.Pairwise (fun p q => p.1 < q.1) → clsOf (marks ps) k = clsOf ps k
  | [], _ => rfl
  | p :: r, h => by
    obtain ⟨h1, h2⟩ := List.pairwise_cons.mp h
    have ih := clsOf_marks (k := k) h2
    unfold marks at ih ⊢
    by_cases q : p.2 = 0
    · simp only [List.filter_cons, ne_eq, q, not_true_eq_false, decide_false, Bool.false_eq_true, if_false]
      rw [ih]
      by_cases e : p.1 = k
      · have : clsOf r k = 0 := clsOf_none fun s hs => by have := h1 s hs; (first | exact q325 (by assumption) (by assumption) | omega)
        rw [this]
        unfold clsOf
        rw [if_pos e, q]
      · conv => rhs; unfold clsOf
        rw [if_neg e]
    · simp only [List.filter_cons, ne_eq, q, not_false_eq_true, decide_true, if_true]
      unfold clsOf
      by_cases e : p.1 = k
      · rw [if_pos e, if_pos e]
      · rw [if_neg e, if_neg e]; exact ih
end
section
open PySem.SetTable
theorem len_le : ∀ {l m : List Nat}, l.Nodup → (∀ x ∈ l, x ∈ m) → l.length ≤ m.length
  | [], _, _, _ => Nat.zero_le _
  | x :: l, m, hn, hs => by
    obtain ⟨h1, h2⟩ := List.nodup_cons.mp hn
    have hx := hs x (.head _)
    have := len_le (m := m.erase x) h2 fun y hy => (List.mem_erase_of_ne (by rintro rfl; exact h1 hy)).mpr (hs y (.tail _ hy))
    rw [List.length_erase_of_mem hx] at this
    have := List.length_pos_of_mem hx
    simp only [List.length_cons]
    (first | exact q327 (by assumption) (by assumption) | omega)
/-- the places that a search leaps to -/
noncomputable def orb (mask : Nat) (q : Nat × Nat) : Nat → Nat × Nat
  | 0 => q
  | k + 1 => leap mask (orb mask q k).1 (orb mask q k).2
noncomputable def stepN (mask : Nat) (c : Nat) : Nat → Nat
  | 0 => c
  | k + 1 => (stepN mask c k * 5 + 1) % (mask + 1)
theorem orb_succ (mask : Nat) (q : Nat × Nat) : ∀ k, orb mask q (k + 1) = orb mask (leap mask q.1 q.2) k
  | 0 => rfl
  | k + 1 => by
    show leap mask (orb mask q (k + 1)).1 (orb mask q (k + 1)).2 = _
    rw [orb_succ mask q k]
    rfl
theorem orb_pe (mask : Nat) (q : Nat × Nat) : ∀ k, (orb mask q k).2 = q.2 / 32 ^ k
  | 0 => by simp [orb]
  | k + 1 => by
    show (orb mask q k).2 / 32 = _
    rw [orb_pe mask q k, Nat.div_div_eq_div_mul, Nat.pow_succ]
theorem orb_zero {mask : Nat} {q : Nat × Nat} (h : q.2 = 0) : ∀ k, orb mask q k = (stepN mask q.1 k, 0)
  | 0 => by obtain ⟨a, b⟩ := q; cases h; rfl
  | k + 1 => by
    show leap mask (orb mask q k).1 (orb mask q k).2 = _
    rw [orb_zero h k]
    simp [leap, stepN]
theorem orb_add (mask : Nat) (q : Nat × Nat) (a : Nat) : ∀ b, orb mask q (a + b) = orb mask (orb mask q a) b
  | 0 => rfl
  | b + 1 => by
    show leap mask (orb mask q (a + b)).1 (orb mask q (a + b)).2 = _
    rw [orb_add mask q a b]
    rfl
theorem all7 : ((List.range 8).all fun c => (List.range 8).all fun j => (List.range 8).any fun m => stepN 7 c m == j) = true := by decide +kernel
theorem all31 : ((List.range 32).all fun c => (List.range 32).all fun j => (List.range 32).any fun m => stepN 31 c m == j) = true := by decide +kernel
theorem bits_lt (h : Int) : bits h < 2 ^ 64 := by
  unfold bits
  have := Int.emod_lt_of_pos h (show (0 : Int) < 2 ^ 64 by decide)
  have := Int.emod_nonneg h (show (2 : Int) ^ 64 ≠ 0 by decide)
  (first | exact q326 (by assumption) | omega)
theorem orb_hits {mask : Nat} (hm : mask = 7 ∨ mask = 31) {i pe j : Nat} (hp : pe < 2 ^ 64) (hj : j < mask + 1) : ∃ m, m < mask + 15 ∧ (orb mask (i, pe) m).1 = j := by
  have h14 : (orb mask (i, pe) 14).2 = 0 := by
    rw [orb_pe]
    exact Nat.div_eq_of_lt (Nat.lt_of_lt_of_le hp (by decide))
  have hc : (orb mask (i, pe) 14).1 < mask + 1 := Nat.mod_lt _ (Nat.succ_pos _)
  refine via fun G_ hG_ => ?_
  obtain ⟨m, hm1, hm2⟩ : ∃ m, m < mask + 1 ∧ stepN mask (orb mask (i, pe) 14).1 m = j := by
    generalize (orb mask (i, pe) 14).1 = c at hc
    rcases hm with rfl | rfl
    · have := List.any_eq_true.mp (List.all_eq_true.mp (List.all_eq_true.mp all7 c (List.mem_range.mpr hc)) j (List.mem_range.mpr hj))
      obtain ⟨m, a, b⟩ := this
      exact ⟨m, List.mem_range.mp a, by simpa using b⟩
    · have := List.any_eq_true.mp (List.all_eq_true.mp (List.all_eq_true.mp all31 c (List.mem_range.mpr hc)) j (List.mem_range.mpr hj))
      obtain ⟨m, a, b⟩ := this
      exact ⟨m, List.mem_range.mp a, by simpa using b⟩
  refine hG_ ?_
  clear hG_ G_
  refine ⟨14 + m, by (first | exact q337 (by assumption) | omega), ?_⟩
  rw [orb_add, orb_zero h14, hm2]
section
variable {t : SetTable} {ha : Nat → Int} {h : Int}
theorem slot_or (hd : t.dummies = #[]) (j : Nat) : t.slot j = .empty ∨ ∃ i, t.slot j = .live i ∧ j ∈ t.place.toList := by
  unfold SetTable.slot
  try dsimp only
  by_cases q : (t.place[below t.place j]? == some j) = true
  · rw [if_pos q]
    refine .inr ⟨_, rfl, ?_⟩
    exact Array.mem_toList_iff.mpr (Array.mem_of_getElem? (eq_of_beq q))
  · rw [if_neg q, hd]
    exact .inl rfl
noncomputable def nextP (t : SetTable) (p : Probe) : Probe := { p with j := (leap t.mask p.i p.perturb).1, more := runEnd t.mask (leap t.mask p.i p.perturb).1 - (leap t.mask p.i p.perturb).1, i := (leap t.mask p.i p.perturb).1, perturb := (leap t.mask p.i p.perturb).2 }
noncomputable def startP (t : SetTable) (q : Nat × Nat) : Probe := { j := q.1, more := runEnd t.mask q.1 - q.1, i := q.1, perturb := q.2, dummy := none }
theorem go_cases (hd : t.dummies = #[]) (hne : ∀ i, (ha i == h) = false) (p : Probe) :
    (∀ f, probe.go t ha h (f + 1) p = some (.empty p.j p.dummy)) ∨ (p.j ∈ t.place.toList ∧ ∀ f, probe.go t ha h (f + 1) p = probe.go t ha h f (t.advance p)) := by
  rcases slot_or hd p.j with e | ⟨i, e, hm⟩
  · refine .inl fun f => ?_
    rw [probe.go, e]
  · refine .inr ⟨hm, fun f => ?_⟩
    rw [probe.go, e]
    try dsimp only
    rw [if_neg (by rw [hne i]; exact Bool.false_ne_true)]
theorem go_or (hd : t.dummies = #[]) (hne : ∀ i, (ha i == h) = false) : ∀ f p, p.dummy = none → probe.go t ha h f p = none ∨ ∃ j, probe.go t ha h f p = some (.empty j none)
  | 0, _, _ => .inl (by rw [probe.go])
  | f + 1, p, hp => by
    rcases go_cases hd hne p with e | ⟨_, e⟩
    · exact .inr ⟨p.j, by rw [e, hp]⟩
    · rw [e]
      refine go_or hd hne f _ ?_
      unfold SetTable.advance
      split <;> exact hp
theorem go_less (hd : t.dummies = #[]) (hne : ∀ i, (ha i == h) = false) : ∀ f k p, probe.go t ha h (f + k) p = none → probe.go t ha h f p = none
  | 0, _, _, _ => by rw [probe.go]
  | f + 1, k, p, e => by
    rw [Nat.add_right_comm] at e
    rcases go_cases hd hne p with e' | ⟨hm, e'⟩
    · rw [e'] at e; cases e
    · rw [e'] at e ⊢
      exact go_less hd hne f k _ e
theorem go_run (hd : t.dummies = #[]) (hne : ∀ i, (ha i == h) = false) (f : Nat) : ∀ (r : Nat) (p : Probe), p.more = r → probe.go t ha h (f + r + 1) p = none → p.j ∈ t.place.toList ∧ probe.go t ha h f (nextP t p) = none
  | 0, p, hr, e => by
    rcases go_cases hd hne p with e' | ⟨hm, e'⟩
    · rw [e'] at e; cases e
    · refine ⟨hm, ?_⟩
      rw [e'] at e
      unfold SetTable.advance at e
      rw [if_neg (by (first | exact q332 (by assumption) | omega))] at e
      exact e
  | r + 1, p, hr, e => by
    rcases go_cases hd hne p with e' | ⟨hm, e'⟩
    · rw [e'] at e; cases e
    · refine ⟨hm, ?_⟩
      rw [e'] at e
      unfold SetTable.advance at e
      rw [if_pos (by (first | exact q334 (by assumption) | omega))] at e
      exact (go_run hd hne f r { p with j := p.j + 1, more := p.more - 1 } (by show p.more - 1 = r; (first | exact q333 (by assumption) | omega)) e).2
theorem go_orb (hd : t.dummies = #[]) (hne : ∀ i, (ha i == h) = false) : ∀ (k : Nat) (q : Nat × Nat), probe.go t ha h (10 * k) (startP t q) = none → ∀ m < k, (orb t.mask q m).1 ∈ t.place.toList
  | 0, _, _, m, hm => absurd hm (Nat.not_lt_zero _)
  | k + 1, q, e, m, hm => by
    have hmore : (startP t q).more ≤ 9 := by
      show runEnd t.mask q.1 - q.1 ≤ 9
      unfold runEnd
      split <;> (first | exact q328 | exact q329 | omega)
    have e2 : probe.go t ha h (10 * k + (startP t q).more + 1) (startP t q) = none := go_less hd hne _ (9 - (startP t q).more) _ (by rw [show 10 * k + (startP t q).more + 1 + (9 - (startP t q).more) = 10 * (k + 1) from by (first | exact q330 (by assumption) | omega)]; exact e)
    obtain ⟨h1, h2⟩ := go_run hd hne (10 * k) _ _ rfl e2
    match m with
    | 0 => exact h1
    | m + 1 =>
      rw [orb_succ]
      exact go_orb hd hne k (leap t.mask q.1 q.2) h2 m (by (first | exact q331 (by assumption) | omega))
theorem free_slot (hd : t.dummies = #[]) (hm : t.mask = 7 ∨ t.mask = 31) (hs : t.place.size ≤ t.mask) (h : Int) : ∃ j, t.freeSlot h = some (j, false) := by
  have hne : ∀ i : Nat, ((fun _ => h + 1 : Nat → Int) i == h) = false := fun i => by simp; (first | exact q338 | omega)
  unfold SetTable.freeSlot SetTable.probe
  rcases go_or (ha := fun _ => h + 1) (h := h) hd hne (10 * turns t.mask) (t.probeStart h) rfl with e | ⟨j, e⟩
  · exfalso
    have := go_orb hd hne (turns t.mask) (bits h % (t.mask + 1), bits h) e
    have hall : ∀ j ∈ List.range (t.mask + 1), j ∈ t.place.toList := fun j hj => by
      refine via fun G_ hG_ => ?_
      obtain ⟨m, a, b⟩ := orb_hits (i := bits h % (t.mask + 1)) hm (bits_lt h) (List.mem_range.mp hj)
      refine hG_ ?_
      clear hG_ G_
      rw [← b]
      exact this m a
    have := len_le List.nodup_range hall
    simp at this
    omega
  · rw [e]; exact ⟨j, rfl⟩
end
theorem lay_new {t : SetTable} {es : Array (Int × Value)} (hd : t.dummies = #[]) (hm : t.mask = 7 ∨ t.mask = 31) (hs : t.place.size = es.size) (hlt : es.size + 1 ≤ t.mask) (h : Int) (x : Value) :
    ∃ es1 t1, layNew t es h x = (es1, t1, false, false) ∧ t1.plain = t.plain ∧ t1.led = t.led ∧ t1.dummies = #[] ∧ t1.mask = t.mask ∧ t1.place.size = es.size + 1 ∧ t1.finger = t.finger ∧ t1.moves = t.moves := by
  obtain ⟨j, e⟩ := free_slot hd hm (by (first | exact q335 (by assumption) (by assumption) | omega)) h
  have hes : (insertAt es (below t.place j) (h, x)).size = es.size + 1 := by rw [← Array.length_toList, (insertAt_perm _ _ _).length_eq]; simp
  have hpl : (insertAt t.place (below t.place j) j).size = es.size + 1 := by rw [← Array.length_toList, (insertAt_perm _ _ _).length_eq]; simp [hs]
  have hput : t.put j = ({ t with place := insertAt t.place (below t.place j) j, dummies := #[] }, below t.place j) := by
    unfold SetTable.put
    try dsimp only
    rw [hd]
    rfl
  have hfit : ({ t with place := insertAt t.place (below t.place j) j, dummies := #[] } : SetTable).fits (es.size + 1) = true := by
    unfold SetTable.fits
    rw [Bool.and_eq_true]
    exact ⟨beq_iff_eq.mpr hpl, decide_eq_true (show (insertAt t.place (below t.place j) j).size + 0 ≤ t.mask by (first | exact q336 (by assumption) (by assumption) (by assumption) | omega))⟩
  refine ⟨insertAt es (below t.place j) (h, x), { t with place := insertAt t.place (below t.place j) j, dummies := #[] }, ?_, rfl, rfl, rfl, rfl, hpl, rfl, rfl⟩
  unfold layNew
  rw [e]
  try dsimp only
  rw [hput]
  try dsimp only
  unfold SetTable.orStandIn
  rw [hes, hfit]
  rfl
end
section
open PySem.SetTable
theorem free_none {mask : Nat} {owner : Array (Option Nat)} : ∀ (f i pe : Nat), layClean.free mask owner f i pe = none → ∀ m < f, (owner.getD (orb mask (i, pe) m).1 (some 0)).isNone = false
  | 0, _, _, _, m, hm => absurd hm (Nat.not_lt_zero _)
  | f + 1, i, pe, e, m, hm => by
    rw [layClean.free] at e
    split at e
    · cases e
    · rename_i e1
      match m with
      | 0 =>
        have := List.find?_eq_none.mp e1 0 (List.mem_range.mpr (by unfold runEnd; split <;> (first | exact q341 | exact q342 | omega)))
        exact Bool.not_eq_true _ ▸ this
      | m + 1 =>
        rw [orb_succ]
        exact free_none f _ _ e m (by (first | exact q331 (by assumption) | omega))
theorem free_is {mask : Nat} {owner : Array (Option Nat)} : ∀ (f i pe : Nat) {j : Nat}, layClean.free mask owner f i pe = some j → (owner.getD j (some 0)).isNone = true
  | 0, _, _, _, e => by rw [layClean.free] at e; cases e
  | f + 1, i, pe, j, e => by
    rw [layClean.free] at e
    split at e
    · rename_i k e1
      cases e
      exact List.find?_some (p := fun k => (owner.getD (i + k) (some 0)).isNone) e1
    · exact free_is f _ _ e
theorem set_perm {k : Nat} : ∀ {l : List (Option Nat)} {j : Nat}, l[j]? = some none → ((l.set j (some k)).filterMap id).Perm (k :: l.filterMap id)
  | [], _, e => by simp at e
  | a :: l, 0, e => by
    simp only [List.getElem?_cons_zero, Option.some.injEq] at e
    subst e
    exact .refl _
  | a :: l, j + 1, e => by
    simp only [List.getElem?_cons_succ] at e
    have ih := set_perm (k := k) e
    rw [List.set_cons_succ]
    cases a with
    | none => exact ih
    | some b =>
      show (b :: (l.set j (some k)).filterMap id).Perm (k :: b :: l.filterMap id)
      exact (ih.cons b).trans (List.Perm.swap k b _)
theorem all_len : ∀ {l : List (Option Nat)}, (∀ x ∈ l, x ≠ none) → (l.filterMap id).length = l.length
  | [], _ => rfl
  | none :: _, h => absurd rfl (h none (.head _))
  | some a :: l, h => by
    show ((a :: l.filterMap id).length) = _
    simp only [List.length_cons]
    rw [all_len fun x hx => h x (.tail _ hx)]
structure Owner (owner : Array (Option Nat)) (k : Nat) : Prop where
  size : owner.size = 32
  perm : (owner.toList.filterMap id).Perm (List.range k)
theorem owner_free {owner : Array (Option Nat)} {k : Nat} (O : Owner owner k) (hk : k < 32) (h : Int) : ∃ j, layClean.free 31 owner (turns 31) (bits h % 32) (bits h) = some j ∧ owner[j]? = some none := by
  cases e : layClean.free 31 owner (turns 31) (bits h % 32) (bits h) with
  | some j =>
    refine ⟨j, rfl, ?_⟩
    have := free_is _ _ _ e
    unfold Array.getD at this
    split at this
    · rename_i hj
      rw [Array.getElem?_eq_getElem hj]
      have : owner[j] = none := by simpa using this
      rw [this]
    · simp at this
  | none =>
    exfalso
    have hn := free_none _ _ _ e
    have hall : ∀ x ∈ owner.toList, x ≠ none := fun x hx q => by
      refine via fun G_ hG_ => ?_
      obtain ⟨j, hj, ej⟩ := List.getElem_of_mem hx
      refine hG_ ?_
      clear hG_ G_
      have hj' : j < owner.size := by simpa using hj
      obtain ⟨m, a, b⟩ := orb_hits (mask := 31) (i := bits h % 32) (j := j) (.inr rfl) (bits_lt h) (by rw [O.size] at hj'; exact hj')
      have := hn m a
      rw [b] at this
      unfold Array.getD at this
      rw [dif_pos hj'] at this
      have e2 : owner[j] = none := by rw [← q, ← ej]; simp
      rw [show owner.getInternal j hj' = owner[j] from rfl, e2] at this
      cases this
    have h1 := all_len hall
    have h2 := O.perm.length_eq
    rw [h1, List.length_range, Array.length_toList, O.size] at h2
    (first | exact q340 (by assumption) (by assumption) | omega)
noncomputable def layF (acc : Option (Array (Option Nat) × Nat)) (h : Int) : Option (Array (Option Nat) × Nat) := do
  let (owner, k) ← acc
  let j ← layClean.free 31 owner (turns 31) (bits h % (31 + 1)) (bits h)
  pure (owner.setIfInBounds j (some k), k + 1)
theorem lay_fold : ∀ (hs : List Int) (owner : Array (Option Nat)) (k : Nat), Owner owner k → k + hs.length ≤ 31 → ∃ owner', hs.foldl layF (some (owner, k)) = some (owner', k + hs.length) ∧ Owner owner' (k + hs.length)
  | [], owner, k, O, _ => ⟨owner, rfl, O⟩
  | h :: hs, owner, k, O, hl => by
    simp only [List.length_cons] at hl
    refine via fun G_ hG_ => ?_
    obtain ⟨j, e, ej⟩ := owner_free O (by (first | exact q343 (by assumption) | omega)) h
    refine hG_ ?_
    clear hG_ G_
    have O' : Owner (owner.setIfInBounds j (some k)) (k + 1) := by
      refine ⟨by rw [Array.size_setIfInBounds]; exact O.size, ?_⟩
      rw [Array.toList_setIfInBounds, List.range_succ]
      refine (set_perm (by rw [Array.getElem?_toList]; exact ej)).trans ?_
      exact ((O.perm.cons k).trans (List.perm_append_singleton k _).symm)
    refine via fun G_ hG_ => ?_
    obtain ⟨owner', e', O''⟩ := lay_fold hs _ (k + 1) O' (by (first | exact q344 (by assumption) | omega))
    refine hG_ ?_
    clear hG_ G_
    refine ⟨owner', ?_, by rw [List.length_cons, show k + (hs.length + 1) = k + 1 + hs.length from by (first | exact q346 | omega)]; exact O''⟩
    rw [List.foldl_cons, show layF (some (owner, k)) h = some (owner.setIfInBounds j (some k), k + 1) from by unfold layF; show (layClean.free 31 owner (turns 31) (bits h % 32) (bits h)).bind _ = _; rw [e]; rfl, e']
    simp only [List.length_cons]
    rw [show k + 1 + hs.length = k + (hs.length + 1) from by (first | exact q345 | omega)]
theorem own_start : Owner (Array.replicate (31 + 1) none) 0 := ⟨by simp, by
  rw [Array.toList_replicate]
  exact .of_eq (by decide)⟩
theorem live_snd {owner : Array (Option Nat)} (hs : owner.size = 32) : (((List.range (31 + 1)).filterMap fun j => (owner.getD j none).map (j, ·)).map (·.2)) = owner.toList.filterMap id := by
  rw [List.map_filterMap]
  have e : owner.toList = (List.range (31 + 1)).map fun j => owner.getD j none := by
    apply List.ext_getElem
    · simp [hs]
    · intro i h1 h2
      simp only [List.getElem_map, List.getElem_range, Array.getElem_toList]
      unfold Array.getD
      rw [dif_pos (by simpa using h1)]
      rfl
  rw [e, List.filterMap_map]
  congr 1
  funext j
  simp only [Function.comp, id]
  cases owner.getD j none <;> rfl
theorem relay_ok {t : SetTable} {es : Array (Int × Value)} (hes : es.size = 5) :
    ∃ es2 t2, relayAll t es (grown es.size) = (es2, t2, false) ∧ t2.plain = t.plain ∧ t2.led = t.led ∧ t2.dummies = #[] ∧ t2.mask = 31 ∧ t2.place.size = 5 ∧ es2.size = 5 := by
  refine via fun G_ hG_ => ?_
  obtain ⟨owner, e, O⟩ := lay_fold (es.map (·.1)).toList _ 0 own_start (by simp [hes])
  refine hG_ ?_
  clear hG_ G_
  have hlen : (es.map (·.1)).toList.length = 5 := by simp [hes]
  rw [hlen] at e O
  have hclean : layClean 31 (es.map (·.1)) = some owner := by
    unfold layClean
    rw [← Array.foldl_toList]
    show Option.map _ ((es.map (·.1)).toList.foldl layF (some (Array.replicate (31 + 1) none, 0))) = _
    rw [e]
    rfl
  generalize hlv : ((List.range (31 + 1)).filterMap fun j => (owner.getD j none).map (j, ·)) = live at *
  have hord := live_snd O.size
  rw [hlv] at hord
  have hperm : (live.map (·.2)).Perm (List.range 5) := by rw [hord]; simpa using O.perm
  have hll : live.length = 5 := by have := hperm.length_eq; simpa using this
  have hw : sizeAbove (grown es.size) - 1 = 31 := by rw [hes]; decide
  have hrel : t.relaid (es.map (·.1)) (grown es.size) = some ({ mask := 31, place := (live.map (·.1)).toArray, dummies := #[], finger := t.finger, led := t.led, moves := t.movedTo 31, plain := t.plain }, (live.map (·.2)).toArray) := by
    unfold SetTable.relaid
    rw [hw]
    unfold SetTable.laid
    rw [hclean]
    show some _ = _
    rw [hlv]
  have hcov : coversAll (live.map (·.2)).toArray es.size = true := by
    unfold coversAll
    rw [hes]
    exact List.isPerm_iff.mpr hperm
  have hes2 : ((live.map (·.2)).toArray.filterMap (es[·]?)).size = 5 := by
    have e1 : ((live.map (·.2)).toArray.filterMap (es[·]?)).toList.Perm es.toList := by
      rw [Array.toList_filterMap]
      have h2 := hperm.filterMap (fun i => es[i]?)
      have h3 := filterMap_getElem?_range es
      rw [hes] at h3
      rw [h3] at h2
      exact h2
    rw [← Array.length_toList, e1.length_eq, Array.length_toList, hes]
  refine ⟨(live.map (·.2)).toArray.filterMap (es[·]?), { mask := 31, place := (live.map (·.1)).toArray, dummies := #[], finger := t.finger, led := t.led, moves := t.movedTo 31, plain := t.plain }, ?_, rfl, rfl, rfl, rfl, by simp [hll], hes2⟩
  unfold relayAll
  rw [hrel]
  try dsimp only
  rw [hcov, hes2]
  rw [if_pos]
  rw [Bool.true_and]
  unfold SetTable.fits
  rw [Bool.and_eq_true]
  refine ⟨beq_iff_eq.mpr (by simp [hll]), decide_eq_true ?_⟩
  show (live.map (·.1)).toArray.size + 0 ≤ 31
  simp [hll]
end
section
/-- a set of ints out of V, its table plain, small and led -/
noncomputable def SetL (prog : Program) (w : World) (V : List Int) (h : Heap) (a : Addr) : Prop :=
  ∃ (o : Obj) (es : Array (Int × Value)) (ep : Nat) (t : SetTable) (ks : List Int), h.get? a = some o ∧ o.ExactSet ∧ o.data = .set es ep t ∧ ElemsOf (intKind prog w) es.toList ∧ (∀ k, k ∈ ks ↔ ∃ e ∈ es.toList, (intKind prog w).is k e.2 = true) ∧ ks.Nodup ∧ (∀ k ∈ ks, k ∈ V) ∧ ks.length = es.size ∧
    t.plain = true ∧ t.dummies = #[] ∧ t.place.size = es.size ∧ ((t.mask = 7 ∧ es.size ≤ 4) ∨ (t.mask = 31 ∧ es.size ≤ 18)) ∧ (w.params.followText "set-order" = true ∨ t.led = true)
theorem len_leI : ∀ {l m : List Int}, l.Nodup → (∀ x ∈ l, x ∈ m) → l.length ≤ m.length
  | [], _, _, _ => Nat.zero_le _
  | x :: l, m, hn, hs => by
    obtain ⟨h1, h2⟩ := List.nodup_cons.mp hn
    have hx := hs x (.head _)
    have := len_leI (m := m.erase x) h2 fun y hy => (List.mem_erase_of_ne (by rintro rfl; exact h1 hy)).mpr (hs y (.tail _ hy))
    rw [List.length_erase_of_mem hx] at this
    have := List.length_pos_of_mem hx
    simp only [List.length_cons]
    (first | exact q327 (by assumption) (by assumption) | omega)
theorem fits_of {t : SetTable} {n : Nat} (hd : t.dummies = #[]) (hp : t.place.size = n) (hm : n ≤ t.mask) : t.fits n = true := by
  unfold SetTable.fits SetTable.fill
  rw [Bool.and_eq_true]
  refine ⟨beq_iff_eq.mpr hp, decide_eq_true ?_⟩
  rw [hd, hp]
  exact hm
section
variable {prog : Program} {w : World} {A : Around} {E : Value → Shared → Prop} {s : Shared} {V : List Int} {a : Addr}
theorem setl_keep {h h' : Heap} (S : SetL prog w V h a) (k : ∀ o, h.get? a = some o → h'.get? a = some o) : SetL prog w V h' a := by
  refine via fun G_ hG_ => ?_
  obtain ⟨o, es, ep, t, ks, ho, r⟩ := S
  refine hG_ ?_
  clear hG_ G_
  exact ⟨o, es, ep, t, ks, k _ ho, r⟩
theorem setl_put {h : Heap} {o : Obj} {es es' : Array (Int × Value)} {ep : Nat} {t t' : SetTable} {ks : List Int} (ho : h.get? a = some o) (hx : o.ExactSet) (hd : o.data = .set es ep t)
    (r : ElemsOf (intKind prog w) es'.toList ∧ (∀ k, k ∈ ks ↔ ∃ e ∈ es'.toList, (intKind prog w).is k e.2 = true) ∧ ks.Nodup ∧ (∀ k ∈ ks, k ∈ V) ∧ ks.length = es'.size ∧
      t'.plain = true ∧ t'.dummies = #[] ∧ t'.place.size = es'.size ∧ ((t'.mask = 7 ∧ es'.size ≤ 4) ∨ (t'.mask = 31 ∧ es'.size ≤ 18)) ∧ (w.params.followText "set-order" = true ∨ t'.led = true)) :
    (h.update a (Obj.putSet es' t')).get? a = some { o with data := .set es' (ep + 1) t' } ∧ SetL prog w V (h.update a (Obj.putSet es' t')) a := by
  have hg : (h.update a (Obj.putSet es' t')).get? a = some { o with data := .set es' (ep + 1) t' } := by
    have := Heap.get?_update_self (Obj.putSet es' t') ho (by rw [putSet_of es' t' hd]; rfl)
    rw [putSet_of es' t' hd] at this; exact this
  exact ⟨hg, _, es', ep + 1, t', ks, hg, hx, rfl, r⟩
theorem setl_add {k : Int} {t0 : Tok} {Q : Bool → Shared → Prop} (hV : V.length ≤ 18) (hk : k ∈ V) (S : SetL prog w V s.heap a)
    (ret : ∀ b h', Heap.SameBut a s.heap h' → SetL prog w V h' a → Q b { s with heap := h', toks := s.toks + 1 }) : wpAny (model prog w) A (setAdd a (.int k t0)) Q E s := by
  refine via fun G_ hG_ => ?_
  obtain ⟨o, es, ep, t, ks, ho, hx, hd, hel, hmem, hnd, hsub, hlen, hpl, hdu, hps, hmk, hled⟩ := id S
  refine hG_ ?_
  clear hG_ G_
  have hkey : (intKind prog w).is k (.int k t0) = true := intKind_is _ _ _ _
  have hf : t.fits es.size = true := fits_of hdu hps (by rcases hmk with h | h <;> (first | exact q347 (by assumption) (by assumption) (by assumption) | exact q348 (by assumption) (by assumption) (by assumption) | omega))
  have hb : es.size < scanBound := by unfold scanBound; rcases hmk with h | h <;> (first | exact q349 (by assumption) (by assumption) (by assumption) | exact q350 (by assumption) (by assumption) (by assumption) | omega)
  unfold setAdd
  refine wpAny_holding (wpAny_bind ((intKind prog w).pyHash hkey ?_))
  unfold setAddHashed setAddHashedIn
  refine wpAny_holding (wpAny_bind (wpAny_setState_of (s := { s with toks := s.toks + 1 }) ho hd hf ?_))
  try dsimp only
  rw [byScan_of rfl hb hel]
  simp only [↓reduceIte]
  unfold setAddByScan
  refine wpAny_bind ?_
  refine wpAny_bind (wpAny_rule ?_)
  refine wpAny_bind (wpAny_setScan_of (s := { s with toks := s.toks + 1 }) hkey ho hd hf hel ?_)
  cases hr : List.findIdx? (fun e => (intKind prog w).is k e.2) es.toList with
  | some j =>
    try dsimp only
    exact wpAny_pure (wpAny_pure (ret _ s.heap (Heap.SameBut.refl a s.heap) S))
  | none =>
    try dsimp only
    have hnk : k ∉ ks := fun q => by
      refine via fun G_ hG_ => ?_
      obtain ⟨e, he, hp⟩ := (hmem k).mp q
      refine hG_ ?_
      clear hG_ G_
      have := List.findIdx?_eq_none_iff.mp hr e he
      rw [hp] at this; cases this
    have hlt : (k :: ks).length ≤ V.length := len_leI (List.nodup_cons.mpr ⟨hnk, hnd⟩) fun x hx => by
      rcases List.mem_cons.mp hx with rfl | hx
      · exact hk
      · exact hsub x hx
    simp only [List.length_cons] at hlt
    obtain ⟨es1, t1, e1, hpl1, hled1, hdu1, hmk1, hps1, _, _⟩ := lay_new (x := .int k t0) hdu (by rcases hmk with h | h <;> simp [h.1]) hps (by rcases hmk with h | h <;> (first | exact q351 (by assumption) (by assumption) (by assumption) | omega)) ((intKind prog w).hash k)
    have hperm := layNew_perm t es ((intKind prog w).hash k) (.int k t0)
    rw [e1] at hperm ⊢
    dsimp only at hperm ⊢
    rw [Array.toList_push] at hperm
    have hsz1 : es1.size = es.size + 1 := by rw [← Array.length_toList, hperm.length_eq]; simp
    have hel1 : ElemsOf (intKind prog w) es1.toList := (hel.push hkey rfl).perm hperm
    have hmem1 : ∀ k', k' ∈ k :: ks ↔ ∃ e ∈ es1.toList, (intKind prog w).is k' e.2 = true := fun k' => by
      rw [List.mem_cons, hmem k']
      constructor
      · rintro (rfl | ⟨e, he, hp⟩)
        · exact ⟨_, hperm.mem_iff.mpr (List.mem_append_right _ (List.mem_singleton.mpr rfl)), hkey⟩
        · exact ⟨e, hperm.mem_iff.mpr (List.mem_append_left _ he), hp⟩
      · intro z0_
        refine via fun G_ hG_ => ?_
        obtain ⟨e, he, hp⟩ := z0_
        refine hG_ ?_
        clear hG_ G_
        rcases List.mem_append.mp (hperm.mem_iff.mp he) with he | he
        · exact .inr ⟨e, he, hp⟩
        · rw [List.mem_singleton] at he; subst he
          exact .inl ((intKind prog w).inj _ k' k hp hkey)
    have hsub1 : ∀ x ∈ k :: ks, x ∈ V := fun x hx => by
      rcases List.mem_cons.mp hx with rfl | hx
      · exact hk
      · exact hsub x hx
    have hgw : ∀ {s₁ : Shared} {Q' : Unit → Shared → Prop}, Q' () s₁ → wpAny (model prog w) A (match false with | true => rule "set.scan.the-table-gave-way" | false => pure ()) Q' E s₁ := fun hq => wpAny_pure hq
    refine wpAny_bind (hgw ?_)
    rw [hpl1, hpl, if_pos rfl, hashByValue_scannable 8 rfl]
    refine wpAny_bind (wpAny_pure ?_)
    rw [show plainKind (Value.int k t0) = true from rfl, if_pos rfl]
    refine wpAny_bind (wpAny_storeSet_of (s := { s with toks := s.toks + 1 }) ho hd ?_ (fits_of_scanBound (by unfold scanBound; omega)))
    by_cases hfull : t1.tooFull = true
    · have h5 : es1.size = 5 ∧ t.mask = 7 := by
        unfold SetTable.tooFull SetTable.fill at hfull
        rw [hps1, hdu1, hmk1] at hfull
        have hfull := of_decide_eq_true hfull
        simp only [List.size_toArray, List.length_nil] at hfull
        rcases hmk with h | h <;> omega
      have hg : (s.heap.update a (Obj.putSet es1 t1)).get? a = some { o with data := .set es1 (ep + 1) t1 } := by
        have := Heap.get?_update_self (Obj.putSet es1 t1) ho (by rw [putSet_of es1 t1 hd]; rfl)
        rw [putSet_of es1 t1 hd] at this; exact this
      rw [if_pos (by rw [hfull]; rfl)]
      refine via fun G_ hG_ => ?_
      obtain ⟨es2, t2, e2, hpl2, hled2, hdu2, hmk2, hps2, hes2⟩ := relay_ok (t := t1) h5.1
      refine hG_ ?_
      clear hG_ G_
      have hp2 := relayAll_perm t1 es1 (SetTable.grown es1.size)
      rw [e2] at hp2 ⊢
      dsimp only at hp2 ⊢
      refine wpAny_bind (hgw ?_)
      refine wpAny_bind (wpAny_storeSet_of (s := { s with heap := s.heap.update a (Obj.putSet es1 t1), toks := s.toks + 1 }) hg rfl ?_ (fits_of_scanBound (by unfold scanBound; (first | exact q358 (by assumption) | omega))))
      have Z := setl_put (prog := prog) (w := w) (V := V) (ks := k :: ks) (es' := es2) (t' := t2) hg hx rfl ⟨hel1.perm hp2, fun k' => (hmem1 k').trans ⟨fun ⟨e, he, q⟩ => ⟨e, hp2.mem_iff.mpr he, q⟩, fun ⟨e, he, q⟩ => ⟨e, hp2.mem_iff.mp he, q⟩⟩,
        List.nodup_cons.mpr ⟨hnk, hnd⟩, hsub1, by simp only [List.length_cons]; (first | exact q355 (by assumption) (by assumption) (by assumption) (by assumption) (by assumption) (by assumption) | omega), by rw [hpl2, hpl1, hpl], hdu2, by (first | exact q356 (by assumption) (by assumption) | omega), .inr ⟨hmk2, by (first | exact q357 (by assumption) | omega)⟩, hled.imp id fun q => by rw [hled2, hled1, q]⟩
      exact wpAny_pure (wpAny_pure (ret _ _ ((Heap.SameBut.update s.heap a (Obj.putSet es1 t1)).trans (Heap.SameBut.update _ a _)) Z.2))
    · rw [if_neg (by simpa using hfull)]
      have hm1 : (t1.mask = 7 ∧ es1.size ≤ 4) ∨ (t1.mask = 31 ∧ es1.size ≤ 18) := by
        unfold SetTable.tooFull SetTable.fill at hfull
        rw [hps1, hdu1, hmk1] at hfull
        have hfull := of_decide_eq_false (Bool.not_eq_true _ ▸ hfull)
        simp only [List.size_toArray, List.length_nil] at hfull
        rw [hmk1]
        rcases hmk with h | h
        · exact .inl ⟨h.1, by omega⟩
        · exact .inr ⟨h.1, by omega⟩
      have Z := setl_put (prog := prog) (w := w) (V := V) (ks := k :: ks) (es' := es1) (t' := t1) ho hx hd ⟨hel1, hmem1, List.nodup_cons.mpr ⟨hnk, hnd⟩, hsub1, by simp only [List.length_cons]; (first | exact q361 (by assumption) (by assumption) (by assumption) (by assumption) | omega), by rw [hpl1, hpl], hdu1, by omega, hm1, hled.imp id fun q => by rw [hled1, q]⟩
      exact wpAny_pure (wpAny_pure (ret _ _ (Heap.SameBut.update s.heap a (Obj.putSet es1 t1)) Z.2))
end
end
section
section
variable {prog : Program} {w : World} {A : Around} {E : Value → Shared → Prop} {s : Shared} {V : List Int}
noncomputable abbrev setObj (w : World) : Obj := { cls := .type "set", dict := none, data := .set #[] 0 (.fresh 0 0 (!w.params.followText "set-order")) }
theorem code_set_led (a : Value) {Q₁ : Value → Shared → Prop} (h : Q₁ (.ref s.heap.objs.size) { s with heap := s.heap.push (setObj w) }) :
    codeAny (model prog w) A (.call (.builtin "set.__new__") ⟨[.type "set", a], []⟩) (wants Q₁ E) s := by
  refine codeAny_call_builtin PySem.F.plain_set_new PySem.F.entry_set_new (wpAny_of_eq (PySem.F.newCall_set_1 a) ?_)
  unfold Builtin.«set.__new__» Builtin.Frozenset.newClass
  have hsub := sub_set_self
  refine via fun G_ hG_ => ?_
  obtain ⟨hp, g, d, tk, os⟩ := s
  refine hG_ ?_
  clear hG_ G_
  wp_walk
  refine wpAny_askSetting (wpAny_pure ?_)
  try dsimp only
  simp only [newObj]
  exact wpAny_bind (wpAny_alloc (wpAny_pure (wpAny_pure h)))
theorem setl_new (h : Heap) : SetL prog w V (h.push (setObj w)) h.objs.size := by
  refine ⟨_, #[], 0, _, [], Heap.get?_push_size _ rfl, ⟨rfl, rfl, rfl⟩, rfl, fun e he => by simp at he, fun k => by simp, List.nodup_nil, (fun _ m => nomatch m), rfl, rfl, rfl, rfl, .inl ⟨rfl, by decide⟩, ?_⟩
  show _ ∨ (!w.params.followText "set-order") = true
  cases w.params.followText "set-order"
  · exact .inr rfl
  · exact .inl rfl
theorem setl_loop {A : Around} {R : Result → Shared → Prop} {I : Addr} {fp wr : List Addr} {n : Nat} {P : Nat → Value → Prop} {St : Nat → Heap → Prop} (W : Walks prog w A.in1 I fp wr n P St) (S : Addr) (hSf : S ∉ fp) (hV : V.length ≤ 18)
    (hP : ∀ i v, i < n → P i v → ∃ k t, k ∈ V ∧ v = .int k t) :
    ∀ (k i : Nat) (s : Shared), n - i = k → i ≤ n → St i s.heap → SetL prog w V s.heap S →
      (∀ h' tk, (∀ b o, b ≠ S → b ∉ wr → s.heap.get? b = some o → h'.get? b = some o) → SetL prog w V h' S → R (.ok (.ret .none)) { s with heap := h', toks := tk }) →
      codeAny (model prog w) A (.builtin "set.update.loop" ⟨[.ref S, .ref I], []⟩) R s := by
  have hSw : S ∉ wr := fun h => hSf (W.sub _ h)
  intro k
  induction k with
  | zero =>
    intro i s hk hi hst hS hR
    have hin : i = n := by (first | exact q364 (by assumption) (by assumption) | omega)
    subst hin
    refine codeAny_builtin PyProof.Rows.F.entry_set_update_loop ?_
    rw [Around.under_plainId PyProof.Rows.F.plain_set_update_loop _]
    show wpAny _ A.in1 (pyNext (.ref I) >>= _) _ _ s
    refine wpAny_bind (W.done s _ _ hst fun h' tk hm => ?_)
    exact wpAny_pure (hR h' tk (fun b o _ hw e => hm b o hw e) (setl_keep hS fun o e => hm _ _ hSw e))
  | succ k ih =>
    intro i s hk hi hst hS hR
    have hlt : i < n := by (first | exact q365 (by assumption) (by assumption) | omega)
    refine codeAny_builtin PyProof.Rows.F.entry_set_update_loop ?_
    rw [Around.under_plainId PyProof.Rows.F.plain_set_update_loop _]
    show wpAny _ A.in1 (pyNext (.ref I) >>= _) _ _ s
    refine wpAny_bind (W.item i s _ _ hlt hst fun v h' tk hPv hst' hm => ?_)
    refine via fun G_ hG_ => ?_
    obtain ⟨k0, t, hk0, rfl⟩ := hP i v hlt hPv
    refine hG_ ?_
    clear hG_ G_
    show wpAny _ A.in1 (holding [Value.int k0 t] (setAdd S (.int k0 t)) >>= _) _ _ _
    refine wpAny_bind (wpAny_holding (setl_add hV hk0 (setl_keep hS fun o e => hm _ _ hSw e) fun b h2 sb S2 => ?_))
    refine wpAny_pure ⟨plainId_quiet PyProof.Rows.F.plain_set_update_loop _, ih (i + 1) _ (by (first | exact q366 (by assumption) (by assumption) | omega)) hlt (W.frame _ _ _ hst' fun b hb o e => ?_) S2 fun h3 tk3 k3 S3 => ?_⟩
    · rw [sb.2 b (fun h : b = S => hSf (by rw [← h]; exact hb))]; exact e
    · exact hR h3 tk3 (fun b o hb hw e => k3 b o hb hw (by rw [sb.2 b hb]; exact hm b o hw e)) S3
theorem set_call (a : Value) {Q : Value → Shared → Prop}
    (h : wpAny (model prog w) A.in1.in1 (Builtin.«set.__init__» ⟨[.ref s.heap.objs.size, a], []⟩)
      (fun fin s' => match fin with | .done f => wants (fun r s₂ => r = .none ∧ Q (.ref s.heap.objs.size) s₂) E (.ok f) s' | .again c' => c'.quiet = true ∧ codeAny (model prog w) A.in1 c' (wants (fun r s₂ => r = .none ∧ Q (.ref s.heap.objs.size) s₂) E) s')
      (fun e s' => wants (fun r s₂ => r = .none ∧ Q (.ref s.heap.objs.size) s₂) E (.error e) s') { s with heap := s.heap.push (setObj w) }) :
    wpAny (model prog w) A (call (.type "set") [a]) Q E s := by
  refine via fun G_ hG_ => ?_
  obtain ⟨c, tl, hmro⟩ := PySem.F.called_set.mro
  refine hG_ ?_
  clear hG_ G_
  have hmade := PySem.F.called_set.made
  have hsub := PySem.F.called_set.sub
  refine wpAny_call (codeAny_of_tree ?_)
  show wpAny _ _ (callAny (.type "set") _) _ _ _
  refine wpAny_pure ⟨Code.quiet_builtin _ (by decide +kernel), codeAny_builtin PySem.F.entry_type_call ?_⟩
  rw [Around.under_plain (weight_type_call_type "set" [a] []) rfl]
  have h1 := PySem.F.called_set.notType
  have h2 := PySem.F.called_set.canCreate
  have hct := PySem.F.typeCall_set_1 a
  repeat (any_goals (first | assumption | wp_step))
  refine codeAny_mono (code_set_led a (E := E) (Q₁ := fun obj s₁ => obj = .ref s.heap.objs.size ∧ s₁ = { s with heap := s.heap.push (setObj w) }) ⟨rfl, rfl⟩) fun r s₁ hr => ?_
  rcases r with e | (_ | _ | _ | obj) <;> first | exact hr | exact hr.elim | skip
  obtain ⟨rfl, rfl⟩ := hr
  have hT : Shared.TypeIs { s with heap := s.heap.push (setObj w) } (.ref s.heap.objs.size) "set" := ⟨_, Heap.get?_push_size _ rfl, rfl⟩
  have hli := PySem.F.called_set.init.lookup
  have hbi := PySem.F.called_set.init.bind (.ref s.heap.objs.size)
  repeat (any_goals (first | assumption | wp_step))
  refine codeAny_mono (codeAny_call_builtin (R := wants (fun r s₂ => r = .none ∧ Q (.ref s.heap.objs.size) s₂) E) PySem.F.called_set.init.plain PySem.F.entry_set_init (check_set_init_1 hT h)) fun r₂ s₂ hr₂ => ?_
  rcases r₂ with e | (_ | _ | _ | r) <;> first | exact hr₂ | exact hr₂.elim | skip
  obtain ⟨rfl, hq⟩ := hr₂
  repeat (any_goals (first | assumption | wp_step))
theorem set_of {l : Addr} {vs : List Value} {ns : List Int} {n : Nat} {Q : Value → Shared → Prop} (hh : A.handled = none) (hl : s.heap.get? l = some ({ cls := .type "list", data := .seq vs.toArray n } : Obj)) (hi : IntsAre vs ns) (hV : V.length ≤ 18) (hsub : ∀ k ∈ ns, k ∈ V)
    (h : ∀ h' tk, SetL prog w V h' s.heap.objs.size → (∀ b o, s.heap.get? b = some o → h'.get? b = some o) → Q (.ref s.heap.objs.size) { s with heap := h', toks := tk }) :
    wpAny (model prog w) A (call (.type "set") [.ref l]) Q E s := by
  have hlt : LT.lt (α := Nat) l s.heap.objs.size := Heap.lt_size hl
  refine set_call (.ref l) ?_
  have hS0 := setl_new (prog := prog) (w := w) (V := V) s.heap
  have hoS : (s.heap.push (setObj w)).get? s.heap.objs.size = some (setObj w) := Heap.get?_push_size _ rfl
  have hT : Shared.TypeIs { s with heap := s.heap.push (setObj w) } (.ref s.heap.objs.size) "set" := ⟨_, hoS, rfl⟩
  have hol : (s.heap.push (setObj w)).get? l = some ({ cls := .type "list", data := .seq vs.toArray n } : Obj) := Heap.get?_push_of_some _ hl
  have hl1 : (s.heap.push (setObj w)).IsList l vs.toArray := ⟨_, hol, rfl, n, rfl⟩
  have hsls := PySem.F.sub_list_set
  have hslf := PySem.F.sub_list_frozenset
  have hne : (Value.type "list" == Value.type "dict") = false := by decide
  have hTl : Shared.TypeIs { s with heap := s.heap.push (setObj w) } (.ref l) "list" := ⟨_, hol, rfl⟩
  unfold Builtin.«set.__init__» noKeywords Builtin.Frozenset.updateFrom
  generalize hPI : pyIter = PI
  wp_walk
  subst hPI
  refine wpAny_pyIter_list hl1 ?_
  refine wpAny_bind (wpAny_runValue ?_)
  generalize hSS : s.heap.objs.size = S at *
  have hSlt : LT.lt (α := Nat) S (s.heap.push (setObj w)).objs.size := Heap.lt_size hoS
  have hl1lt : LT.lt (α := Nat) l (s.heap.push (setObj w)).objs.size := Heap.lt_size hol
  have W := Walks.list (prog := prog) (w := w) (A := A.in1.in1.in1) hh (s.heap.push (setObj w)).objs.size l (Nat.ne_of_lt hl1lt) vs.toArray
  refine setl_loop (V := V) W S ?_ hV ?_ (vs.toArray.size - 0) 0 _ rfl (Nat.zero_le _) ⟨⟨_, Heap.get?_push_size _ rfl, rfl, rfl⟩, hl1.push _⟩ (setl_keep hS0 fun o e => Heap.get?_push_of_some _ e) fun h' tk k' S' => ?_
  · intro hm
    rcases List.mem_cons.mp hm with e | hm
    · exact Nat.lt_irrefl _ (e ▸ hSlt)
    · rw [List.mem_singleton.mp hm] at hlt; exact Nat.lt_irrefl _ hlt
  · intro i v hin hv
    obtain ⟨t, e⟩ := hi.int_at i v (by simpa using hv)
    have hlen := hi.length
    have hi' : i < ns.length := by rw [List.size_toArray] at hin; (first | exact q136 (by assumption) (by assumption) | omega)
    exact ⟨_, t, hsub _ (by simp [List.getD, hi']), e⟩
  · show wpAny _ _ (pure ()) _ _ _
    have hle : ∀ b o, s.heap.get? b = some o → LT.lt (α := Nat) b S := fun b o e => hSS ▸ Heap.lt_size e
    refine wpAny_pure (wpAny_pure ⟨rfl, h h' tk S' fun b o e => k' b o (Nat.ne_of_lt (hle b o e)) (fun hm => ?_) (Heap.get?_push_of_some _ (Heap.get?_push_of_some _ e))⟩)
    rw [List.mem_singleton.mp hm] at e
    exact Nat.lt_irrefl _ (Nat.lt_trans (hle _ _ e) hSlt)
end
end
section
open PySem.SetTable
theorem below_go {xs : Array Nat} {s : Nat} : ∀ (f lo hi : Nat), lo ≤ hi → hi - lo ≤ f → (∀ j, xs[hi]? = some j → s ≤ j) → ∀ j, xs[below.go xs s f lo hi]? = some j → s ≤ j
  | 0, lo, hi, h1, h2, h3, j, e => by
    rw [below.go, show lo = hi by (first | exact q375 (by assumption) (by assumption) | omega)] at e
    exact h3 j e
  | f + 1, lo, hi, h1, h2, h3, j, e => by
    rw [below.go] at e
    by_cases q : lo < hi
    · rw [if_pos q] at e
      dsimp only at e
      by_cases c : xs.getD ((lo + hi) / 2) s < s
      · rw [if_pos c] at e
        exact below_go f _ _ (by (first | exact q376 (by assumption) | omega)) (by (first | exact q377 (by assumption) (by assumption) | omega)) h3 j e
      · rw [if_neg c] at e
        refine below_go f _ _ (by (first | exact q378 (by assumption) | omega)) (by (first | exact q379 (by assumption) (by assumption) | omega)) (fun j' e' => ?_) j e
        have : xs.getD ((lo + hi) / 2) s = j' := by rw [Array.getD_eq_getD_getElem?, e']; rfl
        (first | exact q380 (by assumption) (by assumption) | omega)
    · rw [if_neg q, show lo = hi by (first | exact q132 (by assumption) (by assumption) | omega)] at e
      exact h3 j e
theorem below_ge {xs : Array Nat} {s j : Nat} (e : xs[below xs s]? = some j) : s ≤ j :=
  below_go xs.size 0 xs.size (Nat.zero_le _) (by (first | exact q372 | omega)) (fun j' e' => by rw [Array.getElem?_eq_none (Nat.le_refl _)] at e'; cases e') j e
theorem count_less {s j : Nat} (h : s ≤ j) : ∀ {l : List Nat}, j ∈ l → (l.filter fun x => decide (j + 1 ≤ x)).length + 1 ≤ (l.filter fun x => decide (s ≤ x)).length
  | a :: l, hm => by
    have mono : ∀ l : List Nat, (l.filter fun x => decide (j + 1 ≤ x)).length ≤ (l.filter fun x => decide (s ≤ x)).length := fun l => by
      induction l with
      | nil => exact Nat.le_refl _
      | cons b l ih =>
        simp only [List.filter_cons]
        by_cases c : j + 1 ≤ b
        · rw [if_pos (by simpa using c), if_pos (by simpa using (show s ≤ b by (first | exact q368 (by assumption) (by assumption) | omega)))]; simpa using ih
        · rw [if_neg (by simpa using c)]
          split
          · simp only [List.length_cons]; (first | exact q369 (by assumption) | omega)
          · exact ih
    simp only [List.filter_cons]
    rcases List.mem_cons.mp hm with rfl | hm
    · rw [if_neg (by simp), if_pos (by simpa using h)]
      have := mono l
      simp only [List.length_cons]; (first | exact q40 (by assumption) | omega)
    · have ih := count_less h hm
      by_cases c : j + 1 ≤ a
      · rw [if_pos (by simpa using c), if_pos (by simpa using (show s ≤ a by (first | exact q368 (by assumption) (by assumption) | omega)))]; simp only [List.length_cons]; (first | exact q370 (by assumption) | omega)
      · rw [if_neg (by simpa using c)]
        split
        · simp only [List.length_cons]; (first | exact q371 (by assumption) | omega)
        · exact ih
/-- what a walk over the table's places hands out, with the place to go on from -/
noncomputable def ylds (es : Array (Int × Value)) (place : Array Nat) : Nat → Nat → List (Value × Nat)
  | 0, _ => []
  | f + 1, slot => match es[below place slot]?, place[below place slot]? with
    | some (_, x), some j => (x, j + 1) :: ylds es place f (j + 1)
    | _, _ => []
theorem ylds_len (es : Array (Int × Value)) (place : Array Nat) : ∀ f slot, (ylds es place f slot).length ≤ (place.toList.filter fun x => decide (slot ≤ x)).length
  | 0, _ => Nat.zero_le _
  | f + 1, slot => by
    unfold ylds
    split
    · rename_i x j e1 e2
      have := count_less (below_ge e2) (Array.mem_toList_iff.mpr (Array.mem_of_getElem? e2))
      have := ylds_len es place f (j + 1)
      simp only [List.length_cons]
      (first | exact q367 (by assumption) (by assumption) | omega)
    · exact Nat.zero_le _
theorem ylds_mem (es : Array (Int × Value)) (place : Array Nat) : ∀ f slot, ∀ y ∈ ylds es place f slot, ∃ e ∈ es.toList, e.2 = y.1
  | 0, _, _, h => nomatch h
  | f + 1, slot, y, h => by
    unfold ylds at h
    split at h
    · rename_i q x j e1 e2
      rcases List.mem_cons.mp h with rfl | h
      · exact ⟨_, Array.mem_toList_iff.mpr (Array.mem_of_getElem? e1), rfl⟩
      · exact ylds_mem es place f _ y h
    · exact nomatch h
theorem pick_go {α : Type} (next : Nat → Nat) : ∀ (f k : Nat) (left : List α) (out : Array α), (pickOrder.go next f k left out).size ≤ out.size + f ∧ ∀ x ∈ (pickOrder.go next f k left out).toList, x ∈ out.toList ∨ x ∈ left
  | 0, _, _, out => ⟨by rw [pickOrder.go]; exact Nat.le_refl _, fun x hx => .inl (by rw [pickOrder.go] at hx; exact hx)⟩
  | f + 1, k, left, out => by
    rw [pickOrder.go]
    split
    · rename_i x e
      have ih := pick_go next f (k + 1) (left.eraseIdx (next k % left.length)) (out.push x)
      refine ⟨by have := ih.1; rw [Array.size_push] at this; (first | exact q373 (by assumption) | omega), fun y hy => ?_⟩
      rcases ih.2 y hy with h | h
      · rw [Array.toList_push] at h
        rcases List.mem_append.mp h with h | h
        · exact .inl h
        · exact .inr (by rw [List.mem_singleton.mp h]; exact List.mem_of_getElem? e)
      · exact .inr (List.mem_of_mem_eraseIdx h)
    · exact ⟨by (first | exact q374 | omega), fun y hy => .inl hy⟩
theorem pick_ok {α : Type} (next : Nat → Nat) (xs : Array α) : (pickOrder next xs).size ≤ xs.size ∧ ∀ x ∈ (pickOrder next xs).toList, x ∈ xs.toList := by
  have := pick_go next xs.size 0 xs.toList #[]
  have h1 : (pickOrder.go next xs.size 0 xs.toList #[]).size ≤ xs.size := by simpa using this.1
  refine ⟨h1, fun x hx => ?_⟩
  rcases this.2 x hx with h | h
  · simp at h
  · exact h
end
section
open PySem.SetTable
theorem si_slot_next : Slot "set_iterator" "__next__" "set_iterator.__next__" :=
  .of (owner := "set_iterator") (n := "__next__") (by rw [typeLookup_type, builtinLookup_eq_fast]; kernel_rfl) (by decide +kernel) (by decide +kernel) (by decide +kernel)
    (by first | exact .inl (by decide +kernel) | exact .inr (by decide +kernel)) (by rw [isSubtype_type]; kernel_rfl)
theorem si_entry_next : entryFor table "set_iterator.__next__" = some Builtin.«set_iterator.__next__» := entryFor_of_tree (by kernel_rfl)
theorem si_owner : Manifest.owners.lookup (String.ofList ['r', 'o', 't', 'a', 'r', 'e', 't', 'i', '_', 't', 'e', 's'].reverse) = some Manifest.sig_set_iterator := by kernel_rfl
theorem si_args_next (a : Value) : argsOk "set_iterator.__next__" ⟨[a], []⟩ := by
  unfold argsOk; rw [signature?_of (id := "set_iterator.__next__") (n := ['_', '_', 't', 'x', 'e', 'n', '_', '_']) (o := ['r', 'o', 't', 'a', 'r', 'e', 't', 'i', '_', 't', 'e', 's']) (by kernel_rfl) si_owner]; kernel_rfl
theorem si_slot_iter : Slot "set_iterator" "__iter__" "set_iterator.__iter__" :=
  .of (owner := "set_iterator") (n := "__iter__") (by rw [typeLookup_type, builtinLookup_eq_fast]; kernel_rfl) (by decide +kernel) (by decide +kernel) (by decide +kernel)
    (by first | exact .inl (by decide +kernel) | exact .inr (by decide +kernel)) (by rw [isSubtype_type]; kernel_rfl)
theorem si_entry_iter : entryFor table "set_iterator.__iter__" = some Builtin.«dict_keyiterator.__iter__» :=
  entryFor_alias (id' := "dict_keyiterator.__iter__") (by kernel_rfl) (by decide +kernel) (by decide +kernel) (by kernel_rfl)
theorem si_args_iter (a : Value) : argsOk "set_iterator.__iter__" ⟨[a], []⟩ := by
  unfold argsOk; rw [signature?_of (id := "set_iterator.__iter__") (n := ['_', '_', 'r', 'e', 't', 'i', '_', '_']) (o := ['r', 'o', 't', 'a', 'r', 'e', 't', 'i', '_', 't', 'e', 's']) (by kernel_rfl) si_owner]; kernel_rfl
theorem set_entry_iter : entryFor table "set.__iter__" = some Builtin.«frozenset.__iter__» :=
  entryFor_alias (id' := "frozenset.__iter__") (by kernel_rfl) (by decide +kernel) (by decide +kernel) (by kernel_rfl)
theorem set_len : typeLookup (.type "set") "__len__" = pure (some (.builtin "set.__len__")) := by rw [typeLookup_type, builtinLookup_eq_fast]; kernel_rfl
noncomputable def SIt (h : Heap) (I a : Addr) (slot i n ep : Nat) : Prop := ∃ o, h.get? I = some o ∧ o.cls = .type "set_iterator" ∧ o.data = .fields #[.int slot 0, .int i 0, .ref a, .int n 0, .int ep 0]
noncomputable def nextOf (w : World) (a : Addr) (ep : Nat) (es : Array (Int × Value)) (t : SetTable) (slot given : Nat) : Option (Value × Nat) :=
  if w.params.followText "set-order" = true then ((pickOrder (w.params.setOrder a ep) es)[given]?).map fun e => (e.2, slot)
  else match es[below t.place slot]?, t.place[below t.place slot]? with
    | some (_, x), some j => some (x, j + 1)
    | _, _ => none
section
variable {prog : Program} {w : World} {A : Around} {E : Value → Shared → Prop} {s : Shared} {a I : Addr} {o : Obj} {es : Array (Int × Value)} {ep : Nat} {t : SetTable}
theorem SIt.typeIs {slot i n : Nat} (x : SIt s.heap I a slot i n ep) : s.TypeIs (.ref I) "set_iterator" := let ⟨o, ho, hc, _⟩ := x; ⟨o, ho, hc⟩
theorem set_next_of {slot given : Nat} {Q : Option (Value × Nat) → Shared → Prop} (ho : s.heap.get? a = some o) (hd : o.data = .set es ep t) (hf : t.fits es.size = true) (hpl : t.plain = true) (hled : w.params.followText "set-order" = true ∨ t.led = true)
    (h : Q (nextOf w a ep es t slot given) s) : wpAny (model prog w) A (setNext a slot given ep) Q E s := by
  unfold setNext
  refine wpAny_bind (wpAny_setState_of ho hd hf ?_)
  try dsimp only
  unfold setsByText
  refine wpAny_bind (wpAny_bind (wpAny_askSetting (wpAny_pure ?_)))
  unfold nextOf at h
  by_cases q : w.params.followText "set-order" = true
  · rw [if_pos q] at h
    rw [if_pos (show ((model prog w).w.params.followText "set-order") = true from q)]
    rw [if_neg (by simp)]
    refine wpAny_bind (wpAny_bind (wpAny_setState_of ho hd hf ?_))
    try dsimp only
    unfold setsByText
    refine wpAny_bind (wpAny_bind (wpAny_askSetting (wpAny_pure ?_)))
    rw [if_pos (show ((model prog w).w.params.followText "set-order") = true from q)]
    refine wpAny_bind (wpAny_askSetting (wpAny_pure ?_))
    exact wpAny_pure h
  · rw [if_neg q] at h
    rw [if_neg (show ¬ ((model prog w).w.params.followText "set-order") = true from q)]
    have hl := hled.resolve_left q
    refine wpAny_ite_split (fun hab => absurd hab ?_) (fun _ => ?_)
    · show ¬ ((!t.plain && decide (es.size > 1)) = true)
      rw [hpl]
      exact Bool.false_ne_true
    refine wpAny_bind ?_
    show wpAny _ _ (if (!t.led && !es.isEmpty) = true then unsupported _ else pure ()) _ _ _
    rw [if_neg (by rw [hl]; exact Bool.false_ne_true)]
    exact wpAny_pure (wpAny_pure h)
theorem set_iter_of {Q : Value → Shared → Prop} (ho : s.heap.get? a = some o) (hc : o.cls = .type "set") (hd : o.data = .set es ep t) (hf : t.fits es.size = true) (hpl : t.plain = true)
    (hQ : Q (.ref s.heap.objs.size) { s with heap := s.heap.push { cls := .type "set_iterator", data := .fields #[.int 0 0, .int 0 0, .ref a, .int es.size 0, .int ep 0] } }) : wpAny (model prog w) A (pyIter (.ref a)) Q E s := by
  have hT : s.TypeIs (.ref a) "set" := ⟨o, ho, hc⟩
  refine wpAny_pyIter_slot hT PySem.F.slot_set_iter (wpAny_call_entry PySem.F.slot_set_iter hT set_entry_iter ?_ (PySem.F.args_set_iter_1 _))
  unfold Builtin.«frozenset.__iter__»
  refine wpAny_bind (wpAny_pure ?_)
  unfold Builtin.Frozenset.sizeOf
  refine wpAny_bind (wpAny_bind (wpAny_setEntries_of ho hd hf (wpAny_pure ?_)))
  unfold setDrawn setsByText
  refine wpAny_bind (wpAny_bind (wpAny_setState_of ho hd hf ?_))
  try dsimp only
  refine wpAny_bind (wpAny_bind (wpAny_askSetting (wpAny_pure (wpAny_pure ?_))))
  refine wpAny_ite_split (fun hab => absurd hab ?_) (fun _ => ?_)
  · show ¬ ((!((model prog w).w.params.followText "set-order") && (!t.plain && decide (es.size > 1))) = true)
    rw [hpl]
    simp
  refine wpAny_bind (wpAny_pure ?_)
  refine wpAny_bind (wpAny_setEpoch_of ho hd hf ?_)
  refine wpAny_bind ?_
  unfold newFields
  refine wpAny_newObj_type (wpAny_pure ⟨_, rfl, "set_iterator", _, ⟨_, Heap.get?_push_size _ rfl, rfl⟩, si_slot_next.lookup, ?_⟩) (by size_fits)
  exact hQ
theorem si_next {slot i : Nat} {Q : Option Value → Shared → Prop} (hh : A.handled = none) (it : SIt s.heap I a slot i es.size ep) (ho : s.heap.get? a = some o) (hd : o.data = .set es ep t) (hf : t.fits es.size = true) (hpl : t.plain = true) (hled : w.params.followText "set-order" = true ∨ t.led = true)
    (hQ : match nextOf w a ep es t slot i with
      | some (x, nx) => ∀ h', SIt h' I a nx (i + 1) es.size ep → Heap.SameBut I s.heap h' → Q (some x) { s with heap := h' }
      | none => ∀ h', Heap.ExtBut I s.heap h' → Q none { s with heap := h' }) : wpAny (model prog w) A (pyNext (.ref I)) Q E s := by
  refine via fun G_ hG_ => ?_
  obtain ⟨oI, hoI, hcI, hdI⟩ := id it
  refine hG_ ?_
  clear hG_ G_
  unfold pyNext
  refine wpAny_bind (wpAny_attempt (wpAny_callSpecial?_slot (name := Str.ofString "__next__") it.typeIs si_slot_next (wpAny_call_entry si_slot_next it.typeIs si_entry_next ?_ (si_args_next _))))
  unfold Builtin.«set_iterator.__next__»
  refine wpAny_bind (wpAny_pure ?_)
  refine wpAny_bind (wpAny_fieldsOf hoI hdI ?_)
  try dsimp only
  refine wpAny_bind (wpAny_setEntries_of ho hd hf ?_)
  rw [if_neg (by simp)]
  refine wpAny_bind (set_next_of ho hd hf hpl hled ?_)
  simp only [Int.toNat_natCast]
  cases e : nextOf w a ep es t slot i with
  | some y =>
    obtain ⟨x, nx⟩ := y
    rw [e] at hQ
    dsimp only at hQ ⊢
    have hsz : (#[Value.int slot 0, .int i 0, .ref a, .int es.size 0, .int ep 0] : Array Value).size = 5 := rfl
    refine wpAny_bind (wpAny_setField hoI hdI (by rw [hsz]; (first | exact q381 | omega)) ?_)
    have h1 := Heap.get?_update_self (Obj.mapFields (·.setIfInBounds 0 (rawInt (nx : Int)))) hoI (Obj.isFreed_of_fields (Obj.data_mapFields hdI _))
    have d1 := Obj.data_mapFields hdI (·.setIfInBounds 0 (rawInt (nx : Int)))
    refine wpAny_bind (wpAny_setField h1 d1 (by simp) ?_)
    have h2 := Heap.get?_update_self (Obj.mapFields (·.setIfInBounds 1 (rawInt ((i : Int) + 1)))) h1 (Obj.isFreed_of_fields (Obj.data_mapFields d1 _))
    have d2 := Obj.data_mapFields d1 (·.setIfInBounds 1 (rawInt ((i : Int) + 1)))
    refine wpAny_pure ⟨_, rfl, wpAny_pure (hQ _ ⟨_, h2, (Obj.cls_mapFields ..).trans ((Obj.cls_mapFields ..).trans hcI), ?_⟩ ((Heap.SameBut.update ..).trans (Heap.SameBut.update ..)))⟩
    rw [d2]
    simp [rawInt]
  | none =>
    rw [e] at hQ
    dsimp only at hQ ⊢
    refine wpAny_bind (wpAny_setField hoI hdI (by simp) ?_)
    refine wpAny_bind ?_
    simp only [newExc, newTuple]
    refine wpAny_bind (wpAny_newObj_type ?_ (by size_fits))
    refine wpAny_bind (m := firstArgMember _ _) (wpAny_of_eq (a := Value.none) (by first | rfl | (simp only [firstArgMember]; rfl)) ?_)
    refine wpAny_newObj_type ?_ (by size_fits)
    simp only [raiseNew]
    refine wpAny_bind (wpAny_handled ?_)
    rw [show A.in1.handled = none from hh]
    refine wpAny_bind (wpAny_pure (wpAny_throw ?_))
    refine wpAny_bind (wpAny_isInstance (T := "StopIteration") (b := true) ⟨_, Heap.get?_push_size _ rfl, rfl⟩ isSubtype_stop ?_)
    exact wpAny_pure (hQ _ (((Heap.SameBut.update ..).extBut.push _).push _))
end
end
section
open PySem.SetTable
theorem walk_ex (w : World) (a : Addr) (ep : Nat) (es : Array (Int × Value)) (t : SetTable) (hps : t.place.size = es.size) :
    ∃ (Y : List Value) (R : Nat → Nat → Prop), R 0 0 ∧ (∀ i slot, R i slot → i < Y.length → ∃ x nx, Y[i]? = some x ∧ nextOf w a ep es t slot i = some (x, nx) ∧ R (i + 1) nx) ∧ (∀ slot, R Y.length slot → nextOf w a ep es t slot Y.length = none) ∧
      Y.length ≤ es.size ∧ ∀ x ∈ Y, ∃ e ∈ es.toList, e.2 = x := by
  unfold nextOf
  by_cases q : w.params.followText "set-order" = true
  · have hp := pick_ok (w.params.setOrder a ep) es
    refine ⟨(pickOrder (w.params.setOrder a ep) es).toList.map (·.2), fun _ slot => slot = 0, rfl, fun i slot hs hi => ?_, fun slot hs => ?_, by simpa using hp.1, fun x hx => ?_⟩
    · subst hs
      simp only [List.length_map, Array.length_toList] at hi
      rw [if_pos q]
      exact ⟨((pickOrder (w.params.setOrder a ep) es)[i]).2, 0, by simp [hi], by simp [hi], rfl⟩
    · rw [if_pos q]
      simp
    · refine via fun G_ hG_ => ?_
      obtain ⟨e, he, rfl⟩ := List.mem_map.mp hx
      refine hG_ ?_
      clear hG_ G_
      exact ⟨e, hp.2 e he, rfl⟩
  · have hlen : (ylds es t.place (t.place.size + 1) 0).length ≤ t.place.size := Nat.le_trans (ylds_len es t.place _ 0) (by refine Nat.le_trans (List.length_filter_le _ _) ?_; simp)
    refine ⟨(ylds es t.place (t.place.size + 1) 0).map (·.1), fun i slot => (ylds es t.place (t.place.size + 1) 0).drop i = ylds es t.place (t.place.size + 1 - i) slot, rfl, fun i slot hs hi => ?_, fun slot hs => ?_, by rw [List.length_map]; (first | exact q388 (by assumption) (by assumption) | omega), fun x hx => ?_⟩
    · simp only [List.length_map] at hi
      rw [if_neg q]
      have hf : t.place.size + 1 - i = (t.place.size + 1 - (i + 1)) + 1 := by (first | exact q386 (by assumption) (by assumption) (by assumption) | omega)
      have hd := List.drop_eq_getElem_cons hi
      rw [hs, hf] at hd
      rw [ylds] at hd
      split at hd
      · rename_i q0 x j e1 e2
        injection hd with h1 h2
        try rw [e1, e2]
        refine ⟨x, j + 1, ?_, rfl, h2.symm⟩
        rw [List.getElem?_map, List.getElem?_eq_getElem hi, ← h1]
        rfl
      · cases hd
    · simp only [List.length_map] at hs ⊢
      rw [if_neg q]
      rw [List.drop_length] at hs
      have hf : t.place.size + 1 - (ylds es t.place (t.place.size + 1) 0).length = (t.place.size - (ylds es t.place (t.place.size + 1) 0).length) + 1 := by (first | exact q387 (by assumption) (by assumption) | omega)
      rw [hf, ylds] at hs
      split at hs
      · cases hs
      · rename_i hno
        first
          | rfl
          | (split
             · rename_i q0 x j e1 e2
               exact (hno q0 x j e1 e2).elim
             · rfl)
    · refine via fun G_ hG_ => ?_
      obtain ⟨y, hy, rfl⟩ := List.mem_map.mp hx
      refine hG_ ?_
      clear hG_ G_
      exact ylds_mem es t.place _ _ y hy
section
variable {prog : Program} {w : World} {A : Around} {E : Value → Shared → Prop} {s : Shared} {a : Addr} {o : Obj} {es : Array (Int × Value)} {ep : Nat} {t : SetTable}
theorem set_hint {Q : Bool → Shared → Prop} (hT : s.TypeIs (.ref a) "set") (h : Q false s) : wpAny (model prog w) A (Builtin.List.listLengthHint (.ref a)) Q E s := by
  unfold Builtin.List.listLengthHint
  refine wpAny_bind (wpAny_specialOf hT set_len ?_)
  generalize hid : ("set.__len__" : String) = id0
  wp_delta
  rw [show splitId id0 = some ("set", "__len__") from by subst hid; decide +kernel]
  subst hid
  refine wpAny_bind (wpAny_isInstance (T := "set") (b := true) hT sub_set_self ?_)
  refine wpAny_ite_split (fun hab => absurd hab (by decide)) (fun _ => ?_)
  refine wpAny_ite_split (fun _ => ?_) (fun hab => absurd (by decide +kernel) hab)
  refine wpAny_bind (wpAny_typeOf hT ?_)
  exact wpAny_pure h
theorem set_src (hc : o.cls = .type "set") (hd : o.data = .set es ep t) (hf : t.fits es.size = true) (hpl : t.plain = true) (hled : w.params.followText "set-order" = true ∨ t.led = true) :
    ∃ Y : List Value, KdlSrc prog w "set" a a Y.length (fun i v => Y[i]? = some v) (fun h => h.get? a = some o) ∧ Y.length ≤ es.size ∧ ∀ x ∈ Y, ∃ e ∈ es.toList, e.2 = x := by
  have hps : t.place.size = es.size := by
    unfold SetTable.fits at hf
    rw [Bool.and_eq_true] at hf
    exact beq_iff_eq.mp hf.1
  refine via fun G_ hG_ => ?_
  obtain ⟨Y, R, h0, hstep, hend, hlen, hmem⟩ := walk_ex w a ep es t hps
  refine hG_ ?_
  clear hG_ G_
  refine ⟨Y, ⟨fun s ho => ⟨o, ho, hc⟩, fun h ho => ⟨Heap.lt_size ho, Heap.lt_size ho⟩, fun h h' ho k => k a (.inl rfl) o ho, by decide, by decide, fun A E s Q ho hq => set_hint ⟨o, ho, hc⟩ hq, fun A s hh ho => ?_⟩, hlen, hmem⟩
  have hlt : a < s.heap.objs.size := Heap.lt_size ho
  have hne : a ≠ s.heap.objs.size := Nat.ne_of_lt hlt
  refine ⟨{ cls := .type "set_iterator", data := .fields #[.int 0 0, .int 0 0, .ref a, .int es.size 0, .int ep 0] }, fun i h => (∃ slot, SIt h s.heap.objs.size a slot i es.size ep ∧ R i slot) ∧ h.get? a = some o, fun E Q hQ => set_iter_of ho hc hd hf hpl hQ, ?_, ⟨0, ⟨_, Heap.get?_push_size _ rfl, rfl, rfl⟩, h0⟩, Heap.get?_push_of_some _ ho⟩
  refine ⟨fun b hb => ?_, fun i h h' st hk => ?_, fun i s' Q E hi st hQ => ?_, fun s' Q E st hQ => ?_, fun i s' Q E st hQ => ?_⟩
  · rw [List.mem_singleton.mp hb]; exact .head _
  · refine via fun G_ hG_ => ?_
    obtain ⟨⟨slot, ⟨oI, e1, r⟩, hR⟩, e2⟩ := st
    refine hG_ ?_
    clear hG_ G_
    exact ⟨⟨slot, ⟨oI, hk _ (.head _) _ e1, r⟩, hR⟩, hk _ (.tail _ (.head _)) _ e2⟩
  · refine via fun G_ hG_ => ?_
    obtain ⟨⟨slot, it, hR⟩, e2⟩ := st
    refine hG_ ?_
    clear hG_ G_
    refine via fun G_ hG_ => ?_
    obtain ⟨x, nx, hx, hn, hR'⟩ := hstep i slot hR hi
    refine hG_ ?_
    clear hG_ G_
    refine si_next hh it e2 hd hf hpl hled ?_
    rw [hn]
    intro h' it' sb
    exact hQ x h' s'.toks hx ⟨⟨nx, it', hR'⟩, (sb.2 a hne).trans e2⟩ fun b ob hb e => (sb.2 b fun q => hb (List.mem_singleton.mpr q)).trans e
  · refine via fun G_ hG_ => ?_
    obtain ⟨⟨slot, it, hR⟩, e2⟩ := st
    refine hG_ ?_
    clear hG_ G_
    refine si_next hh it e2 hd hf hpl hled ?_
    rw [hend slot hR]
    intro h' eb
    exact hQ h' s'.toks fun b ob hb e => eb b ob (fun q => hb (List.mem_singleton.mpr q)) e
  · refine via fun G_ hG_ => ?_
    obtain ⟨⟨slot, it, hR⟩, e2⟩ := st
    refine hG_ ?_
    clear hG_ G_
    refine wpAny_pyIter_slot it.typeIs si_slot_iter (wpAny_call_entry si_slot_iter it.typeIs si_entry_iter ?_ (si_args_iter _))
    show wpAny _ _ (ret (.ref s.heap.objs.size)) _ _ s'
    exact wpAny_pure ⟨_, rfl, "set_iterator", _, it.typeIs, si_slot_next.lookup, hQ⟩
theorem ints_ex : ∀ {vs : List Value}, (∀ v ∈ vs, ∃ k t, v = .int k t) → ∃ ns, IntsAre vs ns
  | [], _ => ⟨[], .nil⟩
  | v :: r, h => by
    refine via fun G_ hG_ => ?_
    obtain ⟨k, t, rfl⟩ := h v (.head _)
    refine hG_ ?_
    clear hG_ G_
    obtain ⟨ns, i⟩ := ints_ex fun u hu => h u (.tail _ hu)
    exact ⟨k :: ns, .cons _ _ i⟩
theorem sorted_set {V : List Int} {h₀ : Heap} {L : Addr} {m : Str → Option Value} {news : List (Addr × Obj)} {Q : Value → Shared → Prop} (hh : A.handled = none) (F : Fr h₀ L s.heap m) (N : News h₀ L s.heap news) (S : SetL prog w V s.heap a)
    (h : ∀ (B : Addr) h' tk vs ns n, Fr h₀ L h' m → News h₀ L h' ((B, listOf (List.toArray vs) n) :: news) → (∀ q ∈ news, LT.lt (α := Nat) q.1 B) → IntsAre vs ns → Q (.ref B) { s with heap := h', toks := tk }) :
    wpAny (model prog w) A (call (.builtin "sorted") [.ref a]) Q E s := by
  refine via fun G_ hG_ => ?_
  obtain ⟨o, es, ep, t, ks, ho, hx, hd, hel, hmem, hnd, hsub, hlen, hpl, hdu, hps, hmk, hled⟩ := S
  refine hG_ ?_
  clear hG_ G_
  obtain ⟨Y, K, hY, hYm⟩ := set_src (prog := prog) (a := a) hx.1 hd (fits_of hdu hps (by rcases hmk with h | h <;> (first | exact q347 (by assumption) (by assumption) (by assumption) | exact q348 (by assumption) (by assumption) (by assumption) | omega))) hpl hled
  have h18 : Y.length ≤ 18 := by rcases hmk with h | h <;> (first | exact q382 (by assumption) (by assumption) (by assumption) (by assumption) | exact q383 (by assumption) (by assumption) (by assumption) (by assumption) | omega)
  refine kdu_sorted K hh F N ho (by rw [PySem.sizeLine_eq]; (first | exact q384 (by assumption) | omega)) fun D h' tk vs F' N' ltD hl hP => ?_
  obtain ⟨ns, hI⟩ : ∃ ns, IntsAre vs ns := ints_ex fun v hv => by
    obtain ⟨j, hj⟩ := List.getElem?_of_mem hv
    refine via fun G_ hG_ => ?_
    obtain ⟨e, he, rfl⟩ := hYm v (List.mem_of_getElem? (hP j v hj))
    refine hG_ ?_
    clear hG_ G_
    obtain ⟨k, hk⟩ := hel.keys e he
    obtain ⟨t, e2⟩ := Value.isInt_shape hk
    exact ⟨k, t, e2⟩
  have hoD := (N' _ (.head _)).1
  have hlt : LT.lt (α := Nat) D h'.objs.size := Heap.lt_size hoD
  refine wpAny_call_entry (s := { s with heap := h', toks := tk }) slot_list_sort ⟨_, hoD, rfl⟩ entry_list_sort (list_sort_tree (n := 0) hoD hI (by (first | exact q385 (by assumption) (by assumption) | omega)) fun out ns' a1 a2 a3 => ⟨_, rfl, ?_⟩) (args_list_sort _)
  obtain ⟨e, he⟩ := sortedHeap_at (vs := vs) (out := out) hoD
  have old : ∀ b ob, b ≠ D → h'.get? b = some ob → (sortedHeap h' D vs out).get? b = some ob := fun b ob hb e => (sortedHeap_old hb (Heap.lt_size e)).trans e
  have hDL : D ≠ L := (N' _ (.head _)).2.1
  have hD0 : h₀.get? D = none := (N' _ (.head _)).2.2
  refine h D _ tk out.toList ns' e ⟨F'.ns.at' fun o' q => old L o' (Ne.symm hDL) q, fun b ob q => old b ob (fun w => by rw [w, hD0] at q; cases q) (F'.keep b ob q), F'.above⟩ (fun p hp => ?_) ltD a1
  rcases List.mem_cons.mp hp with rfl | hp
  · refine ⟨?_, hDL, hD0⟩
    show _ = some (listOf out.toList.toArray e)
    rw [Array.toArray_toList]
    exact he
  · have hp2 := N' p (.tail _ hp)
    exact ⟨old _ _ (Nat.ne_of_lt (ltD p hp)) hp2.1, hp2.2⟩
end
end
section
open PyProof.Rows.LCg PyProof.V
section
variable {prog : Program} {w : World} {A : Around} {E : Value → Shared → Prop} {s : Shared} {h₀ : Heap} {L : Addr} {m : Str → Option Value} {news : List (Addr × Obj)}
theorem list_vals {d v : Addr} {ps : List (Int × Int)} {Q : Value → Shared → Prop} (hh : A.handled = none) (F : Fr h₀ L s.heap m) (N : News h₀ L s.heap news) (hv : (v, ({ cls := .type "dict_values", data := .fields #[.ref d] } : Obj)) ∈ news) (Ta : TabAt (intKind prog w) PyData.int s.heap d (intD ps)) (hn : ps.length ≤ 100000)
    (h : ∀ (B : Addr) c h' tk vs, Fr h₀ L h' m → News h₀ L h' ((B, listOf (List.toArray vs) c) :: news) → (∀ q ∈ news, LT.lt (α := Nat) q.1 B) → IntsAre vs (ps.map (·.2)) → Q (.ref B) { s with heap := h', toks := tk }) :
    wpAny (model prog w) A (call (.type "list") [.ref v]) Q E s := by
  refine via fun G_ hG_ => ?_
  obtain ⟨lo, kvs, hD, hf⟩ := Ta
  refine hG_ ?_
  clear hG_ G_
  obtain ⟨ep, hat⟩ := hD.dictAt
  have hkl : kvs.length = ps.length := by rw [← hf.length]; simp [intD]
  refine kdl_N (kdl_values (knd := intKind prog w) (kvs := kvs) (ep := ep)) hh F N ⟨⟨_, (N _ hv).1, rfl, rfl⟩, hat⟩ (by rw [PySem.sizeLine_eq]; (first | exact q125 (by assumption) (by assumption) | omega)) fun B c h' tk vs F' N' l1 hl hP => ?_
  refine h B c h' tk vs F' N' l1 (ints_of (by rw [hl, hkl]; simp) fun j u hu => ?_)
  obtain ⟨k, hx⟩ := hP j u hu
  refine via fun G_ hG_ => ?_
  obtain ⟨dv, hd, hfl⟩ := hf.at hx
  refine hG_ ?_
  clear hG_ G_
  simp only [intD, List.getElem?_map, Option.map_eq_some_iff] at hd
  refine via fun G_ hG_ => ?_
  obtain ⟨p, hp, e⟩ := hd
  refine hG_ ?_
  clear hG_ G_
  simp only [Prod.mk.injEq] at e
  rw [← e.2] at hfl
  obtain ⟨t, rfl⟩ := Flat.int_inv hfl
  exact ⟨p.2, t, by rw [List.getElem?_map, hp]; rfl, rfl⟩
end
/-- the end of a turn of a loop over a made list -/
noncomputable def TgtPost (h₀ : Heap) (L : Addr) (J : (Str → Option Value) → List (Addr × Obj) → Prop) (I l : Addr) (oI ol : Obj) (s₁ : Shared) (f : Flow) (s₂ : Shared) : Prop :=
  f = .next ∧ ∃ h' tk m' nx, s₂ = { s₁ with heap := h', toks := tk } ∧ Fr h₀ L h' m' ∧ News h₀ L h' ((I, oI) :: (l, ol) :: nx) ∧ (∀ p ∈ nx, p.1 ≠ I) ∧ J m' nx
section
variable {prog : Program} {w : World} {A : Around} {E : Value → Shared → Prop} {s : Shared} {env : Env} {h₀ : Heap} {body : List Stmt} {Q : Flow → Shared → Prop} {m₀ : Str → Option Value} {news : List (Addr × Obj)}
theorem tgt_loop {target : Expr} {l : Addr} {vs : List Value} {ns : List Int} (J : Nat → (Str → Option Value) → List (Addr × Obj) → Prop)
    (hh : A.handled = none) (hl : s.heap.IsList l vs.toArray) (hl0 : h₀.get? l = none) (hlL : l ≠ env.locals) (hi : IntsAre vs ns) (hgo : ∀ ax v, letOwnedTupleGo target (.ref ax) v = pure ()) (F : Fr h₀ env.locals s.heap m₀) (N : News h₀ env.locals s.heap news) (hlo : ∀ p ∈ news, LT.lt (α := Nat) p.1 l) (hj : J 0 m₀ news)
    (turn : ∀ i k t m₁ nx (s₁ : Shared) I oI ol, ns[i]? = some k → (∀ q ∈ nx, q.1 ≠ I) → (∀ q ∈ news, LT.lt (α := Nat) q.1 I) → LT.lt (α := Nat) l I → J i m₁ nx → Fr h₀ env.locals s₁.heap m₁ → News h₀ env.locals s₁.heap ((I, oI) :: (l, ol) :: nx) →
      wpAny (model prog w) A (assign target env (.int k t)) (fun _ s₃ => wpAny (model prog w) A (execs body env) (TgtPost h₀ env.locals (J (i + 1)) I l oI ol s₁) E s₃) E s₁)
    (done : ∀ m₁ nx h tk, J ns.length m₁ nx → Fr h₀ env.locals h m₁ → News h₀ env.locals h nx → Q .next { s with heap := h, toks := tk }) :
    wpAny (model prog w) A (pyIter (.ref l)) (fun it s₂ => LoopAtT prog w A h₀ env target body Q E it s₂) E s := by
  have hlt : LT.lt (α := Nat) l s.heap.objs.size := by obtain ⟨_, e, _⟩ := hl; exact Heap.lt_size e
  refine wpAny_pyIter_list hl ?_
  have W := Walks.list (prog := prog) (w := w) hh s.heap.objs.size l (Nat.ne_of_lt hlt) vs.toArray
  have hsz : vs.toArray.size = ns.length := by rw [List.size_toArray]; exact hi.length
  rw [hsz] at W
  have hI₀ : h₀.get? s.heap.objs.size = none := next_is_new F
  refine ⟨s.heap.objs.size, _, [s.heap.objs.size], ns.length, _, _, m₀, news, J, rfl, W, ?_, fun b hb => by rw [List.mem_singleton.mp hb]; exact hI₀, fun p hp q => absurd (Heap.lt_size (N p hp).1) ((List.mem_singleton.mp q) ▸ Nat.lt_irrefl _),
    ⟨⟨_, Heap.get?_push_size _ rfl, rfl, rfl⟩, hl.push _⟩, F.push _, fun p hp => ⟨Heap.get?_push_of_some _ (N p hp).1, (N p hp).2⟩, fun i s' v Q' st hQ' => by rw [hgo]; exact wpAny_pure hQ', hj, ?_, ?_⟩
  · intro hm
    rcases List.mem_cons.mp hm with e | hm
    · exact absurd F.ns.lt (e ▸ Nat.lt_irrefl _)
    · exact hlL (List.mem_singleton.mp hm).symm
  · intro i v m₁ news₁ s₁ own hn hv hJ hoff hsub hget hall st F₁ N₁
    obtain ⟨t, e⟩ := hi.int_at i v (by simpa using hv)
    have hk : ns[i]? = some (ns.getD i 0) := by simp [List.getD, hn]
    subst e
    refine via fun G_ hG_ => ?_
    obtain ⟨oI, hoI, _⟩ := st.1
    refine hG_ ?_
    clear hG_ G_
    refine via fun G_ hG_ => ?_
    obtain ⟨ol, hol, _⟩ := st.2
    refine hG_ ?_
    clear hG_ G_
    have hIown : (s.heap.objs.size, oI) ∈ own := hall _ (.head _) hI₀ oI hoI
    have hlown : (l, ol) ∈ own := hall _ (.tail _ (.head _)) hl0 ol hol
    refine wpAny_mono (turn i _ t m₁ news₁ s₁ _ oI ol hk (fun p hp q => hoff p hp (List.mem_singleton.mpr q)) (fun q hq => Heap.lt_size (N q hq).1) hlt hJ F₁ fun p hp => ?_) (fun _ s₃ z => wpAny_mono z (fun f s₂ z => ?_) fun _ _ e => e) fun _ _ e => e
    · rcases List.mem_cons.mp hp with rfl | hp
      · exact N₁ _ (List.mem_append_left _ hIown)
      rcases List.mem_cons.mp hp with rfl | hp
      · exact N₁ _ (List.mem_append_left _ hlown)
      · exact N₁ _ (List.mem_append_right _ hp)
    refine via fun G_ hG_ => ?_
    obtain ⟨rfl, h', tk, m', nx, rfl, F', N', off', J'⟩ := z
    refine hG_ ?_
    clear hG_ G_
    refine ⟨rfl, h', tk, m', nx, rfl, F', fun p hp => ?_, fun p hp q => off' p hp (List.mem_singleton.mp q), J'⟩
    rcases List.mem_append.mp hp with q | q
    · have a := hget p q
      rcases List.mem_cons.mp (hsub p q) with e | e
      · rw [e, hoI] at a
        rw [show p = (s.heap.objs.size, oI) from Prod.ext e (Option.some.inj a).symm]
        exact N' _ (.head _)
      · have e := List.mem_singleton.mp e
        rw [e, hol] at a
        rw [show p = (l, ol) from Prod.ext e (Option.some.inj a).symm]
        exact N' _ (.tail _ (.head _))
    · exact N' p (.tail _ (.tail _ q))
  · intro h' tk m' news' F' N' _ hJ
    exact done m' news' h' tk hJ F' N'
theorem tgt_keep {target : Expr} {l : Addr} {vs : List Value} {ns : List Int} (ys : List Str) (J : Nat → (Str → Option Value) → List (Addr × Obj) → Prop)
    (hh : A.handled = none) (hl : s.heap.IsList l vs.toArray) (hl0 : h₀.get? l = none) (hlL : l ≠ env.locals) (hi : IntsAre vs ns) (hgo : ∀ ax v, letOwnedTupleGo target (.ref ax) v = pure ()) (F : Fr h₀ env.locals s.heap m₀) (N : News h₀ env.locals s.heap news) (hlo : ∀ p ∈ news, LT.lt (α := Nat) p.1 l) (hj : J 0 m₀ news)
    (turn : ∀ i k t m₁ nx (s₁ : Shared) I oI ol, ns[i]? = some k → (∀ q ∈ nx, q.1 ≠ I) → (∀ q ∈ news, LT.lt (α := Nat) q.1 I) → LT.lt (α := Nat) l I → J i m₁ nx → (∀ z, z ∉ ys → m₁ z = m₀ z) → Fr h₀ env.locals s₁.heap m₁ → News h₀ env.locals s₁.heap ((I, oI) :: (l, ol) :: nx) →
      wpAny (model prog w) A (assign target env (.int k t)) (fun _ s₃ => wpAny (model prog w) A (execs body env) (TgtPost h₀ env.locals (fun m nx => J (i + 1) m nx ∧ ∀ z, z ∉ ys → m z = m₀ z) I l oI ol s₁) E s₃) E s₁)
    (done : ∀ m₁ nx h tk, J ns.length m₁ nx → (∀ z, z ∉ ys → m₁ z = m₀ z) → Fr h₀ env.locals h m₁ → News h₀ env.locals h nx → Q .next { s with heap := h, toks := tk }) :
    wpAny (model prog w) A (pyIter (.ref l)) (fun it s₂ => LoopAtT prog w A h₀ env target body Q E it s₂) E s :=
  tgt_loop (fun i m nx => J i m nx ∧ ∀ z, z ∉ ys → m z = m₀ z) hh hl hl0 hlL hi hgo F N hlo ⟨hj, fun _ _ => rfl⟩ (fun i k t m₁ nx s₁ I oI ol a1 a2 a3 a4 a5 a6 a7 => turn i k t m₁ nx s₁ I oI ol a1 a2 a3 a4 a5.1 a5.2 a6 a7) fun m₁ nx h tk a1 a2 a3 => done m₁ nx h tk a1.1 a1.2 a2 a3
end
theorem read_vals {ks : List Int} {a : Int} {ps : List (Int × Int)} (ha : 0 ≤ a) (hl : ks.length ≤ 33) (G : ReadGood ks a ps) : ∃ V : List Int, V.length ≤ 15 ∧ ∀ p ∈ ps, p.2 ∈ V := by
  rcases G.2 with ⟨_, h1, _, rfl⟩ | ⟨_, _, h2, rfl⟩
  · refine ⟨(List.range (w2 ks (a + 2 + 2)).toNat).map fun (i : Nat) => w2 ks (a + 2 + 4 + 2 * i), by rw [List.length_map, List.length_range]; (first | exact q389 (by assumption) (by assumption) (by assumption) | omega), fun p hp => ?_⟩
    refine via fun G_ hG_ => ?_
    obtain ⟨i, hi, rfl⟩ := List.mem_map.mp hp
    refine hG_ ?_
    clear hG_ G_
    exact List.mem_map.mpr ⟨i, hi, rfl⟩
  · refine ⟨(List.range (w2 ks (a + 2)).toNat).map fun (i : Nat) => sNum ks (a + 2) i, by have := h2.1; rw [List.length_map, List.length_range]; (first | exact q390 (by assumption) (by assumption) (by assumption) (by assumption) | omega), fun p hp => ?_⟩
    have aux : ∀ n, p ∈ spanPairs ks (a + 2) n → ∃ i, i < n ∧ p.2 = sNum ks (a + 2) i := by
      intro n
      induction n with
      | zero => intro h; exact nomatch h
      | succ n ih =>
        intro h
        rcases List.mem_append.mp h with h | h
        · refine via fun G_ hG_ => ?_
          obtain ⟨i, hi, e⟩ := ih h
          refine hG_ ?_
          clear hG_ G_
          exact ⟨i, by (first | exact q79 (by assumption) | omega), e⟩
        · refine via fun G_ hG_ => ?_
          obtain ⟨j, _, e⟩ := List.mem_map.mp h
          refine hG_ ?_
          clear hG_ G_
          exact ⟨n, by (first | exact q80 | omega), by rw [← e]⟩
    refine via fun G_ hG_ => ?_
    obtain ⟨i, hi, e⟩ := aux _ hp
    refine hG_ ?_
    clear hG_ G_
    exact List.mem_map.mpr ⟨i, List.mem_range.mpr hi, e.symm⟩
end
section
open PyProof.Rows.LCg PyProof.V
section
variable {prog : Program} {w : World} {A : Around} {E : Value → Shared → Prop} {s : Shared} {h₀ base hc : Heap} {L : Addr} {m : Str → Option Value} {env : Env} {outer : List Env} {S₀ : List Addr} {Hz : Int → Prop}
/-- the block of a list comprehension over a dict of the ledger -/
theorem keys_block {elt iter : Expr} {ifs : List Expr} {x : Str} {px : Pos} {scope : Scope} {cl : List (Str × Addr)} {pos : Pos} {Q : Value → Shared → Prop} {d : Addr} {od : Obj} {kvs : List (Int × Value)} {ps : List (Int × Int)} {news : List (Addr × Obj)} (J : Nat → List Value → List (Addr × Obj) → Prop)
    (hcell : ∀ y ∈ scope.names, y.2 ≠ .cell) (hkind : scope.kind = .function) (hx : scope.names.lookup x = some .local)
    (hfr : A.frames = some (env :: outer)) (hle : env.frame = some L) (hkf : env.scope.kind = .function) (hbL : base.get? L = none) (FR : Frs base h₀ outer)
    (hh : A.handled = none) (hS : ∀ i ys nw, J i ys nw → (d, od) ∈ nw) (lo : (d == sysModules) = false) (hkd : od.IsDictOf (intKind prog w) kvs) (hf : FlatPairs PyData.int kvs (intD ps)) (hsz : ps.length ≤ 100000)
    (F : Fr h₀ L s.heap m) (N : News h₀ L s.heap news) (hcl : ∀ b o, hc.get? b = some o → ∃ o', s.heap.get? b = some o') (hJ : J 0 [] news)
    (turn : ∀ (i : Nat) p t I oI C oC D m₂ ys news h tk, ps[i]? = some p → ys.length ≤ i → J i ys news → NsObj oC m₂ → m₂ x = some (.int p.1 t) → Fr h₀ L h m → News h₀ L h ((I, oI) :: (C, oC) :: (D, lst ys) :: news) → Off3 I C D news → ((@Ne Nat I C) ∧ (@Ne Nat I D) ∧ (@Ne Nat C D)) →
      wpAny (model prog w) A (testsOf ifs (compEnvC scope cl C env)) (fun ok s₃ => if ok = true then wpAny (model prog w) A (eval elt (compEnvC scope cl C env)) (fun y s₄ => TurnEnd h₀ L m { s with heap := h, toks := tk } I oI C oC D (lst ys) (J (i + 1) (ys ++ [y])) s₄)
          (TurnExc env outer hc S₀ Hz C h { s with heap := h, toks := tk }) s₃
        else TurnEnd h₀ L m { s with heap := h, toks := tk } I oI C oC D (lst ys) (J (i + 1) ys) s₃) (TurnExc env outer hc S₀ Hz C h { s with heap := h, toks := tk }) { s with heap := h, toks := tk })
    (exc : ∀ e z h' tk, Hz z → Fly (frs (env :: outer)) S₀ hc e z h' → Frs base h' (env :: outer) → E (.ref e) { s with heap := h', toks := tk })
    (done : ∀ D h tk ys news', Fr h₀ L h m → News h₀ L h ((D, lst ys) :: news') → Off1 D news' → ys.length ≤ ps.length → J ps.length ys news' → Q (.ref D) { s with heap := h, toks := tk }) :
    wpAny (model prog w) A (pyIter (.ref d)) (fun it s₂ => Block prog w A E env elt iter ifs x px scope cl pos Q it s₂) E s := by
  have up : ∀ {ob : Obj} b o, s.heap.get? b = some o → (s.heap.push ob).get? b = some o := fun _ _ e => Heap.get?_push_of_some _ e
  have hod := (N _ (hS _ _ _ hJ)).1
  obtain ⟨ep, hat⟩ := (show s.heap.DictOf (intKind prog w) d kvs from Heap.dictOf_iff.mpr ⟨od, hod, hkd⟩).dictAt
  have hkl : kvs.length = ps.length := by rw [← hf.length]; simp [intD]
  have hlt : d < s.heap.objs.size := Heap.lt_size hod
  refine wpAny_pyIter_dict lo hat ?_
  refine comp_block (s := { s with heap := _ }) (hc := hc) (S₀ := S₀) (Hz := Hz) (outer := outer) (base := base) (h₀ := h₀) (L := L) (m := m) (news := news) (S := fun nw => (d, od) ∈ nw) (J := J) hcell hkind hx hfr hle hkf hbL FR (Walks.dictKeys hh s.heap.objs.size d (Nat.ne_of_lt hlt) kvs ep) (by rw [hkl, PySem.sizeLine_eq]; (first | exact q391 (by assumption) (by assumption) | omega))
    (fun i h st => by obtain ⟨o, e, _⟩ := st.1; exact ⟨o, e⟩) ?_ ⟨⟨_, Heap.get?_push_size _ rfl, rfl, rfl⟩, hat.at' fun o e => up _ _ e⟩ (fun b hb => ?_) (F.keeps up) (N.grown up) (Nat.ne_of_lt F.ns.lt) (next_is_new F) (fun p hp => Nat.ne_of_lt (Heap.lt_size (N p hp).1)) hS hJ
    (fun b o q => let ⟨o', q'⟩ := hcl b o q; ⟨o', up _ _ q'⟩) ?_ exc ?_
  · intro i h h' o nw z0_ e1 e2 _ N' hm
    refine via fun G_ hG_ => ?_
    obtain ⟨⟨oI, e, r⟩, ha⟩ := z0_
    refine hG_ ?_
    clear hG_ G_
    rw [e1] at e
    cases e
    refine ⟨⟨o, e2, r⟩, ?_⟩
    refine via fun G_ hG_ => ?_
    obtain ⟨o', es, ho', r'⟩ := hat
    refine hG_ ?_
    clear hG_ G_
    rw [hod] at ho'
    cases ho'
    exact ⟨od, es, (N' _ hm).1, r'⟩
  · show b < (s.heap.push _).objs.size
    rw [Heap.size_push]
    rcases List.mem_cons.mp hb with rfl | hb
    · exact Nat.lt_succ_self _
    · rw [List.mem_singleton.mp hb]; exact Nat.lt_succ_of_lt hlt
  · intro i v I oI C oC D m₂ ys news h tk hi z0_ hy hJ' hoC hm₂ F' N' off ne
    refine via fun G_ hG_ => ?_
    obtain ⟨k, xx, hxx, hk⟩ := z0_
    refine hG_ ?_
    clear hG_ G_
    obtain ⟨t, rfl⟩ := Flat.int_inv (kdl_flat_int hk)
    have hp := flat_keys (w := w) (prog := prog) hf hxx
    rw [List.getElem?_map] at hp
    refine via fun G_ hG_ => ?_
    obtain ⟨p, hp2, rfl⟩ := Option.map_eq_some_iff.mp hp
    refine hG_ ?_
    clear hG_ G_
    exact turn i p t I oI C oC D m₂ ys news h tk hp2 hy hJ' hoC hm₂ F' N' off ne
  · rw [hkl]; exact done
end
end
section
open PyProof.Rows.LCg PyProof.V


theorem kept_turn {A : Around} {base h₀ g g' h : Heap} {l : List Env} {L' : Addr} {m : Str → Option Value} (hsub : ∀ b o, h₀.get? b = some o → g.get? b = some o) (B : Below A base l g) (Tu : KtsTurn (frs l) g g') (F : Fr g' L' h m) : Kept (frAddrs A) [] h₀ h := by
  rw [frAddrs_in B]
  refine ⟨fun b o e => ?_, fun b o e _ hn => F.keep _ _ (Tu.other b o (hsub b o e) hn), fun b o e _ hm => ?_⟩
  · obtain ⟨sl, z⟩ := Tu.up (hsub b o e)
    exact ⟨_, F.keep _ _ z⟩
  · obtain ⟨sl, z⟩ := Tu.up (hsub b o e)
    exact ⟨sl, F.keep _ _ z⟩
theorem news_cons {g h : Heap} {L a : Addr} {o : Obj} {nw : List (Addr × Obj)} (N : News g L h nw) (ho : h.get? a = some o) (hL : a ≠ L) (hg : g.get? a = none) : News g L h ((a, o) :: nw) := fun p hp => by
  rcases List.mem_cons.mp hp with rfl | hp
  · exact ⟨ho, hL, hg⟩
  · exact N p hp
theorem news_sub {g h : Heap} {L : Addr} {a b : List (Addr × Obj)} (N : News g L h a) (k : ∀ p ∈ b, p ∈ a) : News g L h b := fun p hp => N p (k p hp)
theorem news_mid {g h : Heap} {L : Addr} {t : Addr × Obj} {pre fro : List (Addr × Obj)} (N : News g L h (t :: (pre ++ fro))) : News g L h (pre ++ t :: fro) := fun p hp => N p (by
  rcases List.mem_append.mp hp with hp | hp
  · exact .tail _ (List.mem_append_left _ hp)
  · rcases List.mem_cons.mp hp with rfl | hp
    · exact .head _
    · exact .tail _ (List.mem_append_right _ hp))
theorem rows_hit : ∀ {ps qs : List (Int × Int)}, (∀ p ∈ ps, Spec.lookup (.int p.1) (intD qs) = some (.int p.2)) → KeqRows (intD qs) (intD ps) true
  | [], _, _ => .nil
  | p :: r, qs, h => by
    have e : (PyData.eqv (.int p.2) (.int p.2) && true) = true := by simp [PyData.eqv]
    have := KeqRows.hit (v := PyData.int p.2) (h p (.head _)) (rows_hit (ps := r) (qs := qs) fun q hq => h q (.tail _ hq))
    rw [e] at this
    exact this
theorem rows_same {ps : List (Int × Int)} (h : ps.Pairwise fun p q => p.1 < q.1) : KeqRows (intD ps) (intD ps) true :=
  rows_hit fun p hp => by rw [intD_lookup (List.mem_map_of_mem hp), clsOf_mem h hp]
theorem off3_mid {I C D : Addr} {t : Addr × Obj} {pre fro : List (Addr × Obj)} (o : Off3 I C D (pre ++ fro)) (ht : t.1 ≠ I ∧ t.1 ≠ C ∧ t.1 ≠ D) : Off3 I C D (pre ++ t :: fro) := Off3.of fun p hp => by
  rcases List.mem_append.mp hp with hp | hp
  · exact o.mem p (List.mem_append_left _ hp)
  · rcases List.mem_cons.mp hp with rfl | hp
    · exact ht
    · exact o.mem p (List.mem_append_right _ hp)
theorem fresh_ne {g h : Heap} {L a : Addr} {m : Str → Option Value} (F : Fr g L h m) (e : h.get? a = none) : a ≠ L ∧ g.get? a = none :=
  ⟨fun q => (by obtain ⟨o, _, _, ho, _⟩ := F.ns; rw [q, ho] at e; cases e), kts_none F.keep e⟩
theorem fresh_new {g h : Heap} {L a b : Addr} {o : Obj} {nw : List (Addr × Obj)} (N : News g L h nw) (e : h.get? a = none) (hm : (b, o) ∈ nw) : a ≠ b := fun q => by
  rw [q, (N _ hm).1] at e; cases e
theorem tab_ne {w : World} {d dx : Addr} {D : List (PyData × PyData)} {h : Heap} {k : Int} {s : Str} {t : Tok} {v : Value} (T : TabAt (intKind PySem.Challenge.rw_pb0173_01.row.prog w) PyData.int h d D) (hx : h.get? dx = some (dictOf [⟨k, .str s t, v⟩] 1)) : d ≠ dx := fun q => by
  refine via fun G_ hG_ => ?_
  obtain ⟨_, kvs, ⟨o, es, ep, ho, _, hd, hk, _⟩, _⟩ := T
  refine hG_ ?_
  clear hG_ G_
  rw [q, hx] at ho
  cases ho
  cases hd
  refine via fun G_ hG_ => ?_
  obtain ⟨k', hk', _⟩ := hk ⟨k, .str s t, v⟩ (by simp)
  refine hG_ ?_
  clear hG_ G_
  obtain ⟨t', e⟩ := Flat.int_inv (kdl_flat_int hk')
  cases e
theorem isd_cls {prog : Program} {w : World} {o : Obj} {kvs : List (Int × Value)} (h : o.IsDictOf (intKind prog w) kvs) : o.cls = .type "dict" := by
  refine via fun G_ hG_ => ?_
  obtain ⟨_, _, hx, _⟩ := h
  refine hG_ ?_
  clear hG_ G_
  exact hx.1
theorem fold_max : ∀ {l : List (Int × Int)} {b : Int}, b ≤ l.foldl (fun m p => max m p.2) b ∧ (∀ p ∈ l, p.2 ≤ l.foldl (fun m p => max m p.2) b) ∧ (l.foldl (fun m p => max m p.2) b = b ∨ ∃ p ∈ l, l.foldl (fun m p => max m p.2) b = p.2)
  | [], b => ⟨Int.le_refl _, (fun _ h => nomatch h), .inl rfl⟩
  | q :: r, b => by
    refine via fun G_ hG_ => ?_
    obtain ⟨h1, h2, h3⟩ := fold_max (l := r) (b := max b q.2)
    refine hG_ ?_
    clear hG_ G_
    rw [List.foldl_cons]
    refine ⟨by omega, fun p hp => ?_, ?_⟩
    · rcases List.mem_cons.mp hp with rfl | hp
      · omega
      · exact h2 p hp
    · rcases h3 with h3 | ⟨p, hp, e⟩
      · by_cases c : b ≤ q.2
        · exact .inr ⟨q, .head _, by (first | exact q406 (by assumption) (by assumption) | omega)⟩
        · exact .inl (by (first | exact q407 (by assumption) (by assumption) | omega))
      · exact .inr ⟨p, .tail _ hp, e⟩
theorem max_fold {l : List (Int × Int)} {M : Int} (h : M ∈ [0] ++ l.map (·.2)) (hle : ∀ a, a ∈ [0] ++ l.map (·.2) → a ≤ M) : M = l.foldl (fun m p => max m p.2) 0 := by
  refine via fun G_ hG_ => ?_
  obtain ⟨h1, h2, h3⟩ := fold_max (l := l) (b := 0)
  refine hG_ ?_
  clear hG_ G_
  have a1 : M ≤ l.foldl (fun m p => max m p.2) 0 := by
    rcases List.mem_append.mp h with h | h
    · rw [List.mem_singleton.mp h]; exact h1
    · refine via fun G_ hG_ => ?_
      obtain ⟨p, hp, rfl⟩ := List.mem_map.mp h
      refine hG_ ?_
      clear hG_ G_
      exact h2 p hp
  have a2 : l.foldl (fun m p => max m p.2) 0 ≤ M := by
    rcases h3 with h3 | ⟨p, hp, e⟩
    · rw [h3]; exact hle 0 (List.mem_append_left _ (List.mem_singleton.mpr rfl))
    · rw [e]; exact hle _ (List.mem_append_right _ (List.mem_map.mpr ⟨p, hp, rfl⟩))
  (first | exact q392 (by assumption) (by assumption) | omega)
theorem ext_kept {fr : List Addr} {h h' : Heap} (x : Ext [] h h') : Kept fr [] h h' :=
  ⟨fun b o e => ⟨o, x b o e (fun m => nomatch m)⟩, fun b o e _ _ => x b o e (fun m => nomatch m), fun b o e _ _ => ⟨o.slots, x b o e (fun m => nomatch m)⟩⟩
theorem right_spec {w : World} {mean : ExcName → Option Value} {mg mb : Str → Option Value} {base : Heap} {A : Around} {E : Value → Shared → Prop} {s : Shared} {arr : Array UInt8} {a : Int} {ks : List Int} {t ta : Tok} {Q : Value → Shared → Prop} (G : Gnd w mean mg mb base A s.heap) (hroom : A.depth ≤ 540) (hun : A.units ≤ 6400)
    (hks : KBw.bInts arr = ks) (hsz : ks.length ≤ 33) (ha : 0 ≤ a) (ha2 : a ≤ ks.length)
    (ret : ∀ h' tk, Kept (frAddrs A) [] s.heap h' → Q (.bool true) { s with heap := h', toks := tk }) :
    wpAny (model PySem.Challenge.rw_pb0173_01.row.prog w) A (call (.ref 274) [.bytes arr t, .int a ta]) Q E s := by
  refine wpAny_call ?_
  k_dflt (refine' enterC (news := []) G ?hn ?ho ?hcd ?hroom ?hbind ?hkind ?hnd ?_ ?q1 ?q2 ?q3; (case ho => k_is); (case hcd => k_is); (case hroom => first | (simp only [recursionLimit]; (first | exact q393 (by assumption) | omega)) | omega | assumption); (case hbind => exact BindsTo.of_eq rfl); (case hkind => exact rfl); (case hnd => decide +kernel); (case q1 => rfl); (case q2 => rfl); (case q3 => rfl))
  case hn => exact fun _ hp => nomatch hp
  intro g L' h₁ l tk0 cells hsub hsup hL F N Y B X T FR lt0
  k_cells Y
  try dsimp only
  simp only [List.cons_append, List.nil_append] at N
  (repeat' (first | ((with_reducible show wpAny _ _ (exec _ _) _ _ _); k_fold) | (with_reducible first | refine Jq5 ?_ | refine Jq0 ?_ | refine Jq1 ?_ | refine Jq2 ?_ | refine Jq7 ?_ | refine Jq3 ?_ | refine Jq4 ?_ | refine Jq8 ?_ | refine Jq9 ?_ | refine Jq10 ?_ | refine Jq11 ?_ | refine Jq12 ?_) | (k_unfold; (try dsimp only)) | (k_end; wrow_close) | walk1 | (dsimp only; walk1) | (leave1; walk_say "STEP leave1"; try dsimp only) | fail "no step"))
  unfold Hold
  rename Fr _ _ _ _ => Fc
  rename News _ _ _ _ => Nc
  refine due_spec (G.inside B FR Fc rfl rfl) (by simp only [depth_deeper]; (first | exact q394 (by assumption) | omega)) (by simp only [units_deeper]; (first | exact q395 (by assumption) | omega)) hks (by (first | exact q396 (by assumption) | omega)) ha ha2 (fun z tz h2 tk2 hbad ex => ?_) fun d h2 tk2 ps hgood ex Td hdn => ?_
  ·
    have F2 := fr_ext Fc ex (fun m => nomatch m) (fun _ m => nomatch m)
    have N2 := news_ext Nc ex fun _ _ m => nomatch m
    clear Fc Nc
    (repeat' (first | ((with_reducible show wpAny _ _ (exec _ _) _ _ _); k_fold) | (with_reducible first | refine Jq5 ?_ | refine Jq0 ?_ | refine Jq1 ?_ | refine Jq2 ?_ | refine Jq7 ?_ | refine Jq3 ?_ | refine Jq4 ?_ | refine Jq8 ?_ | refine Jq9 ?_ | refine Jq10 ?_ | refine Jq11 ?_ | refine Jq12 ?_) | (k_unfold; (try dsimp only)) | (k_end; wrow_close) | walk1 | (dsimp only; walk1) | (leave1; walk_say "STEP leave1"; try dsimp only) | fail "no step"))
    unfold Hold
    refine wpAny_Try_except ?_
    (repeat' (first | ((with_reducible show wpAny _ _ (exec _ _) _ _ _); k_fold) | (with_reducible first | refine Jq5 ?_ | refine Jq0 ?_ | refine Jq1 ?_ | refine Jq2 ?_ | refine Jq7 ?_ | refine Jq3 ?_ | refine Jq4 ?_ | refine Jq8 ?_ | refine Jq9 ?_ | refine Jq10 ?_ | refine Jq11 ?_ | refine Jq12 ?_) | (k_unfold; (try dsimp only)) | (k_end; wrow_close) | walk1 | (dsimp only; walk1) | (leave1; walk_say "STEP leave1"; try dsimp only) | fail "no step"))
    unfold Hold
    rename Fr _ _ _ _ => Fc
    rename News _ _ _ _ => Nc
    refine read_spec (G.inside B FR Fc rfl rfl) (by simp only [depth_deeper]; (first | exact q394 (by assumption) | omega)) (by simp only [units_deeper]; (first | exact q395 (by assumption) | omega)) hks (by (first | exact q396 (by assumption) | omega)) ha (by (first | exact q397 (by assumption) (by assumption) | omega)) (fun e z' h3 tk3 hb fly => ?_) fun x dx d h3 tk3 ps' hg ex3 C Td3 nx ndx nd => ?_
    · have hz := read_bad_one hb hbad
      subst hz
      try dsimp only
      refine catch_start G B FR Fc Nc rfl rfl fly fun g' h4 dx T oT ts v qv c3 c4 c5 c6 sl k1 tk1 v1 k2 tk2 tx n Tu X' T' B' FR' F N hT hTd h3' hTn hLT hgT => ?_
      clear Fc Nc
      refine wpAny_handleBy_cons (codeAny_handlers_test ?_) (by intro q; cases q)
      (repeat' (first | ((with_reducible show wpAny _ _ (exec _ _) _ _ _); k_fold) | (with_reducible first | refine Jq5 ?_ | refine Jq0 ?_ | refine Jq1 ?_ | refine Jq2 ?_ | refine Jq7 ?_ | refine Jq3 ?_ | refine Jq4 ?_ | refine Jq8 ?_ | refine Jq9 ?_ | refine Jq10 ?_ | refine Jq11 ?_ | refine Jq12 ?_) | (k_unfold; (try dsimp only)) | (k_end; wrow_close) | walk1 | (dsimp only; walk1) | (leave1; walk_say "STEP leave1"; try dsimp only) | fail "no step"))
      have Xh := X'.keeps F.keep
      refine exc_matches Xh (N (e, _) (.head _)).1 ?_
      dsimp only [if_true]
      refine codeAny_handlers_suite_as ?_
      refine flight_none (N (e, _) (.head _)).1 rfl rfl hT hTd h3' fun h5 oT5 ts5 v5 k5 _ _ _ => ?_
      have F5 : Fr g' L' h5 _ := ⟨F.ns.at' fun o q => (k5 L' hLT).trans q, fun b o q => (k5 b fun w => by rw [w, hgT] at q; cases q).trans (F.keep b o q), F.above⟩
      have N5 : News g' L' h5 _ := fun p hp => ⟨(k5 _ (hTn p hp)).trans (N p hp).1, (N p hp).2⟩
      clear F N
      (repeat' (first | ((with_reducible show wpAny _ _ (exec _ _) _ _ _); k_fold) | (with_reducible first | refine Jq5 ?_ | refine Jq0 ?_ | refine Jq1 ?_ | refine Jq2 ?_ | refine Jq7 ?_ | refine Jq3 ?_ | refine Jq4 ?_ | refine Jq8 ?_ | refine Jq9 ?_ | refine Jq10 ?_ | refine Jq11 ?_ | refine Jq12 ?_) | (k_unfold; (try dsimp only)) | (k_end; wrow_close) | walk1 | (dsimp only; walk1) | (leave1; walk_say "STEP leave1"; try dsimp only) | fail "no step"))
      rename Fr _ _ _ _ => F
      rename News _ _ _ _ => N
      refine get_at (X'.keeps F.keep) (N (e, _) (.head _)).1 (N (dx, _) (.tail _ (.head _))).1 ?_
      (repeat' (first | ((with_reducible show wpAny _ _ (exec _ _) _ _ _); k_fold) | (with_reducible first | refine Jq5 ?_ | refine Jq0 ?_ | refine Jq1 ?_ | refine Jq2 ?_ | refine Jq7 ?_ | refine Jq3 ?_ | refine Jq4 ?_ | refine Jq8 ?_ | refine Jq9 ?_ | refine Jq10 ?_ | refine Jq11 ?_ | refine Jq12 ?_) | (k_unfold; (try dsimp only)) | (k_end; wrow_close) | walk1 | (dsimp only; walk1) | (leave1; walk_say "STEP leave1"; try dsimp only) | fail "no step"))
      rw [beq_self_eq_true]
      try dsimp only
      refine wpAny_nameGoes (by rfl) F.ns (by rfl) fun h6 m6 n6 s6 => ?_
      try dsimp only
      have F6 : Fr g' L' h6 m6 := ⟨n6, fun b o q => s6.extBut b o (fun w => by have w' : b = L' := w; rw [w', kts_self F] at q; cases q) (F.keep b o q), F.above⟩
      exact ret h6 _ (kept_turn (fun b o q => hsub b o q fun m => nomatch m) B Tu F6)
    · exact (read_bad_good hks hbad hg).elim
  · have F2 := fr_ext Fc ex (fun m => nomatch m) (fun _ m => nomatch m)
    refine via fun G_ hG_ => ?_
    obtain ⟨lo, kvs, hD, hf⟩ := Td
    refine hG_ ?_
    clear hG_ G_
    refine via fun G_ hG_ => ?_
    obtain ⟨od, hod, hkd⟩ := Heap.dictOf_iff.mp hD
    refine hG_ ?_
    clear hG_ G_
    have dL := fresh_ne Fc hdn
    have hd1 : @Ne Nat d (L' + 1) := fresh_new Nc hdn (by exact .tail _ (.tail _ (.head _)))
    have hd2 : @Ne Nat d (L' + 1 + 1) := fresh_new Nc hdn (by exact .tail _ (.head _))
    have hd3 : @Ne Nat d (L' + 1 + 1 + 1) := fresh_new Nc hdn (by exact .head _)
    have N2 := news_cons (news_ext Nc ex fun _ _ m => nomatch m) hod dL.1 dL.2
    clear Fc Nc
    (repeat' (first | ((with_reducible show wpAny _ _ (exec _ _) _ _ _); k_fold) | (with_reducible first | refine Jq5 ?_ | refine Jq0 ?_ | refine Jq1 ?_ | refine Jq2 ?_ | refine Jq7 ?_ | refine Jq3 ?_ | refine Jq4 ?_ | refine Jq8 ?_ | refine Jq9 ?_ | refine Jq10 ?_ | refine Jq11 ?_ | refine Jq12 ?_) | (k_unfold; (try dsimp only)) | (k_end; wrow_close) | walk1 | (dsimp only; walk1) | (leave1; walk_say "STEP leave1"; try dsimp only) | fail "no step"))
    unfold Hold
    refine wpAny_Try_except ?_
    (repeat' (first | ((with_reducible show wpAny _ _ (exec _ _) _ _ _); k_fold) | (with_reducible first | refine Jq5 ?_ | refine Jq0 ?_ | refine Jq1 ?_ | refine Jq2 ?_ | refine Jq7 ?_ | refine Jq3 ?_ | refine Jq4 ?_ | refine Jq8 ?_ | refine Jq9 ?_ | refine Jq10 ?_ | refine Jq11 ?_ | refine Jq12 ?_) | (k_unfold; (try dsimp only)) | (k_end; wrow_close) | walk1 | (dsimp only; walk1) | (leave1; walk_say "STEP leave1"; try dsimp only) | fail "no step"))
    unfold Hold
    rename Fr _ _ _ _ => Fc
    rename News _ _ _ _ => Nc
    refine read_spec (G.inside B FR Fc rfl rfl) (by simp only [depth_deeper]; (first | exact q394 (by assumption) | omega)) (by simp only [units_deeper]; (first | exact q395 (by assumption) | omega)) hks (by (first | exact q396 (by assumption) | omega)) ha (by (first | exact q397 (by assumption) (by assumption) | omega)) (fun e z' h3 tk3 hb fly => ?_) fun x dx d3 h3 tk3 ps' hg ex3 C Td3 nx ndx nd => ?_
    · exact (read_bad_good hks hb hgood).elim
    obtain rfl := read_good_one hg hgood
    have F3 := fr_ext Fc ex3 (fun m => nomatch m) (fun _ m => nomatch m)
    have xL := fresh_ne Fc nx
    have dxL := fresh_ne Fc ndx
    have d3L := fresh_ne Fc nd
    have x0 : @Ne Nat x d := fresh_new Nc nx (by fail "JMEM")
    have x1 : @Ne Nat x (L' + 1) := fresh_new Nc nx (by fail "JMEM")
    have x2 : @Ne Nat x (L' + 1 + 1) := fresh_new Nc nx (by fail "JMEM")
    have x3 : @Ne Nat x (L' + 1 + 1 + 1) := fresh_new Nc nx (by fail "JMEM")
    have dx0 : @Ne Nat dx d := fresh_new Nc ndx (by fail "JMEM")
    have dx1 : @Ne Nat dx (L' + 1) := fresh_new Nc ndx (by fail "JMEM")
    have dx2 : @Ne Nat dx (L' + 1 + 1) := fresh_new Nc ndx (by fail "JMEM")
    have dx3 : @Ne Nat dx (L' + 1 + 1 + 1) := fresh_new Nc ndx (by fail "JMEM")
    have e0 : @Ne Nat d3 d := fresh_new Nc nd (by fail "JMEM")
    have e1 : @Ne Nat d3 (L' + 1) := fresh_new Nc nd (by fail "JMEM")
    have e2 : @Ne Nat d3 (L' + 1 + 1) := fresh_new Nc nd (by fail "JMEM")
    have e3 : @Ne Nat d3 (L' + 1 + 1 + 1) := fresh_new Nc nd (by fail "JMEM")
    refine via fun G_ hG_ => ?_
    obtain ⟨hx3, kc, tkc, hdx3⟩ := C
    refine hG_ ?_
    clear hG_ G_
    have e4 : @Ne Nat d3 dx := tab_ne Td3 hdx3
    refine via fun G_ hG_ => ?_
    obtain ⟨lo3, kvs3, hD3, hf3⟩ := Td3
    refine hG_ ?_
    clear hG_ G_
    refine via fun G_ hG_ => ?_
    obtain ⟨od3, hod3, hkd3⟩ := Heap.dictOf_iff.mp hD3
    refine hG_ ?_
    clear hG_ G_
    have e5 : @Ne Nat d3 x := fun w => by
      rw [w, hx3] at hod3
      cases hod3
      exact nomatch (isd_cls hkd3)
    have e6 : @Ne Nat dx x := fun w => by rw [w, hx3] at hdx3; exact nomatch hdx3
    have N3 := news_cons (news_cons (news_cons (news_ext Nc ex3 fun _ _ m => nomatch m) hod3 d3L.1 d3L.2) hdx3 dxL.1 dxL.2) hx3 xL.1 xL.2
    clear Fc Nc
    (repeat' (first | ((with_reducible show wpAny _ _ (exec _ _) _ _ _); k_fold) | (with_reducible first | refine Jq5 ?_ | refine Jq0 ?_ | refine Jq1 ?_ | refine Jq2 ?_ | refine Jq7 ?_ | refine Jq3 ?_ | refine Jq4 ?_ | refine Jq8 ?_ | refine Jq9 ?_ | refine Jq10 ?_ | refine Jq11 ?_ | refine Jq12 ?_) | (k_unfold; (try dsimp only)) | (k_end; wrow_close) | walk1 | (dsimp only; walk1) | (leave1; walk_say "STEP leave1"; try dsimp only) | fail "no step"))
    unfold Hold
    have hri := read_rising hks hgood
    refine comp_start (by with_unfolding_all rfl) (by rfl) (by decide) ?_
    (repeat' (first | ((with_reducible show wpAny _ _ (exec _ _) _ _ _); k_fold) | (with_reducible first | refine Jq5 ?_ | refine Jq0 ?_ | refine Jq1 ?_ | refine Jq2 ?_ | refine Jq7 ?_ | refine Jq3 ?_ | refine Jq4 ?_ | refine Jq8 ?_ | refine Jq9 ?_ | refine Jq10 ?_ | refine Jq11 ?_ | refine Jq12 ?_) | (k_unfold; (try dsimp only)) | (k_end; wrow_close) | walk1 | (dsimp only; walk1) | (leave1; walk_say "STEP leave1"; try dsimp only) | fail "no step"))
    unfold Hold
    rename Fr _ _ _ _ => Fc
    rename News _ _ _ _ => Nc
    have Ta : ∀ (h' : Heap) {nw}, News g L' h' nw → (d, od) ∈ nw → TabAt (intKind PySem.Challenge.rw_pb0173_01.row.prog w) PyData.int h' d (intD ps') := fun h' nw N hm => TabAt.ofNews N hm lo hkd hf
    refine sorted_dict G.hand Fc Nc (Ta _ Nc (by fail "JMEM")) hri.1.1 (by omega) ?_
    clear Fc Nc
    intro B2 h4 tk4 vs n F N ltB kp hI
    (repeat' (first | ((with_reducible show wpAny _ _ (exec _ _) _ _ _); k_fold) | (with_reducible first | refine Jq5 ?_ | refine Jq0 ?_ | refine Jq1 ?_ | refine Jq2 ?_ | refine Jq7 ?_ | refine Jq3 ?_ | refine Jq4 ?_ | refine Jq8 ?_ | refine Jq9 ?_ | refine Jq10 ?_ | refine Jq11 ?_ | refine Jq12 ?_) | (k_unfold; (try dsimp only)) | (k_end; wrow_close) | walk1 | (dsimp only; walk1) | (leave1; walk_say "STEP leave1"; try dsimp only) | fail "no step"))
    have hvl : vs.length = ps'.length := by rw [hI.length]; simp
    refine via fun G_ hG_ => ?_
    obtain ⟨oa, ob, oc, va, vb, da, db, dc, N⟩ : ∃ oa ob oc va vb, oa.data = .cell va ∧ ob.data = .cell vb ∧ oc.data = .cell (some (.ref d)) ∧ News g L' h4 ((B2, listOf (List.toArray vs) n) :: (x, instObj 210 dx) :: (dx, dictOf [⟨kc, .str (Str.ofString "classes") tkc, .ref d3⟩] 1) :: (d3, od3) :: (d, od) :: (L' + 1 + 1 + 1, oa) :: (L' + 1 + 1, ob) :: (L' + 1, oc) :: []) := ⟨_, _, _, _, _, by assumption, by assumption, by assumption, N⟩
    refine hG_ ?_
    clear hG_ G_
    have lB0 : LT.lt (α := Nat) x B2 := ltB (x, _) (.head _)
    have lB1 : LT.lt (α := Nat) dx B2 := ltB (dx, _) (by fail "JMEM")
    have lB2 : LT.lt (α := Nat) d3 B2 := ltB (d3, _) (by fail "JMEM")
    have lB3 : LT.lt (α := Nat) d B2 := ltB (d, _) (by fail "JMEM")
    have lB4 : LT.lt (α := Nat) (L' + 1 + 1 + 1) B2 := ltB (L' + 1 + 1 + 1, _) (by fail "JMEM")
    have up4 : ∀ b o, s.heap.get? b = some o → h4.get? b = some o := fun b o e => F.keep _ _ (hsub _ _ e fun m => nomatch m)
    refine list_block (base := base) (outer := l) (hc := s.heap) (S₀ := []) (Hz := fun _ => False) (its := vs.toArray)
      (fun i ys news => ∃ fro, news = (B2, listOf (List.toArray vs) n) :: (x, instObj 210 dx) :: (dx, dictOf [⟨kc, .str (Str.ofString "classes") tkc, .ref d3⟩] 1) :: (d3, od3) :: (d, od) :: (L' + 1 + 1 + 1, oa) :: (L' + 1 + 1, ob) :: (L' + 1, oc) :: fro ∧ PairsIn ys (marks (ps'.take i)) fro)
      (by decide) (by rfl) (by rfl) (by simp only [Around.deeper, B.stack]; rfl) rfl rfl (base_L B F) FR G.hand ?_ (by rw [PySem.sizeLine_eq]; show vs.length ≤ _; omega) F N (fun b o e => ⟨o, up4 b o e⟩) ⟨[], rfl, rfl, fun j p h => by simp [marks] at h⟩ ?_ ?_ ?_
    · intro i ys _ z0_
      refine via fun G_ hG_ => ?_
      obtain ⟨fro, rfl, _⟩ := z0_
      refine hG_ ?_
      clear hG_ G_
      exact .inr ⟨_, .head _, rfl, _, rfl⟩
    · intro i v I oI C oC D m₂ ys _ h tk3 hv hy z0_ hoC hm₂ F N off ne
      refine via fun G_ hG_ => ?_
      obtain ⟨fro, rfl, P⟩ := z0_
      refine hG_ ?_
      clear hG_ G_
      have hi : i < ps'.length := by have := (Array.getElem?_eq_some_iff.mp hv).1; simp at this; (first | exact q133 (by assumption) (by assumption) | omega)
      obtain ⟨p, hp⟩ : ∃ p, ps'[i]? = some p := ⟨ps'[i], by simp [hi]⟩
      obtain ⟨t0, hgt⟩ := hI.get i p.1 (by rw [List.getElem?_map, hp]; rfl)
      have hv2 : v = .int p.1 t0 := by
        have : vs[i]? = some v := by simpa using hv
        rw [hgt] at this
        exact (Option.some.inj this).symm
      subst hv2
      have hpm := List.mem_of_getElem? hp
      have hp0 := (hri.1.2 p hpm).2.2.1
      refine tests_one ?_
      (repeat' (first | ((with_reducible show wpAny _ _ (exec _ _) _ _ _); k_fold) | (with_reducible first | refine Jq5 ?_ | refine Jq0 ?_ | refine Jq1 ?_ | refine Jq2 ?_ | refine Jq7 ?_ | refine Jq3 ?_ | refine Jq4 ?_ | refine Jq8 ?_ | refine Jq9 ?_ | refine Jq10 ?_ | refine Jq11 ?_ | refine Jq12 ?_) | (k_unfold; (try dsimp only)) | (k_end; wrow_close) | walk1 | (dsimp only; walk1) | (leave1; walk_say "STEP leave1"; try dsimp only) | fail "no step"))
      unfold Hold
      rename Fr _ _ _ _ => Fc
      rename News _ _ _ _ => Nc
      refine getItem_tab same_int (intKind_is _ _ _ _) (Ta _ Nc (by fail "JMEM")) (intD_lookup (List.mem_map_of_mem hpm)) fun v fl => ?_
      rw [clsOf_mem hri.1.1 hpm] at fl
      obtain ⟨t9, rfl⟩ := Flat.int_inv fl
      (repeat' (first | ((with_reducible show wpAny _ _ (exec _ _) _ _ _); k_fold) | (with_reducible first | refine Jq5 ?_ | refine Jq0 ?_ | refine Jq1 ?_ | refine Jq2 ?_ | refine Jq7 ?_ | refine Jq3 ?_ | refine Jq4 ?_ | refine Jq8 ?_ | refine Jq9 ?_ | refine Jq10 ?_ | refine Jq11 ?_ | refine Jq12 ?_) | (k_unfold; (try dsimp only)) | (k_end; wrow_close) | walk1 | (dsimp only; walk1) | (leave1; walk_say "STEP leave1"; try dsimp only) | fail "no step"))
      · unfold Hold
        rename (p.2 > 0) => q
        refine getItem_tab same_int (intKind_is _ _ _ _) (Ta _ Nc (by fail "JMEM")) (intD_lookup (List.mem_map_of_mem hpm)) fun v fl => ?_
        rw [clsOf_mem hri.1.1 hpm] at fl
        obtain ⟨t8, rfl⟩ := Flat.int_inv fl
        clear F N
        (repeat' (first | ((with_reducible show wpAny _ _ (exec _ _) _ _ _); k_fold) | (with_reducible first | refine Jq5 ?_ | refine Jq0 ?_ | refine Jq1 ?_ | refine Jq2 ?_ | refine Jq7 ?_ | refine Jq3 ?_ | refine Jq4 ?_ | refine Jq8 ?_ | refine Jq9 ?_ | refine Jq10 ?_ | refine Jq11 ?_ | refine Jq12 ?_) | (k_unfold; (try dsimp only)) | (k_end; wrow_close) | walk1 | (dsimp only; walk1) | (leave1; walk_say "STEP leave1"; try dsimp only) | fail "no step"))
        (try k_unfold)
        rename Fr _ _ _ _ => Fe
        rename News _ _ _ _ => Ne
        rename (_ ∧ _ ∧ _ ∧ _ ∧ _ ∧ _ ∧ _ ∧ _ ∧ _ ∧ _ ∧ _ ∧ AllLt _ _) => lts
        have e : marks (ps'.take (i + 1)) = marks (ps'.take i) ++ [p] := by
          rw [take_succ_of hp]
          unfold marks
          rw [List.filter_append]
          simp only [List.filter_cons, show p.2 ≠ 0 from by (first | exact q398 (by assumption) | omega), ne_eq, not_false_eq_true, decide_true, if_true, List.filter_nil]
        have Ne2 := news_mid (pre := [_, _, _, _, _, _, _, _, _, _, _]) Ne
        exact ⟨_, _, _, rfl, Fe, Ne2, off3_mid (pre := [_, _, _, _, _, _, _, _]) off ⟨Nat.ne_of_gt lts.1, Nat.ne_of_gt lts.2.1, Nat.ne_of_gt lts.2.2.1⟩, _, rfl, by rw [e]; exact P.snoc⟩
      · rename (¬ p.2 > 0) => q
        refine ⟨_, _, _, rfl, Fc, Nc, off, fro, rfl, ?_⟩
        have e : marks (ps'.take (i + 1)) = marks (ps'.take i) := by
          rw [take_succ_of hp]
          unfold marks
          rw [List.filter_append]
          simp only [List.filter_cons, show ¬ (p.2 ≠ 0) from by (first | exact q399 (by assumption) (by assumption) | omega), decide_false, Bool.false_eq_true, if_false, List.filter_nil, List.append_nil]
        rw [e]
        exact P
    · intro e z h' tk' hz
      exact hz.elim
    · intro D h tk ys news' F N o1 hlen z0_
      refine via fun G_ hG_ => ?_
      obtain ⟨fro, rfl, P⟩ := z0_
      refine hG_ ?_
      clear hG_ G_
      (repeat' (first | ((with_reducible show wpAny _ _ (exec _ _) _ _ _); k_fold) | (with_reducible first | refine Jq5 ?_ | refine Jq0 ?_ | refine Jq1 ?_ | refine Jq2 ?_ | refine Jq7 ?_ | refine Jq3 ?_ | refine Jq4 ?_ | refine Jq8 ?_ | refine Jq9 ?_ | refine Jq10 ?_ | refine Jq11 ?_ | refine Jq12 ?_) | (k_unfold; (try dsimp only)) | (k_end; wrow_close) | walk1 | (dsimp only; walk1) | (leave1; walk_say "STEP leave1"; try dsimp only) | fail "no step"))
      unfold Hold
      rename Fr _ _ _ _ => Fc
      rename News _ _ _ _ => Nc
      rw [List.take_of_length_le (by show ps'.length ≤ vs.length; (first | exact q319 (by assumption) | omega))] at P
      have hmk : (marks ps').Pairwise fun p q => p.1 < q.1 := hri.1.1.filter _
      refine dict_pairs G.hand Fc Nc (modules_low T.nolimit) (.head _) P (fun p hp => .tail _ (.tail _ (.tail _ (.tail _ (.tail _ (.tail _ (.tail _ (.tail _ (.tail _ hp))))))))) hmk (Nat.le_trans (List.length_filter_le _ _) (by omega)) ?_
      clear Fc Nc F N
      intro M h6 tk6 om kvm F N loM hkm hfm ltM
      have N' : News g L' h6 ((M, om) :: (x, instObj 210 dx) :: (dx, dictOf [⟨kc, .str (Str.ofString "classes") tkc, .ref d3⟩] 1) :: (d3, od3) :: (d, od) :: (L' + 1 + 1 + 1, oa) :: (L' + 1 + 1, ob) :: (L' + 1, oc) :: []) := news_sub N (by
        intro p hp
        simp only [List.mem_cons, List.not_mem_nil, or_false] at hp ⊢
        rcases hp with hp | hp | hp | hp | hp | hp | hp | hp <;> simp only [hp, true_or, or_true])
      have lM0 : LT.lt (α := Nat) x M := ltM (x, _) (by fail "JMEM")
      have lM1 : LT.lt (α := Nat) dx M := ltM (dx, _) (by fail "JMEM")
      have lM2 : LT.lt (α := Nat) d3 M := ltM (d3, _) (by fail "JMEM")
      have lM3 : LT.lt (α := Nat) d M := ltM (d, _) (by fail "JMEM")
      have lM4 : LT.lt (α := Nat) (L' + 1 + 1 + 1) M := ltM (L' + 1 + 1 + 1, _) (by fail "JMEM")
      clear N
      (repeat' (first | ((with_reducible show wpAny _ _ (exec _ _) _ _ _); k_fold) | (with_reducible first | refine Jq5 ?_ | refine Jq0 ?_ | refine Jq1 ?_ | refine Jq2 ?_ | refine Jq7 ?_ | refine Jq3 ?_ | refine Jq4 ?_ | refine Jq8 ?_ | refine Jq9 ?_ | refine Jq10 ?_ | refine Jq11 ?_ | refine Jq12 ?_) | (k_unfold; (try dsimp only)) | (k_end; wrow_close) | walk1 | (dsimp only; walk1) | (leave1; walk_say "STEP leave1"; try dsimp only) | fail "no step"))
      unfold Hold
      rename Fr _ _ _ _ => F
      rename News _ _ _ _ => N
      have T3 : ∀ (h' : Heap) {nw}, News g L' h' nw → (d3, od3) ∈ nw → TabAt (intKind PySem.Challenge.rw_pb0173_01.row.prog w) PyData.int h' d3 (intD (marks ps')) := fun h' nw N hm => TabAt.ofNews N hm lo3 hkd3 hf3
      have TM : ∀ (h' : Heap) {nw}, News g L' h' nw → (M, om) ∈ nw → TabAt (intKind PySem.Challenge.rw_pb0173_01.row.prog w) PyData.int h' M (intD (marks ps')) := fun h' nw N hm => TabAt.ofNews N hm loM hkm hfm
      refine kne_tabs same_int (T3 _ N (by fail "JMEM")) (TM _ N (by fail "JMEM")) rfl (by have hcL9 := cLine_is; simp only [units_deeper]; (first | exact q400 (by assumption) (by assumption) | omega)) (rows_same hmk) ?_
      (repeat' (first | ((with_reducible show wpAny _ _ (exec _ _) _ _ _); k_fold) | (with_reducible first | refine Jq5 ?_ | refine Jq0 ?_ | refine Jq1 ?_ | refine Jq2 ?_ | refine Jq7 ?_ | refine Jq3 ?_ | refine Jq4 ?_ | refine Jq8 ?_ | refine Jq9 ?_ | refine Jq10 ?_ | refine Jq11 ?_ | refine Jq12 ?_) | (k_unfold; (try dsimp only)) | (k_end; wrow_close) | walk1 | (dsimp only; walk1) | (leave1; walk_say "STEP leave1"; try dsimp only) | fail "no step"))
      unfold Hold
      rename Fr _ _ _ _ => Fa
      refine For_invVF Fa (by rfl) (by rfl) ?_
      (repeat' (first | ((with_reducible show wpAny _ _ (exec _ _) _ _ _); k_fold) | (with_reducible first | refine Jq5 ?_ | refine Jq0 ?_ | refine Jq1 ?_ | refine Jq2 ?_ | refine Jq7 ?_ | refine Jq3 ?_ | refine Jq4 ?_ | refine Jq8 ?_ | refine Jq9 ?_ | refine Jq10 ?_ | refine Jq11 ?_ | refine Jq12 ?_) | (k_unfold; (try dsimp only)) | (k_end; wrow_close) | walk1 | (dsimp only; walk1) | (leave1; walk_say "STEP leave1"; try dsimp only) | fail "no step"))
      unfold Hold
      rename Fr _ _ _ _ => Fc
      rename News _ _ _ _ => Nc
      refine via fun G_ hG_ => ?_
      obtain ⟨om2, dm2, N⟩ : ∃ om2, om2.data = .cell (some (.ref M)) ∧ News g L' _ ((M, om) :: (x, instObj 210 dx) :: (dx, dictOf [⟨kc, .str (Str.ofString "classes") tkc, .ref d3⟩] 1) :: (d3, od3) :: (d, od) :: (L' + 1 + 1 + 1, oa) :: (L' + 1 + 1, om2) :: (L' + 1, oc) :: []) := ⟨_, by assumption, Nc⟩
      refine hG_ ?_
      clear hG_ G_
      refine sorted_dict G.hand Fc N (Ta _ N (by fail "JMEM")) hri.1.1 (by omega) ?_
      clear Fc Nc N
      intro B3 h8 tk8 vs3 n3 F N ltB3 kp3 hI3
      (repeat' (first | ((with_reducible show wpAny _ _ (exec _ _) _ _ _); k_fold) | (with_reducible first | refine Jq5 ?_ | refine Jq0 ?_ | refine Jq1 ?_ | refine Jq2 ?_ | refine Jq7 ?_ | refine Jq3 ?_ | refine Jq4 ?_ | refine Jq8 ?_ | refine Jq9 ?_ | refine Jq10 ?_ | refine Jq11 ?_ | refine Jq12 ?_) | (k_unfold; (try dsimp only)) | (k_end; wrow_close) | walk1 | (dsimp only; walk1) | (leave1; walk_say "STEP leave1"; try dsimp only) | fail "no step"))
      have hbx : base.get? x = none := kts_none B.stays xL.2
      have hbd : base.get? dx = none := kts_none B.stays dxL.2
      have hdf : dx ∉ frAddrs A := off_fresh B FR dxL.2
      refine made_loop [] (fun i m nx => nx = (M, om) :: (x, instObj 210 dx) :: (dx, dictOf [⟨kc, .str (Str.ofString "classes") tkc, .ref d3⟩] 1) :: (d3, od3) :: (d, od) :: (L' + 1 + 1 + 1, oa) :: (L' + 1 + 1, om2) :: (L' + 1, oc) :: []) G.hand ⟨_, (N _ (.head _)).1, rfl, _, rfl⟩ (fun p hp => Nat.ne_of_lt (ltB3 p hp)) (N _ (.head _)).2.1 hI3 F (fun p hp => N p (.tail _ hp)) rfl ?_ ?_
      · rintro i k tk0 m₁ _ h tk own hk hoff hadr rfl hkp F N
        rw [hkp.map0] at F
        have hkm := List.mem_of_getElem? hk
        (repeat' (first | ((with_reducible show wpAny _ _ (exec _ _) _ _ _); k_fold) | (with_reducible first | refine Jq5 ?_ | refine Jq0 ?_ | refine Jq1 ?_ | refine Jq2 ?_ | refine Jq7 ?_ | refine Jq3 ?_ | refine Jq4 ?_ | refine Jq8 ?_ | refine Jq9 ?_ | refine Jq10 ?_ | refine Jq11 ?_ | refine Jq12 ?_) | (k_unfold; (try dsimp only)) | (k_end; wrow_close) | walk1 | (dsimp only; walk1) | (leave1; walk_say "STEP leave1"; try dsimp only) | fail "no step"))
        unfold Hold
        rename Fr _ _ _ _ => Fc
        rename News _ _ _ _ => Nc
        refine clsof_spec (G.inside B FR Fc rfl rfl) (by simp only [depth_deeper]; (first | exact q401 (by assumption) | omega)) (by simp only [units_deeper]; (first | exact q402 (by assumption) | omega)) ⟨⟨(Nc (x, _) (by fail "JMEM")).1, _, _, (Nc (dx, _) (by fail "JMEM")).1⟩, T3 _ Nc (by fail "JMEM"), hbx, hbd, off_in B hdf dxL.1⟩ e5 e4 fun tv h9 tk9 ex9 => ?_
        have F9 := fr_ext Fc ex9 (fun m => nomatch m) (fun _ m => nomatch m)
        have N9 := news_ext Nc ex9 fun _ _ m => nomatch m
        clear Fc Nc F N
        (repeat' (first | ((with_reducible show wpAny _ _ (exec _ _) _ _ _); k_fold) | (with_reducible first | refine Jq5 ?_ | refine Jq0 ?_ | refine Jq1 ?_ | refine Jq2 ?_ | refine Jq7 ?_ | refine Jq3 ?_ | refine Jq4 ?_ | refine Jq8 ?_ | refine Jq9 ?_ | refine Jq10 ?_ | refine Jq11 ?_ | refine Jq12 ?_) | (k_unfold; (try dsimp only)) | (k_end; wrow_close) | walk1 | (dsimp only; walk1) | (leave1; walk_say "STEP leave1"; try dsimp only) | fail "no step"))
        unfold Hold
        refine getItem_tab same_int (intKind_is _ _ _ _) (Ta _ N9 (by fail "JMEM")) (intD_lookup hkm) fun v fl => ?_
        obtain ⟨t9, rfl⟩ := Flat.int_inv fl
        rw [clsOf_marks hri.1.1]
        (repeat' (first | ((with_reducible show wpAny _ _ (exec _ _) _ _ _); k_fold) | (with_reducible first | refine Jq5 ?_ | refine Jq0 ?_ | refine Jq1 ?_ | refine Jq2 ?_ | refine Jq7 ?_ | refine Jq3 ?_ | refine Jq4 ?_ | refine Jq8 ?_ | refine Jq9 ?_ | refine Jq10 ?_ | refine Jq11 ?_ | refine Jq12 ?_) | (k_unfold; (try dsimp only)) | (k_end; wrow_close) | walk1 | (dsimp only; walk1) | (leave1; walk_say "STEP leave1"; try dsimp only) | fail "no step"))
        · exfalso
          rename (clsOf ps' k ≠ clsOf ps' k) => q
          exact q rfl
      · rintro m₁ _ h tk rfl hkp F N
        rw [hkp.done0] at F
        (repeat' (first | ((with_reducible show wpAny _ _ (exec _ _) _ _ _); k_fold) | (with_reducible first | refine Jq5 ?_ | refine Jq0 ?_ | refine Jq1 ?_ | refine Jq2 ?_ | refine Jq7 ?_ | refine Jq3 ?_ | refine Jq4 ?_ | refine Jq8 ?_ | refine Jq9 ?_ | refine Jq10 ?_ | refine Jq11 ?_ | refine Jq12 ?_) | (k_unfold; (try dsimp only)) | (k_end; wrow_close) | walk1 | (dsimp only; walk1) | (leave1; walk_say "STEP leave1"; try dsimp only) | fail "no step"))
        unfold Hold
        rename Fr _ _ _ _ => Fa
        refine For_invTF Fa ?_ (fun _ => rfl)
        (repeat' (first | ((with_reducible show wpAny _ _ (exec _ _) _ _ _); k_fold) | (with_reducible first | refine Jq5 ?_ | refine Jq0 ?_ | refine Jq1 ?_ | refine Jq2 ?_ | refine Jq7 ?_ | refine Jq3 ?_ | refine Jq4 ?_ | refine Jq8 ?_ | refine Jq9 ?_ | refine Jq10 ?_ | refine Jq11 ?_ | refine Jq12 ?_) | (k_unfold; (try dsimp only)) | (k_end; wrow_close) | walk1 | (dsimp only; walk1) | (leave1; walk_say "STEP leave1"; try dsimp only) | fail "no step"))
        unfold Hold
        rename Fr _ _ _ _ => Fc
        rename News _ _ _ _ => Nc
        have hmkl : (marks ps').length ≤ 65536 := Nat.le_trans (List.length_filter_le _ _) (by omega)
        refine list_vals G.hand Fc Nc (.head _) (TM _ Nc (by fail "JMEM")) (by (first | exact q142 (by assumption) | omega)) ?_
        clear Fc Nc
        intro B4 c4 h9 tk9 vs4 F N ltB4 hI4
        (repeat' (first | ((with_reducible show wpAny _ _ (exec _ _) _ _ _); k_fold) | (with_reducible first | refine Jq5 ?_ | refine Jq0 ?_ | refine Jq1 ?_ | refine Jq2 ?_ | refine Jq7 ?_ | refine Jq3 ?_ | refine Jq4 ?_ | refine Jq8 ?_ | refine Jq9 ?_ | refine Jq10 ?_ | refine Jq11 ?_ | refine Jq12 ?_) | (k_unfold; (try dsimp only)) | (k_end; wrow_close) | walk1 | (dsimp only; walk1) | (leave1; walk_say "STEP leave1"; try dsimp only) | fail "no step"))
        unfold Hold
        rename Fr _ _ _ _ => Fc
        rename News _ _ _ _ => Nc
        rename (IntsAre _ ([1, 2, 9] ++ _)) => hI5
        refine via fun G_ hG_ => ?_
        obtain ⟨V, hV, hVm⟩ := read_vals ha hsz hgood
        refine hG_ ?_
        clear hG_ G_
        refine set_of (V := [1, 2, 9] ++ V) G.hand (Nc _ (.head _)).1 hI5 (by simp only [List.length_append, List.length_cons, List.length_nil]; (first | exact q403 (by assumption) | omega)) (fun k hk => ?_) fun h10 tk10 S10 k10 => ?_
        · rcases List.mem_append.mp hk with hk | hk
          · exact List.mem_append_left _ hk
          · refine via fun G_ hG_ => ?_
            obtain ⟨p, hp, rfl⟩ := List.mem_map.mp hk
            refine hG_ ?_
            clear hG_ G_
            exact List.mem_append_right _ (hVm p (List.mem_filter.mp hp).1)
        have F10 := Fc.keeps k10
        have N10 : News g L' h10 ((M, om) :: (x, instObj 210 dx) :: (dx, dictOf [⟨kc, .str (Str.ofString "classes") tkc, .ref d3⟩] 1) :: (d3, od3) :: (d, od) :: (L' + 1 + 1 + 1, oa) :: (L' + 1 + 1, om2) :: (L' + 1, oc) :: []) := fun p hp => ⟨k10 _ _ (Nc p (by exact .tail _ (.tail _ (.tail _ (.tail _ hp))))).1, (Nc p (by exact .tail _ (.tail _ (.tail _ (.tail _ hp))))).2⟩
        clear Fc Nc
        (repeat' (first | ((with_reducible show wpAny _ _ (exec _ _) _ _ _); k_fold) | (with_reducible first | refine Jq5 ?_ | refine Jq0 ?_ | refine Jq1 ?_ | refine Jq2 ?_ | refine Jq7 ?_ | refine Jq3 ?_ | refine Jq4 ?_ | refine Jq8 ?_ | refine Jq9 ?_ | refine Jq10 ?_ | refine Jq11 ?_ | refine Jq12 ?_) | (k_unfold; (try dsimp only)) | (k_end; wrow_close) | walk1 | (dsimp only; walk1) | (leave1; walk_say "STEP leave1"; try dsimp only) | fail "no step"))
        unfold Hold
        refine sorted_set G.hand F10 N10 S10 ?_
        intro B6 h11 tk11 vs6 ns6 n6 F N ltB6 hI6
        clear F10 N10
        (repeat' (first | ((with_reducible show wpAny _ _ (exec _ _) _ _ _); k_fold) | (with_reducible first | refine Jq5 ?_ | refine Jq0 ?_ | refine Jq1 ?_ | refine Jq2 ?_ | refine Jq7 ?_ | refine Jq3 ?_ | refine Jq4 ?_ | refine Jq8 ?_ | refine Jq9 ?_ | refine Jq10 ?_ | refine Jq11 ?_ | refine Jq12 ?_) | (k_unfold; (try dsimp only)) | (k_end; wrow_close) | walk1 | (dsimp only; walk1) | (leave1; walk_say "STEP leave1"; try dsimp only) | fail "no step"))
        refine tgt_keep [] (fun i m nx => ∃ oa' va', oa'.data = .cell va' ∧ nx = (M, om) :: (x, instObj 210 dx) :: (dx, dictOf [⟨kc, .str (Str.ofString "classes") tkc, .ref d3⟩] 1) :: (d3, od3) :: (d, od) :: (L' + 1 + 1 + 1, oa') :: (L' + 1 + 1, om2) :: (L' + 1, oc) :: []) G.hand ⟨_, (N _ (.head _)).1, rfl, _, rfl⟩ (N _ (.head _)).2.2 (N _ (.head _)).2.1 hI6 (fun _ _ => rfl) F (fun p hp => N p (.tail _ hp)) ltB6 ⟨oa, va, da, rfl⟩ ?_ ?_
        · intro i k tk0 m₁ _ s₁ I oI ol hk hIn hIlt hlI z0_ hkp F N
          refine via fun G_ hG_ => ?_
          obtain ⟨oa', va', da', rfl⟩ := z0_
          refine hG_ ?_
          clear hG_ G_
          obtain rfl := funext fun z => hkp z (fun m => nomatch m)
          have lI4 : LT.lt (α := Nat) (L' + 1 + 1 + 1) I := hIlt (L' + 1 + 1 + 1, _) (by fail "JMEM")
          have lB4 : LT.lt (α := Nat) (L' + 1 + 1 + 1) B6 := ltB6 (L' + 1 + 1 + 1, _) (by fail "JMEM")
          (repeat' (first | ((with_reducible show wpAny _ _ (exec _ _) _ _ _); k_fold) | (with_reducible first | refine Jq5 ?_ | refine Jq0 ?_ | refine Jq1 ?_ | refine Jq2 ?_ | refine Jq7 ?_ | refine Jq3 ?_ | refine Jq4 ?_ | refine Jq8 ?_ | refine Jq9 ?_ | refine Jq10 ?_ | refine Jq11 ?_ | refine Jq12 ?_) | (k_unfold; (try dsimp only)) | (k_end; wrow_close) | walk1 | (dsimp only; walk1) | (leave1; walk_say "STEP leave1"; try dsimp only) | fail "no step"))
          unfold Hold
          rename Fr _ _ _ _ => Fc
          rename News _ _ _ _ => Nc
          refine glyphs_spec (G.inside B FR Fc rfl rfl) (by simp only [depth_deeper]; (first | exact q401 (by assumption) | omega)) (by simp only [units_deeper]; (first | exact q402 (by assumption) | omega)) ⟨⟨(Nc (x, _) (by fail "JMEM")).1, _, _, (Nc (dx, _) (by fail "JMEM")).1⟩, T3 _ Nc (by fail "JMEM"), hbx, hbd, off_in B hdf dxL.1⟩ e5 e4 hmk hmkl fun D1 h12 tk12 vs12 n12 ex12 hD1 hI12 hn1 => ?_
          have F12 := fr_ext Fc ex12 (fun m => nomatch m) (fun _ m => nomatch m)
          refine via fun G_ hG_ => ?_
          obtain ⟨on, dn, N12⟩ : ∃ on, on.data = .cell (some (.int k tk0)) ∧ News g L' h12 ((D1, listOf (List.toArray vs12) n12) :: (I, oI) :: (B6, ol) :: (M, om) :: (x, instObj 210 dx) :: (dx, dictOf [⟨kc, .str (Str.ofString "classes") tkc, .ref d3⟩] 1) :: (d3, od3) :: (d, od) :: (L' + 1 + 1 + 1, on) :: (L' + 1 + 1, om2) :: (L' + 1, oc) :: []) :=
            ⟨_, by assumption, news_cons (news_ext Nc ex12 fun _ _ m => nomatch m) hD1 (fresh_ne Fc hn1).1 (fresh_ne Fc hn1).2⟩
          refine hG_ ?_
          clear hG_ G_
          have lD0 : @Ne Nat D1 I := fresh_new Nc hn1 (by exact .head _)
          clear Fc Nc F N
          (repeat' (first | ((with_reducible show wpAny _ _ (exec _ _) _ _ _); k_fold) | (with_reducible first | refine Jq5 ?_ | refine Jq0 ?_ | refine Jq1 ?_ | refine Jq2 ?_ | refine Jq7 ?_ | refine Jq3 ?_ | refine Jq4 ?_ | refine Jq8 ?_ | refine Jq9 ?_ | refine Jq10 ?_ | refine Jq11 ?_ | refine Jq12 ?_) | (k_unfold; (try dsimp only)) | (k_end; wrow_close) | walk1 | (dsimp only; walk1) | (leave1; walk_say "STEP leave1"; try dsimp only) | fail "no step"))
          unfold Hold
          refine comp_start (by with_unfolding_all rfl) (by rfl) (by decide) ?_
          (repeat' (first | ((with_reducible show wpAny _ _ (exec _ _) _ _ _); k_fold) | (with_reducible first | refine Jq5 ?_ | refine Jq0 ?_ | refine Jq1 ?_ | refine Jq2 ?_ | refine Jq7 ?_ | refine Jq3 ?_ | refine Jq4 ?_ | refine Jq8 ?_ | refine Jq9 ?_ | refine Jq10 ?_ | refine Jq11 ?_ | refine Jq12 ?_) | (k_unfold; (try dsimp only)) | (k_end; wrow_close) | walk1 | (dsimp only; walk1) | (leave1; walk_say "STEP leave1"; try dsimp only) | fail "no step"))
          rename Fr _ _ _ _ => Fc
          have up5 : ∀ b o, s.heap.get? b = some o → h12.get? b = some o := fun b o e => Fc.keep _ _ (hsub _ _ e fun m => nomatch m)
          refine keys_block (base := base) (outer := l) (hc := s.heap) (S₀ := []) (Hz := fun _ => False)
            (fun i ys news => news = (D1, listOf (List.toArray vs12) n12) :: (I, oI) :: (B6, ol) :: (M, om) :: (x, instObj 210 dx) :: (dx, dictOf [⟨kc, .str (Str.ofString "classes") tkc, .ref d3⟩] 1) :: (d3, od3) :: (d, od) :: (L' + 1 + 1 + 1, on) :: (L' + 1 + 1, om2) :: (L' + 1, oc) :: [] ∧ IntsAre ys ((((marks ps').take i).filter fun p => decide (p.2 = k)).map (·.1)))
            (by decide) (by rfl) (by rfl) (by simp only [Around.deeper, B.stack]; rfl) rfl rfl (base_L B Fc) FR G.hand ?_ loM hkm hfm (by (first | exact q142 (by assumption) | omega)) Fc N12 (fun b o e => ⟨o, up5 b o e⟩) ⟨rfl, .nil⟩ ?_ ?_ ?_
          · rintro i ys _ ⟨rfl, _⟩
            exact (by fail "JMEM")
          · rintro i2 p t0 I2 oI2 C oC D m₂ ys _ h tk hp hy ⟨rfl, hys⟩ hoC hm₂ F N off ne
            have hpm := List.mem_of_getElem? hp
            refine tests_one ?_
            (repeat' (first | ((with_reducible show wpAny _ _ (exec _ _) _ _ _); k_fold) | (with_reducible first | refine Jq5 ?_ | refine Jq0 ?_ | refine Jq1 ?_ | refine Jq2 ?_ | refine Jq7 ?_ | refine Jq3 ?_ | refine Jq4 ?_ | refine Jq8 ?_ | refine Jq9 ?_ | refine Jq10 ?_ | refine Jq11 ?_ | refine Jq12 ?_) | (k_unfold; (try dsimp only)) | (k_end; wrow_close) | walk1 | (dsimp only; walk1) | (leave1; walk_say "STEP leave1"; try dsimp only) | fail "no step"))
            unfold Hold
            rename Fr _ _ _ _ => Fc
            rename News _ _ _ _ => Nc
            refine getItem_tab same_int (intKind_is _ _ _ _) (TM _ Nc (by fail "JMEM")) (intD_lookup (List.mem_map_of_mem hpm)) fun v fl => ?_
            rw [clsOf_mem hmk hpm] at fl
            obtain ⟨t9, rfl⟩ := Flat.int_inv fl
            (repeat' (first | ((with_reducible show wpAny _ _ (exec _ _) _ _ _); k_fold) | (with_reducible first | refine Jq5 ?_ | refine Jq0 ?_ | refine Jq1 ?_ | refine Jq2 ?_ | refine Jq7 ?_ | refine Jq3 ?_ | refine Jq4 ?_ | refine Jq8 ?_ | refine Jq9 ?_ | refine Jq10 ?_ | refine Jq11 ?_ | refine Jq12 ?_) | (k_unfold; (try dsimp only)) | (k_end; wrow_close) | walk1 | (dsimp only; walk1) | (leave1; walk_say "STEP leave1"; try dsimp only) | fail "no step"))
            · rename (p.2 = k) => q
              rename Fr _ _ _ _ => Fe
              rename News _ _ _ _ => Ne
              refine ⟨_, _, _, rfl, Fe, Ne, off, rfl, ?_⟩
              rw [take_succ_of hp, List.filter_append, List.map_append]
              simp only [List.filter_cons, q, decide_true, if_true, List.filter_nil, List.map_cons, List.map_nil]
              exact ints_snoc hys _ _
            · rename (¬ p.2 = k) => q
              rename Fr _ _ _ _ => Fe
              rename News _ _ _ _ => Ne
              refine ⟨_, _, _, rfl, Fe, Ne, off, rfl, ?_⟩
              rw [take_succ_of hp, List.filter_append, List.map_append]
              simp only [List.filter_cons, q, decide_false, Bool.false_eq_true, if_false, List.filter_nil, List.map_nil, List.append_nil]
              exact hys
          · intro e z h' tk' hz
            exact hz.elim
          · rintro D h tk ys news' F N o1 hlen ⟨rfl, hys⟩
            rw [List.take_length] at hys
            (repeat' (first | ((with_reducible show wpAny _ _ (exec _ _) _ _ _); k_fold) | (with_reducible first | refine Jq5 ?_ | refine Jq0 ?_ | refine Jq1 ?_ | refine Jq2 ?_ | refine Jq7 ?_ | refine Jq3 ?_ | refine Jq4 ?_ | refine Jq8 ?_ | refine Jq9 ?_ | refine Jq10 ?_ | refine Jq11 ?_ | refine Jq12 ?_) | (k_unfold; (try dsimp only)) | (k_end; wrow_close) | walk1 | (dsimp only; walk1) | (leave1; walk_say "STEP leave1"; try dsimp only) | fail "no step"))
            unfold Hold
            (repeat' (first | ((with_reducible show wpAny _ _ (exec _ _) _ _ _); k_fold) | (with_reducible first | refine Jq0 ?_ | refine Jq1 ?_ | refine Jq2 ?_ | refine Jq3 ?_ | refine Jq4 ?_) | (k_unfold; (try dsimp only)) | (k_end; wrow_close) | walk1 | (dsimp only; walk1) | (leave1; walk_say "STEP leave1"; try dsimp only) | fail "no step"))
            rename Fr _ _ _ _ => Fe
            rename News _ _ _ _ => Ne
            refine ⟨rfl, _, _, _, _, rfl, Fe, fun p hp => Ne p (.tail _ (.tail _ hp)), fun p hp => ?_, ⟨on, _, dn, rfl⟩, fun z _ => rfl⟩
            simp only [List.mem_cons, List.not_mem_nil, or_false] at hp
            rcases hp with rfl | rfl | rfl | rfl | rfl | rfl | rfl | rfl
            · exact Nat.ne_of_lt (hIlt (M, _) (by fail "JMEM"))
            · exact Nat.ne_of_lt (hIlt (x, _) (by fail "JMEM"))
            · exact Nat.ne_of_lt (hIlt (dx, _) (by fail "JMEM"))
            · exact Nat.ne_of_lt (hIlt (d3, _) (by fail "JMEM"))
            · exact Nat.ne_of_lt (hIlt (d, _) (by fail "JMEM"))
            · exact Nat.ne_of_lt (show LT.lt (α := Nat) (L' + 1 + 1 + 1) I from hIlt (L' + 1 + 1 + 1, oa) (by fail "JMEM"))
            · exact Nat.ne_of_lt (hIlt (L' + 1 + 1, _) (by fail "JMEM"))
            · exact Nat.ne_of_lt (hIlt (L' + 1, _) (by fail "JMEM"))
        · intro m₁ _ h tk z0_ hkp F N
          refine via fun G_ hG_ => ?_
          obtain ⟨oa', va', da', rfl⟩ := z0_
          refine hG_ ?_
          clear hG_ G_
          obtain rfl := funext fun z => hkp z (fun m => nomatch m)
          (repeat' (first | ((with_reducible show wpAny _ _ (exec _ _) _ _ _); k_fold) | (with_reducible first | refine Jq5 ?_ | refine Jq0 ?_ | refine Jq1 ?_ | refine Jq2 ?_ | refine Jq7 ?_ | refine Jq3 ?_ | refine Jq4 ?_ | refine Jq8 ?_ | refine Jq9 ?_ | refine Jq10 ?_ | refine Jq11 ?_ | refine Jq12 ?_) | (k_unfold; (try dsimp only)) | (k_end; wrow_close) | walk1 | (dsimp only; walk1) | (leave1; walk_say "STEP leave1"; try dsimp only) | fail "no step"))
          unfold Hold
          rename Fr _ _ _ _ => Fc
          rename News _ _ _ _ => Nc
          refine count_spec (G.inside B FR Fc rfl rfl) (by simp only [depth_deeper]; (first | exact q401 (by assumption) | omega)) (by simp only [units_deeper]; (first | exact q402 (by assumption) | omega)) ⟨⟨(Nc (x, _) (by fail "JMEM")).1, _, _, (Nc (dx, _) (by fail "JMEM")).1⟩, T3 _ Nc (by fail "JMEM"), hbx, hbd, off_in B hdf dxL.1⟩ e5 e4 hmk fun tc h13 tk13 ex13 => ?_
          have F13 := fr_ext Fc ex13 (fun m => nomatch m) (fun _ m => nomatch m)
          have N13 := news_ext Nc ex13 fun _ _ m => nomatch m
          clear Fc Nc F N
          (repeat' (first | ((with_reducible show wpAny _ _ (exec _ _) _ _ _); k_fold) | (with_reducible first | refine Jq5 ?_ | refine Jq0 ?_ | refine Jq1 ?_ | refine Jq2 ?_ | refine Jq7 ?_ | refine Jq3 ?_ | refine Jq4 ?_ | refine Jq8 ?_ | refine Jq9 ?_ | refine Jq10 ?_ | refine Jq11 ?_ | refine Jq12 ?_) | (k_unfold; (try dsimp only)) | (k_end; wrow_close) | walk1 | (dsimp only; walk1) | (leave1; walk_say "STEP leave1"; try dsimp only) | fail "no step"))
          unfold Hold
          rename Fr _ _ _ _ => Fc
          rename News _ _ _ _ => Nc
          refine list_vals G.hand Fc Nc (.head _) (TM _ Nc (by fail "JMEM")) (by (first | exact q142 (by assumption) | omega)) ?_
          clear Fc Nc
          intro B7 c7 h14 tk14 vs7 F N ltB7 hI7
          (repeat' (first | ((with_reducible show wpAny _ _ (exec _ _) _ _ _); k_fold) | (with_reducible first | refine Jq5 ?_ | refine Jq0 ?_ | refine Jq1 ?_ | refine Jq2 ?_ | refine Jq7 ?_ | refine Jq3 ?_ | refine Jq4 ?_ | refine Jq8 ?_ | refine Jq9 ?_ | refine Jq10 ?_ | refine Jq11 ?_ | refine Jq12 ?_) | (k_unfold; (try dsimp only)) | (k_end; wrow_close) | walk1 | (dsimp only; walk1) | (leave1; walk_say "STEP leave1"; try dsimp only) | fail "no step"))
          unfold Hold
          rename Fr _ _ _ _ => Fc
          rename News _ _ _ _ => Nc
          rename (IntsAre _ ([0] ++ _)) => hI8
          refine kso_max Fc Nc ⟨_, (Nc _ (.head _)).1, rfl, _, rfl⟩ hI8 (by simp) G.hand ?_
          clear Fc Nc F N
          intro h15 Mx tx tk15 F N hMx hle
          have N' : News g L' h15 ((M, om) :: (x, instObj 210 dx) :: (dx, dictOf [⟨kc, .str (Str.ofString "classes") tkc, .ref d3⟩] 1) :: (d3, od3) :: (d, od) :: (L' + 1 + 1 + 1, oa') :: (L' + 1 + 1, om2) :: (L' + 1, oc) :: []) := fun p hp => N p (.tail _ (.tail _ (.tail _ (.tail _ hp))))
          have emx : Mx = (marks ps').foldl (fun m p => max m p.2) 0 := max_fold hMx hle
          clear N
          (repeat' (first | ((with_reducible show wpAny _ _ (exec _ _) _ _ _); k_fold) | (with_reducible first | refine Jq5 ?_ | refine Jq0 ?_ | refine Jq1 ?_ | refine Jq2 ?_ | refine Jq7 ?_ | refine Jq3 ?_ | refine Jq4 ?_ | refine Jq8 ?_ | refine Jq9 ?_ | refine Jq10 ?_ | refine Jq11 ?_ | refine Jq12 ?_) | (k_unfold; (try dsimp only)) | (k_end; wrow_close) | walk1 | (dsimp only; walk1) | (leave1; walk_say "STEP leave1"; try dsimp only) | fail "no step"))
          · unfold Hold
            rename Fr _ _ _ _ => Fc
            rename News _ _ _ _ => Nc
            refine clsof_spec (G.inside B FR Fc rfl rfl) (by simp only [depth_deeper]; (first | exact q401 (by assumption) | omega)) (by simp only [units_deeper]; (first | exact q402 (by assumption) | omega)) ⟨⟨(Nc (x, _) (by fail "JMEM")).1, _, _, (Nc (dx, _) (by fail "JMEM")).1⟩, T3 _ Nc (by fail "JMEM"), hbx, hbd, off_in B hdf dxL.1⟩ e5 e4 fun tv h16 tk16 ex16 => ?_
            have F16 := fr_ext Fc ex16 (fun m => nomatch m) (fun _ m => nomatch m)
            have N16 := news_ext Nc ex16 fun _ _ m => nomatch m
            clear Fc Nc
            have e0 : clsOf (marks ps') 65536 = 0 := by
              rw [clsOf_marks hri.1.1]
              exact clsOf_none fun p hp => by have := hri.1.2 p hp; (first | exact q404 (by assumption) | omega)
            rw [e0]
            (repeat' (first | ((with_reducible show wpAny _ _ (exec _ _) _ _ _); k_fold) | (with_reducible first | refine Jq5 ?_ | refine Jq0 ?_ | refine Jq1 ?_ | refine Jq2 ?_ | refine Jq7 ?_ | refine Jq3 ?_ | refine Jq4 ?_ | refine Jq8 ?_ | refine Jq9 ?_ | refine Jq10 ?_ | refine Jq11 ?_ | refine Jq12 ?_) | (k_unfold; (try dsimp only)) | (k_end; wrow_close) | walk1 | (dsimp only; walk1) | (leave1; walk_say "STEP leave1"; try dsimp only) | fail "no step"))
            all_goals try dsimp only
            exact ret _ _ (ext_kept (ext_of (S := []) (fun b o e _ => hsub b o e fun m => nomatch m) F16))
          · rename Fr _ _ _ _ => Fc
            have eb : (List.foldl (fun m p => max m p.2) 0 (marks ps') + 1 == 1 + Mx) = true := by rw [emx]; exact beq_iff_eq.mpr (by (first | exact q405 | omega))
            rw [eb]
            exact ret _ _ (ext_kept (ext_of (S := []) (fun b o e _ => hsub b o e fun m => nomatch m) Fc))
end
section
open PyProof.Rows.LCg
section
variable {prog : Program} {w : World} {A : Around} {E : Value → Shared → Prop} {s : Shared} {h₀ base hc : Heap} {L : Addr} {m : Str → Option Value} {env : Env} {outer : List Env} {S₀ : List Addr} {Hz : Int → Prop}
/-- the block of a list comprehension that a name takes -/
noncomputable def BlockA (prog : Program) (w : World) (A : Around) (E : Value → Shared → Prop) (env : Env) (elt iter : Expr) (ifs : List Expr) (x : Str) (px : Pos) (scope : Scope) (cl : List (Str × Addr)) (pos : Pos) (y : Str) (py : Pos) (Q : Flow → Shared → Prop) (it : Value) (s₂ : Shared) : Prop :=
  wpAny (model prog w) A (newList []) (fun acc s₃ => wpAny (model prog w) A (newFunctionEnv scope env.globals cl [] env.qual none .none (some env)) (fun cenv s₄ =>
      codeAny (model prog w) A (.compStart (.ListComp elt [⟨.Name x px, iter, ifs, 0⟩] scope pos) 0 it acc { cenv with scope := relabel scope env }) (compPost (model prog w) A E (some (assign (.Name y py) env)) (fun _ s' => Q .next s') acc cenv.locals) s₄) E s₃) E s₂
theorem assign_start {elt iter : Expr} {ifs : List Expr} {x y : Str} {px py : Pos} {scope : Scope} {cl : List (Str × Addr)} {pos spos : Pos} {Q : Flow → Shared → Prop}
    (hsw : swapsWith (.ListComp elt [⟨.Name x px, iter, ifs, 0⟩] scope pos) (some (.Name y py)) spos.line env = pure true)
    (hclos : closureFor scope env = pure cl) (hkind : scope.kind = .function) (hnames : ∀ z ∈ scope.names, z.2 = .local → scope.names.lookup z.1 = some .local)
    (h : wpAny (model prog w) A (eval iter env) (fun xv s₁ => wpAny (model prog w) A (pyIter xv) (fun it s₂ => BlockA prog w A E env elt iter ifs x px scope cl pos y py Q it s₂) E s₁) E s)
    (hs : ∀ x, foldedSetIterable iter env x = pure x := by intro _; rfl) :
    wpAny (model prog w) A (exec (.Assign [.Name y py] (.ListComp elt [⟨.Name x px, iter, ifs, 0⟩] scope pos) spos) env) Q E s := by
  rw [exec_Assign_Name_used _ _ _ _ hsw]
  refine wpAny_bind (wpAny_standAt (wpAny_bind ?_))
  show wpAny _ A (do let _ ← comprehension (.ListComp elt [⟨.Name x px, iter, ifs, 0⟩] scope pos) scope env _ (newList []) false (eval iter env) (some (assign (.Name y py) env))) _ _ s
  exact wpAny_bind (wpAny_mono (wpAny_comprehension_free (use := some (assign (.Name y py) env)) (Q := fun _ s' => Q .next s') rfl hs hclos hkind hnames h) (fun _ s' hq => wpAny_pure (wpAny_pure hq)) fun _ _ e => e)
theorem range_assign {elt iter : Expr} {ifs : List Expr} {x y : Str} {px py : Pos} {scope : Scope} {cl : List (Str × Addr)} {pos : Pos} {Q : Flow → Shared → Prop} {r : Addr} {a b : Int} {t u v : Tok} {n : Nat} {news : List (Addr × Obj)} (J : Nat → List Value → List (Addr × Obj) → Prop)
    (hcell : ∀ y ∈ scope.names, y.2 ≠ .cell) (hkind : scope.kind = .function) (hx : scope.names.lookup x = some .local) (hy : env.kindOf y = some .local) (hp : (env.scope.kind == .class || (env.scope.kind == .module && env.locals != env.globals)) = false) (hloc : env.locals = L)
    (hfr : A.frames = some (env :: outer)) (hle : env.frame = some L) (hkf : env.scope.kind = .function) (hbL : base.get? L = none) (FR : Frs base h₀ outer)
    (hh : A.handled = none) (hr : IsRange s.heap r a b 1 t u v) (hsm : Builtin.Range.small a b 1 = true) (hn : Builtin.Range.rangeSize a b 1 = ((n : Nat) : Int)) (hsz : n ≤ sizeLine)
    (F : Fr h₀ L s.heap m) (N : News h₀ L s.heap news) (hcl : ∀ b o, hc.get? b = some o → ∃ o', s.heap.get? b = some o') (hJ : J 0 [] news)
    (turn : ∀ (i : Nat) tv I oI C oC D m₂ ys news h tk, i < n → ys.length ≤ i → J i ys news → NsObj oC m₂ → m₂ x = some (.int (a + (i : Int)) tv) → Fr h₀ L h m → News h₀ L h ((I, oI) :: (C, oC) :: (D, lst ys) :: news) → Off3 I C D news → ((@Ne Nat I C) ∧ (@Ne Nat I D) ∧ (@Ne Nat C D)) →
      wpAny (model prog w) A (testsOf ifs (compEnvC scope cl C env)) (fun ok s₃ => if ok = true then wpAny (model prog w) A (eval elt (compEnvC scope cl C env)) (fun y s₄ => TurnEnd h₀ L m { s with heap := h, toks := tk } I oI C oC D (lst ys) (J (i + 1) (ys ++ [y])) s₄)
          (TurnExc env outer hc S₀ Hz C h { s with heap := h, toks := tk }) s₃
        else TurnEnd h₀ L m { s with heap := h, toks := tk } I oI C oC D (lst ys) (J (i + 1) ys) s₃) (TurnExc env outer hc S₀ Hz C h { s with heap := h, toks := tk }) { s with heap := h, toks := tk })
    (exc : ∀ e z h' tk, Hz z → Fly (frs (env :: outer)) S₀ hc e z h' → Frs base h' (env :: outer) → E (.ref e) { s with heap := h', toks := tk })
    (done : ∀ D h tk ys news', Fr h₀ L h (fun z => if z = y then some (.ref D) else m z) → News h₀ L h ((D, lst ys) :: news') → Off1 D news' → ys.length ≤ n → J n ys news' → Q .next { s with heap := h, toks := tk }) :
    wpAny (model prog w) A (pyIter (.ref r)) (fun it s₂ => BlockA prog w A E env elt iter ifs x px scope cl pos y py Q it s₂) E s := by
  have up : ∀ {ob : Obj} b o, s.heap.get? b = some o → (s.heap.push ob).get? b = some o := fun _ _ e => Heap.get?_push_of_some _ e
  subst hloc
  refine wpAny_pyIter_range hr hsm ?_
  refine comp_blockU (s := { s with heap := _ }) (hc := hc) (S₀ := S₀) (Hz := Hz) (outer := outer) (base := base) (h₀ := h₀) (L := env.locals) (m := m) (news := news) (S := fun _ => True) (J := J) (use := some (assign (.Name y py) env)) (Q := fun _ s' => Q .next s') hcell hkind hx hfr hle hkf hbL FR (range_walks hh a n) hsz (fun i h st => ⟨_, st⟩) range_st
    (by show IsRangeIter _ _ _ _ _; rw [hn]; simpa using Heap.get?_push_size _ rfl) (fun b hb => ?_) (F.keeps up) (N.grown up) (Nat.ne_of_lt F.ns.lt) (next_is_new F) (fun p hp => Nat.ne_of_lt (Heap.lt_size (N p hp).1)) (fun _ _ _ _ => trivial) hJ
    (fun b o q => let ⟨o', q'⟩ := hcl b o q; ⟨o', up _ _ q'⟩) ?_ exc ?_
  · rw [List.mem_singleton.mp hb]
    show s.heap.objs.size < (s.heap.push _).objs.size
    rw [Heap.size_push]; exact Nat.lt_succ_self _
  · rintro i v I oI C oC D m₂ ys news h tk hi ⟨tv, rfl⟩ hy hJ' hoC hm₂ F' N' off ne
    exact turn i tv I oI C oC D m₂ ys news h tk hi hy hJ' hoC hm₂ F' N' off ne
  · intro D C h tk m' ys news' hns hCL hC0 F' N' offC o1 hyl hJ'
    refine wpAny_assign_Name (wpAny_storeName_local hy F'.ns (fun h₂ hn₂ hs₂ => ?_) hp)
    have hL0 : h₀.get? env.locals = none := kts_self F'
    refine ⟨m', hns.sameBut hs₂ hCL, fun h₃ sb => done D h₃ _ ys news' ⟨hn₂.sameBut sb (Ne.symm hCL), fun b o e => ?_, F'.above⟩ (fun p hp => ?_) o1 hyl hJ'⟩
    · refine (sb.2 b fun w => by rw [w, hC0] at e; cases e).trans ((hs₂.2 b fun w => by rw [w, hL0] at e; cases e).trans (F'.keep b o e))
    · refine via fun G_ hG_ => ?_
      obtain ⟨a1, a2, a3⟩ := N' p hp
      refine hG_ ?_
      clear hG_ G_
      exact ⟨(sb.2 _ (offC p hp)).trans ((hs₂.2 _ a2).trans a1), a2, a3⟩
end
end
section
open PyProof.Rows.LCg PyProof.V


noncomputable def CellObj (co : Obj) (i : Addr) (oi : Obj) : Prop := ∃ n st tk vs ns k, co = listOf ([.ref i, .int st tk] : List Value).toArray n ∧ oi = listOf (List.toArray vs) k ∧ IntsAre vs ns ∧ ns.length ≤ 63 ∧ 0 ≤ st ∧ st < 4294967296
theorem cells_obj {base h : Heap} {c i : Addr} (C : CellsAt base c i h) : ∃ co oi, CellObj co i oi ∧ h.get? c = some co ∧ h.get? i = some oi := by
  refine via fun G_ hG_ => ?_
  obtain ⟨_, _, n, st, tk, vs, ns, k, hc, hi, r⟩ := C
  refine hG_ ?_
  clear hG_ G_
  exact ⟨_, _, ⟨n, st, tk, vs, ns, k, rfl, rfl, r⟩, hc, hi⟩
theorem cells_back {base h : Heap} {c i : Addr} {co oi : Obj} (O : CellObj co i oi) (nc : base.get? c = none) (ni : base.get? i = none) (hc : h.get? c = some co) (hi : h.get? i = some oi) : CellsAt base c i h := by
  refine via fun G_ hG_ => ?_
  obtain ⟨n, st, tk, vs, ns, k, rfl, rfl, r⟩ := O
  refine hG_ ?_
  clear hG_ G_
  exact ⟨nc, ni, n, st, tk, vs, ns, k, hc, hi, r⟩
theorem cellobj_ne {h : Heap} {c i : Addr} {co oi : Obj} (O : CellObj co i oi) (hc : h.get? c = some co) (hi : h.get? i = some oi) : i ≠ c := by
  refine via fun G_ hG_ => ?_
  obtain ⟨n, st, tk, vs, ns, k, rfl, rfl, r, _⟩ := O
  refine hG_ ?_
  clear hG_ G_
  exact cells_ne hc hi r
theorem cellobj_list {co oi : Obj} {i : Addr} (O : CellObj co i oi) : (∀ es n, co.data ≠ .dict es n) ∧ ∀ es n, oi.data ≠ .dict es n := by
  refine via fun G_ hG_ => ?_
  obtain ⟨n, st, tk, vs, ns, k, rfl, rfl, r, _⟩ := O
  refine hG_ ?_
  clear hG_ G_
  exact ⟨fun _ _ e => (by cases e), fun _ _ e => (by cases e)⟩
theorem cells_fwd {base g h h' : Heap} {L c i i' : Addr} {m : Str → Option Value} {pre post : List (Addr × Obj)} {co oi : Obj} (F : Fr g L h m) (N : News g L h (pre ++ (c, co) :: (i, oi) :: post)) (ex : Ext [c] h h') (C : CellsAt base c i' h') (hi : i' = i ∨ h.get? i' = none)
    (h1 : ∀ p ∈ pre, p.1 ≠ c) (h2 : ∀ p ∈ post, p.1 ≠ c) (hL : L ≠ c) :
    ∃ co' oi', CellObj co' i' oi' ∧ Fr g L h' m ∧ News g L h' (pre ++ (c, co') :: (i', oi') :: post) ∧ (∀ b o, h.get? b = some o → b ≠ i → b ≠ i') := by
  refine via fun G_ hG_ => ?_
  obtain ⟨co', oi', O, hc, hoi⟩ := cells_obj C
  refine hG_ ?_
  clear hG_ G_
  have nc := N (c, co) (List.mem_append_right _ (.head _))
  have ni := N (i, oi) (List.mem_append_right _ (.tail _ (.head _)))
  have F' := fr_ext F ex (by simpa using hL) (fun b hb => by rw [List.mem_singleton.mp hb]; exact nc.2.2)
  have old : ∀ p ∈ pre ++ (c, co) :: (i, oi) :: post, p.1 ≠ c → h'.get? p.1 = some p.2 ∧ p.1 ≠ L ∧ g.get? p.1 = none := fun p hp q => ⟨ex _ _ (N p hp).1 (by simpa using q), (N p hp).2⟩
  refine ⟨co', oi', O, F', fun p hp => ?_, fun b o e ne q => ?_⟩
  · rcases List.mem_append.mp hp with q | q
    · exact old p (List.mem_append_left _ q) (h1 p q)
    rcases List.mem_cons.mp q with rfl | q
    · exact ⟨hc, nc.2⟩
    rcases List.mem_cons.mp q with rfl | q
    · rcases hi with rfl | hi
      · exact ⟨hoi, ni.2⟩
      · refine ⟨hoi, fun e => ?_, kts_none F.keep hi⟩
        refine via fun G_ hG_ => ?_
        obtain ⟨o, _, _, ho, _⟩ := F.ns
        refine hG_ ?_
        clear hG_ G_
        have e' : i' = L := e
        rw [e', ho] at hi
        cases hi
    · exact old p (List.mem_append_right _ (.tail _ (.tail _ q))) (h2 p q)
  · rcases hi with rfl | hi
    · exact ne q
    · rw [q, hi] at e; cases e
/-- the values ys are refs of tuples of the fields fs; of each tuple G holds -/
noncomputable def FldP (ys : List Value) (fs : List (Str × Int)) (G : Addr → Obj → Prop) : Prop :=
  ys.length = fs.length ∧ ∀ (j : Nat) (f : Str × Int), fs[j]? = some f → ∃ (T : Addr) (t1 t2 : Tok), ys[j]? = some (Value.ref T) ∧ G T ({ cls := .type "tuple", data := .seq #[.str f.1 t1, .int f.2 t2] } : Obj)
noncomputable def FldAt (h₀ h : Heap) (D : Addr) (fs : List (Str × Int)) : Prop :=
  h₀.get? D = none ∧ ∃ ys n, h.get? D = some ({ cls := .type "list", data := .seq (List.toArray ys) n } : Obj) ∧ FldP ys fs fun T o => h.get? T = some o ∧ h₀.get? T = none
noncomputable def FldOk (fs : List (Str × Int)) : Prop := 1 ≤ fs.length ∧ fs.length ≤ 14 ∧ ∀ f ∈ fs, 0 ≤ f.2 ∧ f.2 ≤ 65535
theorem news_dup {g h : Heap} {L : Addr} {a b d : Addr × Obj} (N : News g L h (a :: b :: d :: [])) : News g L h (a :: b :: d :: d :: []) := fun p hp => N p (by
  rcases List.mem_cons.mp hp with rfl | hp
  · exact .head _
  · rcases List.mem_cons.mp hp with rfl | hp
    · exact .tail _ (.head _)
    · rcases List.mem_cons.mp hp with rfl | hp
      · exact .tail _ (.tail _ (.head _))
      · exact .tail _ (.tail _ hp))
noncomputable def MidPost (g : Heap) (L : Addr) (m : Str → Option Value) (J : Heap → Prop) (s s₁ : Shared) : Prop := ∃ h' tk', s₁ = { s with heap := h', toks := tk' } ∧ Fr g L h' m ∧ J h'
theorem mid {M : Model} {A : Around} {α : Type} {t : Sem α} {E : Value → Shared → Prop} {s : Shared} {g : Heap} {L : Addr} {m : Str → Option Value} {R : α → Shared → Prop} (_F : Fr g L s.heap m) (J : Heap → Prop)
    (h1 : wpAny M A t (fun _ s₁ => MidPost g L m J s s₁) E s)
    (h2 : ∀ a h' tk', Fr g L h' m → J h' → R a { s with heap := h', toks := tk' }) : wpAny M A t R E s :=
  wpAny_mono h1 (fun a s₁ z => by obtain ⟨h', tk', rfl, F', j⟩ := z; exact h2 a h' tk' F' j) fun _ _ e => e
theorem lives {h₀ g h : Heap} {L c i : Addr} {m : Str → Option Value} {co oi o1 o2 : Obj} (hsub : ∀ b o, h₀.get? b = some o → b ∉ List.map (·.1) [(c, co), (i, oi)] → g.get? b = some o) (F : Fr g L h m) (hc : h.get? c = some o1) (hi : h.get? i = some o2) : ∀ b o, h₀.get? b = some o → ∃ o', h.get? b = some o' := fun b o e => by
  by_cases q : b = c
  · exact ⟨_, q ▸ hc⟩
  by_cases q2 : b = i
  · exact ⟨_, q2 ▸ hi⟩
  · exact ⟨o, F.keep _ _ (hsub b o e (by simp only [List.map_cons, List.map_nil, List.mem_cons, List.not_mem_nil, or_false, not_or]; exact ⟨q, q2⟩))⟩
theorem FldP.mono {ys : List Value} {fs : List (Str × Int)} {G G' : Addr → Obj → Prop} (P : FldP ys fs G) (k : ∀ T o, G T o → G' T o) : FldP ys fs G' :=
  ⟨P.1, fun j p h => let ⟨T, t1, t2, a, b⟩ := P.2 j p h; ⟨T, t1, t2, a, k _ _ b⟩⟩
theorem FldP.nil {G : Addr → Obj → Prop} : FldP [] [] G := ⟨rfl, fun j p h => by simp at h⟩
theorem FldP.cons {ys : List Value} {fs : List (Str × Int)} {G : Addr → Obj → Prop} {T : Addr} {a : Str} {b : Int} {t1 t2 : Tok} (hm : G T ({ cls := .type "tuple", data := .seq #[.str a t1, .int b t2] } : Obj)) (P : FldP ys fs G) : FldP (.ref T :: ys) ((a, b) :: fs) G :=
  ⟨by simp [P.1], fun j p h => by
    cases j with
    | zero =>
      simp only [List.getElem?_cons_zero, Option.some.injEq] at h ⊢
      subst h
      exact ⟨T, t1, t2, rfl, hm⟩
    | succ j => exact P.2 j p (by simpa using h)⟩
theorem FldP.append {ys zs : List Value} {ps qs : List (Str × Int)} {G : Addr → Obj → Prop} (P : FldP ys ps G) (R : FldP zs qs G) : FldP (ys ++ zs) (ps ++ qs) G := by
  refine ⟨by simp [P.1, R.1], fun j p h => ?_⟩
  by_cases hj : j < ps.length
  · rw [List.getElem?_append_left hj] at h
    refine via fun G_ hG_ => ?_
    obtain ⟨T, t1, t2, a, b⟩ := P.2 j p h
    refine hG_ ?_
    clear hG_ G_
    exact ⟨T, t1, t2, by rw [List.getElem?_append_left (by have := P.1; (first | exact q76 (by assumption) (by assumption) | omega))]; exact a, b⟩
  · rw [List.getElem?_append_right (by (first | exact q74 (by assumption) | omega))] at h
    refine via fun G_ hG_ => ?_
    obtain ⟨T, t1, t2, a, b⟩ := R.2 _ p h
    refine hG_ ?_
    clear hG_ G_
    exact ⟨T, t1, t2, by rw [List.getElem?_append_right (by have := P.1; (first | exact q77 (by assumption) (by assumption) | omega)), P.1]; exact a, b⟩
noncomputable abbrev FldIn (ys : List Value) (fs : List (Str × Int)) (fro : List (Addr × Obj)) : Prop := FldP ys fs fun T o => (T, o) ∈ fro
theorem fld_snoc {ys : List Value} {fs : List (Str × Int)} {fro : List (Addr × Obj)} {T : Addr} {a : Str} {b : Int} {t1 t2 : Tok} (P : FldIn ys fs fro) : FldIn (ys ++ [.ref T]) (fs ++ [(a, b)]) ((T, ({ cls := .type "tuple", data := .seq #[.str a t1, .int b t2] } : Obj)) :: fro) :=
  FldP.append (P.mono fun _ _ hp => .tail _ hp) (FldP.cons (.head _) .nil)
theorem kmap2 {x a b : Str} {m₀ m₁ : Str → Option Value} {v : Value} (h : Keeps x [a, b] m₀ m₁) : (fun z => if z = x then some v else m₁ z) = fun z => if z = x then some v else if z = a then m₁ a else if z = b then m₁ b else m₀ z := by
  funext z
  by_cases h0 : z = x
  · subst h0; simp
  by_cases h1 : z = a
  · subst h1; simp [h0]
  by_cases h2 : z = b
  · subst h2; simp [h0, h1]
  simp only [h0, h1, h2, if_false]
  exact h z h0 (by simp [h1, h2])
theorem kdone2 {x a b : Str} {m₀ m₁ : Str → Option Value} (h : Keeps x [a, b] m₀ m₁) : m₁ = fun z => if z = x then m₁ x else if z = a then m₁ a else if z = b then m₁ b else m₀ z := by
  funext z
  by_cases h0 : z = x
  · subst h0; simp
  by_cases h1 : z = a
  · subst h1; simp [h0]
  by_cases h2 : z = b
  · subst h2; simp [h0, h1]
  simp only [h0, h1, h2, if_false]
  exact h z h0 (by simp [h1, h2])
noncomputable def MidF (g : Heap) (L : Addr) (x : Str) (ys : List Str) (m : Str → Option Value) (J : Heap → (Str → Option Value) → Prop) (s : Shared) (f : Flow) (s₁ : Shared) : Prop := f = .next ∧ ∃ h' tk' m', s₁ = { s with heap := h', toks := tk' } ∧ Fr g L h' m' ∧ Keeps x ys m m' ∧ J h' m'
theorem midF {M : Model} {A : Around} {t : Sem Flow} {E : Value → Shared → Prop} {s : Shared} {g : Heap} {L : Addr} {m : Str → Option Value} {R : Flow → Shared → Prop} (_F : Fr g L s.heap m) (x : Str) (ys : List Str) (J : Heap → (Str → Option Value) → Prop)
    (h1 : wpAny M A t (MidF g L x ys m J s) E s)
    (h2 : ∀ h' tk' m', Fr g L h' m' → Keeps x ys m m' → J h' m' → R .next { s with heap := h', toks := tk' }) : wpAny M A t R E s :=
  wpAny_mono h1 (fun a s₁ z => by obtain ⟨rfl, h', tk', m', rfl, F', k, j⟩ := z; exact h2 h' tk' m' F' k j) fun _ _ e => e
noncomputable def SpSt (base : Heap) (c i sp L : Addr) (oi : Obj) (k : Nat) (m : Str → Option Value) (nx : List (Addr × Obj)) : Prop :=
  ∃ o1 co' i' oi' ys n fs fro gv gt, nx = (sp, listOf (List.toArray ys) n) :: (L + 1, o1) :: (c, co') :: (i', oi') :: (i, oi) :: fro ∧ o1.data = .cell (some (.ref c)) ∧ CellObj co' i' oi' ∧ base.get? i' = none ∧ FldIn ys fs fro ∧ fs.length = 3 * k ∧ (∀ f ∈ fs, 0 ≤ f.2 ∧ f.2 ≤ 65535) ∧
    m (Str.ofString "glyph") = some (.int gv gt) ∧ 0 ≤ gv ∧ gv ≤ 65544 ∧ (∀ p ∈ fro, LT.lt (α := Nat) sp p.1) ∧ @Ne Nat sp i'
theorem news_span {g h : Heap} {L : Addr} {T1 T2 T3 B I sp L1 cc ii io : Addr × Obj} {fro : List (Addr × Obj)} (N : News g L h (B :: T3 :: T2 :: T1 :: I :: sp :: L1 :: cc :: ii :: io :: fro)) : News g L h (I :: sp :: L1 :: cc :: ii :: io :: T3 :: T2 :: T1 :: fro) := fun p hp => N p (by
  simp only [List.mem_cons] at hp ⊢
  rcases hp with hp | hp | hp | hp | hp | hp | hp | hp | hp | hp <;> simp only [hp, true_or, or_true])
theorem news_nw {g h : Heap} {L : Addr} {nw : List (Addr × Obj)} (N : News g L h nw) : ∃ nw0, nw0 = nw ∧ News g L h nw0 := ⟨nw, rfl, N⟩
theorem fld_ext {h₀ g h : Heap} {L c i : Addr} {m : Str → Option Value} {co oi : Obj} (hsub : ∀ b o, h₀.get? b = some o → b ∉ List.map (·.1) [(c, co), (i, oi)] → g.get? b = some o) (F : Fr g L h m) (h1 : h₀.get? i = some oi) (h2 : h.get? i = some oi) : Ext [c] h₀ h := fun b o e nb => by
  by_cases q : b = i
  · subst q
    rw [h1] at e
    cases e
    exact h2
  · exact F.keep _ _ (hsub b o e (by simp only [List.map_cons, List.map_nil, List.mem_cons, List.not_mem_nil, or_false, not_or]; exact ⟨fun z => nb (List.mem_singleton.mpr z), q⟩))
theorem fld_i {h₀ g : Heap} {c i i' : Addr} {co oi : Obj} (hsub : ∀ b o, h₀.get? b = some o → b ∉ List.map (·.1) [(c, co), (i, oi)] → g.get? b = some o) (hg : g.get? i' = none) (hc : i' ≠ c) : i' = i ∨ h₀.get? i' = none := by
  by_cases q : i' = i
  · exact .inl q
  refine .inr ?_
  cases z : h₀.get? i' with
  | none => rfl
  | some o =>
    rw [hsub i' o z (by simp only [List.map_cons, List.map_nil, List.mem_cons, List.not_mem_nil, or_false, not_or]; exact ⟨hc, q⟩)] at hg
    cases hg
local macro_rules | `(tactic| walk_at "call builtin:len") => `(tactic| (refine len_list (News.isList (by assumption) (by fail "JMEM")) (by simp only [List.size_toArray]; (first | exact q435 (by assumption) | omega)) ?_))
theorem fields_spec {w : World} {mean : ExcName → Option Value} {mg mb : Str → Option Value} {base : Heap} {A : Around} {E : Value → Shared → Prop} {s : Shared} {c i : Addr} {Q : Value → Shared → Prop} (G : Gnd w mean mg mb base A s.heap) (hroom : A.depth ≤ 560) (hun : A.units ≤ 6600) (C : CellsAt base c i s.heap)
    (ret : ∀ D h' tk i' fs, FldOk fs → Ext [c] s.heap h' → CellsAt base c i' h' → (i' = i ∨ s.heap.get? i' = none) → FldAt s.heap h' D fs → Q (.ref D) { s with heap := h', toks := tk }) :
    wpAny (model PySem.Challenge.rw_pb0173_01.row.prog w) A (call (.ref 248) [.ref c]) Q E s := by
  refine via fun G_ hG_ => ?_
  obtain ⟨co, oi, O, hc, hi⟩ := cells_obj C
  refine hG_ ?_
  clear hG_ G_
  have nc := C.nc
  have ni := C.ni
  have hic := cellobj_ne O hc hi
  have hdl := cellobj_list O
  refine wpAny_call ?_
  k_dflt (refine' enterC (news := [(c, co), (i, oi)]) G ?hn ?ho ?hcd ?hroom ?hbind ?hkind ?hnd ?_ ?q1 ?q2 ?q3; (case ho => k_is); (case hcd => k_is); (case hroom => first | (simp only [recursionLimit]; (first | exact q46 (by assumption) | omega)) | omega | assumption); (case hbind => exact BindsTo.of_eq rfl); (case hkind => exact rfl); (case hnd => decide +kernel); (case q1 => rfl); (case q2 => rfl); (case q3 => rfl))
  case hn => exact two_mem ⟨hc, nc, G.notFr hc hdl.1⟩ ⟨hi, ni, G.notFr hi hdl.2⟩
  intro g L' h₁ l tk0 cells hsub hsup hL F N Y B X T FR lt0
  k_cells Y
  try dsimp only
  simp only [List.cons_append, List.nil_append] at N
  have N := news_dup N
  have lc : LT.lt (α := Nat) c L' := lt0 (c, _) (.head _)
  have hcL : L' ≠ c := Nat.ne_of_gt lc
  (repeat' (first | ((with_reducible show wpAny _ _ (exec _ _) _ _ _); k_fold) | (with_reducible first | refine Jq5 ?_ | refine Jq6 ?_ | refine Jq0 ?_ | refine Jq1 ?_ | refine Jq2 ?_ | refine Jq7 ?_ | refine Jq3 ?_ | refine Jq4 ?_ | refine Jq8 ?_ | refine Jq9 ?_ | refine Jq10 ?_ | refine Jq11 ?_ | refine Jq12 ?_) | (k_unfold; (try dsimp only)) | (k_end; wrow_close) | walk1 | (dsimp only; walk1) | (leave1; walk_say "STEP leave1"; try dsimp only) | fail "no step"))
  unfold Hold
  have fr0 : ∀ b, s.heap.get? b ≠ none → b ≠ c → b ≠ i → ∃ o, g.get? b = some o := fun b e n1 n2 => by
    cases z : s.heap.get? b with
    | none => exact absurd z e
    | some o => exact ⟨o, hsub b o z (by simp only [List.map_cons, List.map_nil, List.mem_cons, List.not_mem_nil, or_false, not_or]; exact ⟨n1, n2⟩)⟩
  have hpo : ∀ p ∈ [(i, oi)], p.1 ≠ c := fun p hp => by rw [List.mem_singleton.mp hp]; exact hic
  have hpr : ∀ o : Obj, ∀ p ∈ [(L' + 1, o)], p.1 ≠ c := fun o p hp => by rw [List.mem_singleton.mp hp]; exact Nat.ne_of_gt (by dsimp only; (first | exact q52 (by assumption) (by assumption) | omega))
  refine mid F (fun h' => ∃ i' co' oi' o1', CellObj co' i' oi' ∧ base.get? i' = none ∧ o1'.data = .cell (some (.ref c)) ∧ News g L' h' ((L' + 1, o1') :: (c, co') :: (i', oi') :: (i, oi) :: [])) ?_ ?_
  · rename Fr _ _ _ _ => Fc
    rename News _ _ _ _ => Nc
    (repeat' (first | ((with_reducible show wpAny _ _ (exec _ _) _ _ _); k_fold) | (with_reducible first | refine Jq5 ?_ | refine Jq0 ?_ | refine Jq1 ?_ | refine Jq2 ?_ | refine Jq7 ?_ | refine Jq3 ?_ | refine Jq4 ?_ | refine Jq8 ?_ | refine Jq9 ?_ | refine Jq10 ?_ | refine Jq11 ?_ | refine Jq12 ?_) | (k_unfold; (try dsimp only)) | (k_end; wrow_close) | walk1 | (dsimp only; walk1) | (leave1; walk_say "STEP leave1"; try dsimp only) | fail "no step"))
    unfold Hold
    refine take_spec (c := c) (i := i) (G.inside B FR Fc rfl rfl) (by simp only [depth_deeper, recursionLimit]; (first | exact q408 (by assumption) | omega)) (by have hcL9 := cLine_is; simp only [units_deeper]; (first | exact q409 (by assumption) (by assumption) | omega)) (cells_back O nc ni (Nc (c, _) (by fail "JMEM")).1 (Nc (i, _) (by fail "JMEM")).1) (by (first | exact q410 | omega)) (by (first | exact q411 | omega)) fun r1 tr1 h2 tk2 i2 hr1 hr1' ex2 C2 hi2 => ?_
    refine via fun G_ hG_ => ?_
    obtain ⟨co2, oi2, O2, F2, N2, sep2⟩ := cells_fwd (pre := [_]) (post := [(i, oi)]) Fc Nc ex2 C2 hi2 (hpr _) hpo hcL
    refine hG_ ?_
    clear hG_ G_
    clear Fc Nc
    simp only [List.cons_append, List.nil_append] at N2
    (repeat' (first | ((with_reducible show wpAny _ _ (exec _ _) _ _ _); k_fold) | (with_reducible first | refine Jq5 ?_ | refine Jq0 ?_ | refine Jq1 ?_ | refine Jq2 ?_ | refine Jq7 ?_ | refine Jq3 ?_ | refine Jq4 ?_ | refine Jq8 ?_ | refine Jq9 ?_ | refine Jq10 ?_ | refine Jq11 ?_ | refine Jq12 ?_) | (k_unfold; (try dsimp only)) | (k_end; wrow_close) | walk1 | (dsimp only; walk1) | (leave1; walk_say "STEP leave1"; try dsimp only) | fail "no step"))
    · unfold Hold
      rename Fr _ _ _ _ => Fc
      rename News _ _ _ _ => Nc
      refine take_spec (c := c) (i := i2) (G.inside B FR Fc rfl rfl) (by simp only [depth_deeper, recursionLimit]; (first | exact q408 (by assumption) | omega)) (by have hcL9 := cLine_is; simp only [units_deeper]; (first | exact q409 (by assumption) (by assumption) | omega)) (cells_back O2 nc C2.ni (Nc (c, _) (by fail "JMEM")).1 (Nc (i2, _) (by fail "JMEM")).1) (by (first | exact q412 | omega)) (by (first | exact q413 | omega)) fun r3 tr3 h3 tk3 i3 hr3 hr3' ex3 C3 hi3 => ?_
      refine via fun G_ hG_ => ?_
      obtain ⟨co3, oi3, O3, F3, N3, sep3⟩ := cells_fwd (pre := [_]) (post := [(i, oi)]) Fc Nc ex3 C3 hi3 (hpr _) hpo hcL
      refine hG_ ?_
      clear hG_ G_
      clear Fc Nc
      simp only [List.cons_append, List.nil_append] at N3
      (repeat' (first | ((with_reducible show wpAny _ _ (exec _ _) _ _ _); k_fold) | (with_reducible first | refine Jq5 ?_ | refine Jq0 ?_ | refine Jq1 ?_ | refine Jq2 ?_ | refine Jq7 ?_ | refine Jq3 ?_ | refine Jq4 ?_ | refine Jq8 ?_ | refine Jq9 ?_ | refine Jq10 ?_ | refine Jq11 ?_ | refine Jq12 ?_) | (k_unfold; (try dsimp only)) | (k_end; wrow_close) | walk1 | (dsimp only; walk1) | (leave1; walk_say "STEP leave1"; try dsimp only) | fail "no step"))
      all_goals exact ⟨_, _, rfl, F3, i3, co3, oi3, _, O3, C3.ni, by assumption, N3⟩
    · exact ⟨_, _, rfl, F2, i2, co2, oi2, _, O2, C2.ni, by assumption, N2⟩
  · intro b h2 tk2 F2 z0_
    refine via fun G_ hG_ => ?_
    obtain ⟨i2, co2, oi2, o1, O2, ni2, d1, N2⟩ := z0_
    refine hG_ ?_
    clear hG_ G_
    clear F N
    cases b
    all_goals try dsimp only
    all_goals simp only [Bool.false_eq_true, if_false, if_true]
    all_goals (repeat' (first | ((with_reducible show wpAny _ _ (exec _ _) _ _ _); k_fold) | (with_reducible first | refine Jq5 ?_ | refine Jq0 ?_ | refine Jq1 ?_ | refine Jq2 ?_ | refine Jq7 ?_ | refine Jq3 ?_ | refine Jq4 ?_ | refine Jq8 ?_ | refine Jq9 ?_ | refine Jq10 ?_ | refine Jq11 ?_ | refine Jq12 ?_) | (k_unfold; (try dsimp only)) | (k_end; wrow_close) | walk1 | (dsimp only; walk1) | (leave1; walk_say "STEP leave1"; try dsimp only) | fail "no step"))
    · unfold Hold
      rename_i sp hS lS hS2 lm hM FM NM lM
      rename Fr _ _ _ _ => Fc
      rename News _ _ _ _ => Nc
      have hspc : @Ne Nat sp c := Nat.ne_of_gt lS.2.1
      refine take_spec (c := c) (i := i2) (G.inside B FR Fc rfl rfl) (by simp only [depth_deeper, recursionLimit]; (first | exact q408 (by assumption) | omega)) (by have hcL9 := cLine_is; simp only [units_deeper]; (first | exact q409 (by assumption) (by assumption) | omega)) (cells_back O2 nc ni2 (Nc (c, _) (by fail "JMEM")).1 (Nc (i2, _) (by fail "JMEM")).1) (by (first | exact q414 | omega)) (by (first | exact q415 | omega)) fun r6 tr6 h6 tk6 i6 hr6 hr6' ex6 C6 hi6 => ?_
      refine via fun G_ hG_ => ?_
      obtain ⟨co6, oi6, O6, F6, N6, sep6⟩ := cells_fwd (pre := [_, _, _]) (post := [(i, oi)]) Fc Nc ex6 C6 hi6 (by
        intro p hp
        simp only [List.mem_cons, List.not_mem_nil, or_false] at hp
        rcases hp with rfl | rfl | rfl
        · exact Nat.ne_of_gt lM.2.2.1
        · exact hspc
        · exact hpr _ _ (.head _)) hpo hcL
      refine hG_ ?_
      clear hG_ G_
      have ni6 := C6.ni
      have hs6 : @Ne Nat sp i6 := sep6 sp _ (Nc (sp, _) (by fail "JMEM")).1 (Nat.ne_of_gt lS.2.2.1)
      clear Fc Nc
      simp only [List.cons_append, List.nil_append] at N6
      (repeat' (first | ((with_reducible show wpAny _ _ (exec _ _) _ _ _); k_fold) | (with_reducible first | refine Jq5 ?_ | refine Jq0 ?_ | refine Jq1 ?_ | refine Jq2 ?_ | refine Jq7 ?_ | refine Jq3 ?_ | refine Jq4 ?_ | refine Jq8 ?_ | refine Jq9 ?_ | refine Jq10 ?_ | refine Jq11 ?_ | refine Jq12 ?_) | (k_unfold; (try dsimp only)) | (k_end; wrow_close) | walk1 | (dsimp only; walk1) | (leave1; walk_say "STEP leave1"; try dsimp only) | fail "no step"))
      unfold Hold
      rename Fr _ _ _ _ => Fa
      rename News _ _ _ _ => Na
      have hbg : ∀ n : Nat, n < 4 → 0 ≤ ([0, 5, 700, 65527] : List Int).getD n 0 ∧ ([0, 5, 700, 65527] : List Int).getD n 0 ≤ 65527 := by decide
      have hbn : ∀ n : Nat, n < 4 → 0 ≤ ([0, 1, 2, 9] : List Int).getD n 0 ∧ ([0, 1, 2, 9] : List Int).getD n 0 ≤ 9 := by decide
      refine midF Fa (Str.ofString "step") [Str.ofString "end", Str.ofString "glyph"] (fun h' m' => ∃ k, k ≤ 4 ∧ ∃ nx, News g L' h' nx ∧ SpSt base c i sp L' oi k m' nx) ?_ ?_
      · refine For_invVF Fa (by rfl) (by rfl) ?_
        (repeat' (first | ((with_reducible show wpAny _ _ (exec _ _) _ _ _); k_fold) | (with_reducible first | refine Jq5 ?_ | refine Jq0 ?_ | refine Jq1 ?_ | refine Jq2 ?_ | refine Jq7 ?_ | refine Jq3 ?_ | refine Jq4 ?_ | refine Jq8 ?_ | refine Jq9 ?_ | refine Jq10 ?_ | refine Jq11 ?_ | refine Jq12 ?_) | (k_unfold; (try dsimp only)) | (k_end; wrow_close) | walk1 | (dsimp only; walk1) | (leave1; walk_say "STEP leave1"; try dsimp only) | fail "no step"))
        unfold Hold
        rename Fr _ _ _ _ => Fc
        rename News _ _ _ _ => Nc
        refine take_spec (c := c) (i := i6) (G.inside B FR Fc rfl rfl) (by simp only [depth_deeper, recursionLimit]; (first | exact q408 (by assumption) | omega)) (by have hcL9 := cLine_is; simp only [units_deeper]; (first | exact q409 (by assumption) (by assumption) | omega)) (cells_back O6 nc ni6 (Nc (c, _) (by fail "JMEM")).1 (Nc (i6, _) (by fail "JMEM")).1) (by (first | exact q416 | omega)) (by (first | exact q417 | omega)) fun r7 tr7 h7 tk7 i7 hr7 hr7' ex7 C7 hi7 => ?_
        refine via fun G_ hG_ => ?_
        obtain ⟨co7, oi7, O7, F7, N7, sep7⟩ := cells_fwd (pre := [_, _, _]) (post := [(i, oi)]) Fc Nc ex7 C7 hi7 (by
          intro p hp
          simp only [List.mem_cons, List.not_mem_nil, or_false] at hp
          rcases hp with rfl | rfl | rfl
          · exact Nat.ne_of_gt lM.2.2.1
          · exact hspc
          · exact hpr _ _ (.head _)) hpo hcL
        refine hG_ ?_
        clear hG_ G_
        have ni7 := C7.ni
        have hs7 : @Ne Nat sp i7 := sep7 sp _ (Nc (sp, _) (by fail "JMEM")).1 hs6
        clear Fc Nc
        simp only [List.cons_append, List.nil_append] at N7
        have N7 := news_sub (b := _ :: _ :: _ :: _ :: _ :: []) N7 (fun p hp => .tail _ hp)
        (repeat' (first | ((with_reducible show wpAny _ _ (exec _ _) _ _ _); k_fold) | (with_reducible first | refine Jq0 ?_ | refine Jq1 ?_ | refine Jq2 ?_ | refine Jq3 ?_ | refine Jq4 ?_) | (k_unfold; (try dsimp only)) | (k_end; wrow_close) | walk1 | (dsimp only; walk1) | (leave1; walk_say "STEP leave1"; try dsimp only) | fail "no step"))
        rename Fr _ _ _ _ => Fc
        rename News _ _ _ _ => Nc
        rename IsRange _ _ _ _ _ _ _ _ => Rc
        refine range_free [Str.ofString "end", Str.ofString "glyph"] (fun k m nx => SpSt base c i sp L' oi k m nx)
          G.hand Rc (small_one (by decide) (by decide) (by (first | exact q418 (by assumption) (by assumption) | omega)) (by (first | exact q419 (by assumption) (by assumption) | omega))) (n := r7.toNat) (by simpa only [Int.sub_zero] using rangeSize_nat 0 r7) Fc Nc ?_ ?_ ?_
        · exact ⟨_, _, _, _, [], _, [], [], _, _, rfl, by assumption, O7, ni7, .nil, rfl, fun _ m => (nomatch m), rfl, (hbg _ (by (first | exact q420 (by assumption) (by assumption) | omega))).1, Int.le_trans (hbg _ (by (first | exact q420 (by assumption) (by assumption) | omega))).2 (by decide), (fun _ m => nomatch m), hs7⟩
        · intro j tv m₁ _ h tk I oI hj hIn hIlt z0_ hkp F N
          refine via fun G_ hG_ => ?_
          obtain ⟨o1', co', i', oi', ys, n, fs, fro, gv, gt, rfl, d1', O', ni', P, hlf, hb', hgl, hg0, hg1, lt, hsi⟩ := z0_
          refine hG_ ?_
          clear hG_ G_
          clear Fc Nc Rc
          rw [kmap2 hkp, hgl] at F
          have hfrc : ∀ p ∈ fro, p.1 ≠ c := fun p hp => Nat.ne_of_gt (Nat.lt_trans lS.2.1 (lt p hp))
          have hpo2 : ∀ p ∈ (i, oi) :: fro, p.1 ≠ c := fun p hp => by
            rcases List.mem_cons.mp hp with rfl | hp
            · exact hic
            · exact hfrc p hp
          have hIc : I ≠ c := fun q => hIn (c, _) (by fail "JMEM") q.symm
          have hIi : I ≠ i' := fun q => hIn (i', _) (by fail "JMEM") q.symm
          have hIo : i ≠ I := fun q => hIn (i, _) (by fail "JMEM") q
          have hIf : ∀ p ∈ fro, p.1 ≠ I := fun p hp => hIn p (.tail _ (.tail _ (.tail _ (.tail _ (.tail _ hp)))))
          have hIs : LT.lt (α := Nat) sp I := hIlt (sp, _) (.head _)
          have hIL : LT.lt (α := Nat) (L' + 1) I := hIlt (L' + 1, _) (.tail _ (.head _))
          (repeat' (first | ((with_reducible show wpAny _ _ (exec _ _) _ _ _); k_fold) | (with_reducible first | refine Jq5 ?_ | refine Jq0 ?_ | refine Jq1 ?_ | refine Jq2 ?_ | refine Jq7 ?_ | refine Jq3 ?_ | refine Jq4 ?_ | refine Jq8 ?_ | refine Jq9 ?_ | refine Jq10 ?_ | refine Jq11 ?_ | refine Jq12 ?_) | (k_unfold; (try dsimp only)) | (k_end; wrow_close) | walk1 | (dsimp only; walk1) | (leave1; walk_say "STEP leave1"; try dsimp only) | fail "no step"))
          unfold Hold
          rename Fr _ _ _ _ => Fc
          rename News _ _ _ _ => Nc
          refine take_spec (c := c) (i := i') (G.inside B FR Fc rfl rfl) (by simp only [depth_deeper, recursionLimit]; (first | exact q408 (by assumption) | omega)) (by have hcL9 := cLine_is; simp only [units_deeper]; (first | exact q409 (by assumption) (by assumption) | omega)) (cells_back O' nc ni' (Nc (c, _) (by fail "JMEM")).1 (Nc (i', _) (by fail "JMEM")).1) (by (first | exact q414 | omega)) (by (first | exact q415 | omega)) fun r8 tr8 h8 tk8 i8 hr8 hr8' ex8 C8 hi8 => ?_
          refine via fun G_ hG_ => ?_
          obtain ⟨co8, oi8, O8, F8, N8, sep8⟩ := cells_fwd (pre := [_, _, _]) (post := (i, oi) :: fro) Fc Nc ex8 C8 hi8 (by
            intro p hp
            simp only [List.mem_cons, List.not_mem_nil, or_false] at hp
            rcases hp with rfl | rfl | rfl
            · exact hIc
            · exact hspc
            · exact hpr _ _ (.head _)) hpo2 hcL
          refine hG_ ?_
          clear hG_ G_
          have ni8 := C8.ni
          have hI8 : I ≠ i8 := sep8 I _ (Nc (I, _) (.head _)).1 hIi
          have hs8 : @Ne Nat sp i8 := sep8 sp _ (Nc (sp, _) (by fail "JMEM")).1 hsi
          clear Fc Nc
          simp only [List.cons_append, List.nil_append] at N8
          (repeat' (first | ((with_reducible show wpAny _ _ (exec _ _) _ _ _); k_fold) | (with_reducible first | refine Jq5 ?_ | refine Jq0 ?_ | refine Jq1 ?_ | refine Jq2 ?_ | refine Jq7 ?_ | refine Jq3 ?_ | refine Jq4 ?_ | refine Jq8 ?_ | refine Jq9 ?_ | refine Jq10 ?_ | refine Jq11 ?_ | refine Jq12 ?_) | (k_unfold; (try dsimp only)) | (k_end; wrow_close) | walk1 | (dsimp only; walk1) | (leave1; walk_say "STEP leave1"; try dsimp only) | fail "no step"))
          · rename Fr _ _ _ _ => Fz
            rename News _ _ _ _ => Nz
            exact ⟨rfl, _, _, _, rfl, Fz, (by ((intro zK hK1 hK2; simp only [List.mem_cons, List.not_mem_nil, or_false, not_or] at hK2; simp only [hK1, hK2, if_false, ↓reduceIte]))), j, by omega, _, (fun p hp => Nz p (.tail _ hp)), ⟨_, _, _, _, ys, _, fs, fro, gv, gt, rfl, by assumption, O8, ni8, P, hlf, hb', rfl, hg0, hg1, lt, hs8⟩⟩
          · rename (¬ _ > 65535) => hend
            unfold Hold
            rename Fr _ _ _ _ => Fc
            rename News _ _ _ _ => Nc
            rename (_ ∧ _ ∧ _ ∧ _ ∧ _ ∧ _ ∧ _ ∧ AllLt _ _) => lT2
            rename_i T1 hT1 l1 T2 hT2
            refine take_spec (c := c) (i := i8) (G.inside B FR Fc rfl rfl) (by simp only [depth_deeper, recursionLimit]; (first | exact q408 (by assumption) | omega)) (by have hcL9 := cLine_is; simp only [units_deeper]; (first | exact q409 (by assumption) (by assumption) | omega)) (cells_back O8 nc ni8 (Nc (c, _) (by fail "JMEM")).1 (Nc (i8, _) (by fail "JMEM")).1) (by (first | exact q412 | omega)) (by (first | exact q413 | omega)) fun r9 tr9 h9 tk9 i9 hr9 hr9' ex9 C9 hi9 => ?_
            refine via fun G_ hG_ => ?_
            obtain ⟨co9, oi9, O9, F9, N9, sep9⟩ := cells_fwd (pre := [_, _, _, _, _]) (post := (i, oi) :: fro) Fc Nc ex9 C9 hi9 (by
              intro p hp
              simp only [List.mem_cons, List.not_mem_nil, or_false] at hp
              rcases hp with rfl | rfl | rfl | rfl | rfl
              · exact Nat.ne_of_gt lT2.2.2.2.2.1
              · exact Nat.ne_of_gt l1.2.2.2.1
              · exact hIc
              · exact hspc
              · exact hpr _ _ (.head _)) hpo2 hcL
            refine hG_ ?_
            clear hG_ G_
            have ni9 := C9.ni
            have hI9 : I ≠ i9 := sep9 I _ (Nc (I, _) (by fail "JMEM")).1 hI8
            have hs9 : @Ne Nat sp i9 := sep9 sp _ (Nc (sp, _) (by fail "JMEM")).1 hs8
            clear Fc Nc
            simp only [List.cons_append, List.nil_append] at N9
            (repeat' (first | ((with_reducible show wpAny _ _ (exec _ _) _ _ _); k_fold) | (with_reducible first | refine Jq5 ?_ | refine Jq0 ?_ | refine Jq1 ?_ | refine Jq2 ?_ | refine Jq7 ?_ | refine Jq3 ?_ | refine Jq4 ?_ | refine Jq8 ?_ | refine Jq9 ?_ | refine Jq10 ?_ | refine Jq11 ?_ | refine Jq12 ?_) | (k_unfold; (try dsimp only)) | (k_end; wrow_close) | walk1 | (dsimp only; walk1) | (leave1; walk_say "STEP leave1"; try dsimp only) | fail "no step"))
            rename Fr _ _ _ _ => Fc
            rename News _ _ _ _ => Nc
            rename_i T3 hT3 l3 B1 hB1 lB
            have hys : ys.length ≤ 12 := by rw [P.1]; omega
            have l3s : LT.lt (α := Nat) sp T3 := l3.2.2.2.1
            have l2s : LT.lt (α := Nat) sp T2 := lT2.2.2.1
            have l1s : LT.lt (α := Nat) sp T1 := l1.2.1
            refine kl_extend (its := ys.toArray) (its2 := #[.ref T1, .ref T2, .ref T3]) (n := n) (n2 := 0) (D := sp) (b := B1) (l := ys ++ [.ref T1, .ref T2, .ref T3]) Fc Nc (.head _) rfl (by show ¬ (3 = 0); (first | exact q423 | omega)) (.tail (Nat.ne_of_gt lB.2.2.2.2.1) (.tail (Nat.ne_of_gt l3s) (.tail (Nat.ne_of_gt l2s) (.tail (Nat.ne_of_gt l1s) (.tail (Nat.ne_of_gt hIs) (.head ?_)))))) ?_ ?_ ?_ ?_
            · intro p hp
              rcases List.mem_cons.mp hp with rfl | hp
              · exact Nat.ne_of_lt lS.1
              rcases List.mem_cons.mp hp with rfl | hp
              · exact hspc.symm
              rcases List.mem_cons.mp hp with rfl | hp
              · exact hs9.symm
              rcases List.mem_cons.mp hp with rfl | hp
              · exact Nat.ne_of_lt lS.2.2.2
              · exact Nat.ne_of_gt (lt p hp)
            · intro q
              simp only [Bool.and_eq_true, Builtin.List.listTooLong, List.size_toArray, decide_eq_true_eq] at q
              have := q.2
              rw [PySem.sizeLine_eq] at this
              simp only [List.length_cons, List.length_nil] at this
              (first | exact q424 (by assumption) (by assumption) | omega)
            · rw [PySem.sizeLine_eq]; show ys.length ≤ _; (first | exact q425 (by assumption) | omega)
            · rw [PySem.sizeLine_eq]; simp only [List.size_toArray, List.length_cons, List.length_nil]; (first | exact q426 (by assumption) | omega)
            clear Fc Nc
            intro h' F N
            have N := news_span N
            (repeat' (first | ((with_reducible show wpAny _ _ (exec _ _) _ _ _); k_fold) | (with_reducible first | refine Jq5 ?_ | refine Jq0 ?_ | refine Jq1 ?_ | refine Jq2 ?_ | refine Jq7 ?_ | refine Jq3 ?_ | refine Jq4 ?_ | refine Jq8 ?_ | refine Jq9 ?_ | refine Jq10 ?_ | refine Jq11 ?_ | refine Jq12 ?_) | (k_unfold; (try dsimp only)) | (k_end; wrow_close) | walk1 | (dsimp only; walk1) | (leave1; walk_say "STEP leave1"; try dsimp only) | fail "no step"))
            unfold Hold
            rename Fr _ _ _ _ => Fc
            rename News _ _ _ _ => Nc
            rename_i lm2 hM2 lM2
            refine take_spec (c := c) (i := i9) (G.inside B FR Fc rfl rfl) (by simp only [depth_deeper, recursionLimit]; (first | exact q408 (by assumption) | omega)) (by have hcL9 := cLine_is; simp only [units_deeper]; (first | exact q409 (by assumption) (by assumption) | omega)) (cells_back O9 nc ni9 (Nc (c, _) (by fail "JMEM")).1 (Nc (i9, _) (by fail "JMEM")).1) (by (first | exact q414 | omega)) (by (first | exact q415 | omega)) fun r10 tr10 h10 tk10 i10 hr10 hr10' ex10 C10 hi10 => ?_
            refine via fun G_ hG_ => ?_
            obtain ⟨co10, oi10, O10, F10, N10, sep10⟩ := cells_fwd (pre := [_, _, _, _]) (post := (i, oi) :: _ :: _ :: _ :: fro) Fc Nc ex10 C10 hi10 (by
              intro p hp
              simp only [List.mem_cons, List.not_mem_nil, or_false] at hp
              rcases hp with rfl | rfl | rfl | rfl
              · exact Nat.ne_of_gt lM2.2.2.2.1
              · exact hIc
              · exact hspc
              · exact hpr _ _ (.head _)) (by
              intro p hp
              rcases List.mem_cons.mp hp with rfl | hp
              · exact hic
              rcases List.mem_cons.mp hp with rfl | hp
              · exact Nat.ne_of_gt (Nat.lt_trans lS.2.1 l3s)
              rcases List.mem_cons.mp hp with rfl | hp
              · exact Nat.ne_of_gt (Nat.lt_trans lS.2.1 l2s)
              rcases List.mem_cons.mp hp with rfl | hp
              · exact Nat.ne_of_gt (Nat.lt_trans lS.2.1 l1s)
              · exact hfrc p hp) hcL
            refine hG_ ?_
            clear hG_ G_
            have ni10 := C10.ni
            have hI10 : I ≠ i10 := sep10 I _ (Nc (I, _) (by fail "JMEM")).1 hI9
            have hs10 : @Ne Nat sp i10 := sep10 sp _ (Nc (sp, _) (by fail "JMEM")).1 hs9
            clear Fc Nc
            simp only [List.cons_append, List.nil_append] at N10
            (repeat' (first | ((with_reducible show wpAny _ _ (exec _ _) _ _ _); k_fold) | (with_reducible first | refine Jq5 ?_ | refine Jq0 ?_ | refine Jq1 ?_ | refine Jq2 ?_ | refine Jq7 ?_ | refine Jq3 ?_ | refine Jq4 ?_ | refine Jq8 ?_ | refine Jq9 ?_ | refine Jq10 ?_ | refine Jq11 ?_ | refine Jq12 ?_) | (k_unfold; (try dsimp only)) | (k_end; wrow_close) | walk1 | (dsimp only; walk1) | (leave1; walk_say "STEP leave1"; try dsimp only) | fail "no step"))
            rename Fr _ _ _ _ => Fz
            rename News _ _ _ _ => Nz
            have hb10 := hbn r10.toNat (by (first | exact q420 (by assumption) (by assumption) | omega))
            refine ⟨_, _, _, _, rfl, Fz, (fun p hp => Nz p (.tail _ hp)), ?_, ⟨_, _, _, _, ys ++ [.ref T1, .ref T2, .ref T3], _, fs ++ [(Str.ofString "first", gv), (Str.ofString "last", gv + r8), (Str.ofString "class", r9)], _, _, _, rfl, by assumption, O10, ni10, FldP.append (P.mono fun T o hp => .tail _ (.tail _ (.tail _ hp))) (.cons (.tail _ (.tail _ (.head _))) (.cons (.tail _ (.head _)) (.cons (.head _) .nil))), ?_, ?_, rfl, ?_, ?_, ?_, hs10⟩, ?_⟩
            · intro p hp
              rcases List.mem_cons.mp hp with rfl | hp
              · exact Nat.ne_of_lt hIs
              rcases List.mem_cons.mp hp with rfl | hp
              · exact Nat.ne_of_lt hIL
              rcases List.mem_cons.mp hp with rfl | hp
              · exact hIc.symm
              rcases List.mem_cons.mp hp with rfl | hp
              · exact hI10.symm
              rcases List.mem_cons.mp hp with rfl | hp
              · exact hIo
              rcases List.mem_cons.mp hp with rfl | hp
              · exact Nat.ne_of_gt l3.2.2.1
              rcases List.mem_cons.mp hp with rfl | hp
              · exact Nat.ne_of_gt lT2.2.1
              rcases List.mem_cons.mp hp with rfl | hp
              · exact Nat.ne_of_gt l1.1
              · exact hIf p hp
            · simp only [List.length_append, List.length_cons, List.length_nil, hlf]; (first | exact q427 | omega)
            · intro f hf
              rcases List.mem_append.mp hf with hf | hf
              · exact hb' f hf
              · simp only [List.mem_cons, List.not_mem_nil, or_false] at hf
                rcases hf with rfl | rfl | rfl <;> dsimp only <;> (first | exact q429 (by assumption) (by assumption) (by assumption) (by assumption) (by assumption) | exact q430 (by assumption) (by assumption) | omega)
            · (first | exact q431 (by assumption) (by assumption) (by assumption) (by assumption) (by assumption) | omega)
            · (first | exact q432 (by assumption) (by assumption) | omega)
            · intro p hp
              rcases List.mem_cons.mp hp with rfl | hp
              · exact l3s
              rcases List.mem_cons.mp hp with rfl | hp
              · exact l2s
              rcases List.mem_cons.mp hp with rfl | hp
              · exact l1s
              · exact lt p hp
            · ((intro zK hK1 hK2; simp only [List.mem_cons, List.not_mem_nil, or_false, not_or] at hK2; simp only [hK1, hK2, if_false, ↓reduceIte]))
        · rintro m₁ nx h tk J hkp F N
          exact ⟨rfl, _, _, _, rfl, F, hkp, _, by (first | exact q433 (by assumption) (by assumption) | omega), _, N, J⟩
      · intro h tk m' F hkp z0_
        refine via fun G_ hG_ => ?_
        obtain ⟨k, hk, _, N, ⟨o1', co', i', oi', ys, n, fs, fro, gv, gt, rfl, d1', O', ni', P, hlf, hb', hgl, hg0, hg1, lt, hsi⟩⟩ := z0_
        refine hG_ ?_
        clear hG_ G_
        clear Fa Na
        rw [kdone2 hkp] at F
        have hys : ys.length ≤ 12 := by rw [P.1]; (first | exact q434 (by assumption) (by assumption) | omega)
        (repeat' (first | ((with_reducible show wpAny _ _ (exec _ _) _ _ _); k_fold) | (with_reducible first | refine Jq5 ?_ | refine Jq0 ?_ | refine Jq1 ?_ | refine Jq2 ?_ | refine Jq7 ?_ | refine Jq3 ?_ | refine Jq4 ?_ | refine Jq8 ?_ | refine Jq9 ?_ | refine Jq10 ?_ | refine Jq11 ?_ | refine Jq12 ?_) | (k_unfold; (try dsimp only)) | (k_end; wrow_close) | walk1 | (dsimp only; walk1) | (leave1; walk_say "STEP leave1"; try dsimp only) | fail "no step"))
        rename Fr _ _ _ _ => Fz
        rename News _ _ _ _ => Nz
        rename_i T1 hT1 l1 T2 hT2 l2 B1 hB1 FB NB lB hz
        have hnew : ∀ b, LT.lt (α := Nat) L' b → s.heap.get? b = none := fun b q => Heap.get?_none_of_le (by rw [← hL]; exact Nat.le_of_lt q)
        have hup : ∀ b, LT.lt (α := Nat) (L' + 1) b → LT.lt (α := Nat) L' b := fun b q => Nat.lt_of_succ_lt q
        refine ret _ _ _ i' ((Str.ofString "form", 2) :: (Str.ofString "count", Int.fdiv (ys.toArray.size : Int) 3) :: fs) ?_ (fld_ext hsub Fz hi (Nz (i, _) (by fail "JMEM")).1) (cells_back O' nc ni' (Nz (c, _) (by fail "JMEM")).1 (Nz (i', _) (by fail "JMEM")).1) (fld_i hsub (Nz (i', _) (by fail "JMEM")).2.2 (cellobj_ne O' (Nz (c, _) (by fail "JMEM")).1 (Nz (i', _) (by fail "JMEM")).1))
          ⟨hnew _ FB.ns.lt, _, _, (Nz _ (.head _)).1, .cons ⟨(Nz (T1, _) (by fail "JMEM")).1, hnew _ (hup _ l1.2.1)⟩ (.cons ⟨(Nz (T2, _) (by fail "JMEM")).1, hnew _ (hup _ l2.2.2.1)⟩ (P.mono fun T o hp => ⟨(Nz (T, o) ?_).1, hnew _ (hup _ (Nat.lt_trans lS.1 (lt _ hp)))⟩))⟩
        · refine ⟨by simp, by simp only [List.length_cons]; (first | exact q436 (by assumption) (by assumption) | omega), fun f hf => ?_⟩
          rcases List.mem_cons.mp hf with rfl | hf
          · exact ⟨by decide, by decide⟩
          rcases List.mem_cons.mp hf with rfl | hf
          · try dsimp only
            rw [List.size_toArray, Int.fdiv_eq_ediv_of_nonneg _ (by decide)]
            (first | exact q437 (by assumption) | omega)
          · exact hb' f hf
        · repeat' (first | exact hp | refine .tail _ ?_)
    · unfold Hold
      refine assign_start (by rfl) (by with_unfolding_all rfl) (by rfl) (by decide) ?_
      (repeat' (first | ((with_reducible show wpAny _ _ (exec _ _) _ _ _); k_fold) | (with_reducible first | refine Jq5 ?_ | refine Jq0 ?_ | refine Jq1 ?_ | refine Jq2 ?_ | refine Jq7 ?_ | refine Jq3 ?_ | refine Jq4 ?_ | refine Jq8 ?_ | refine Jq9 ?_ | refine Jq10 ?_ | refine Jq11 ?_ | refine Jq12 ?_) | (k_unfold; (try dsimp only)) | (k_end; wrow_close) | walk1 | (dsimp only; walk1) | (leave1; walk_say "STEP leave1"; try dsimp only) | fail "no step"))
      unfold Hold
      rename Fr _ _ _ _ => Fc
      rename News _ _ _ _ => Nc
      refine take_spec (c := c) (i := i2) (G.inside B FR Fc rfl rfl) (by simp only [depth_deeper, recursionLimit]; (first | exact q408 (by assumption) | omega)) (by have hcL9 := cLine_is; simp only [units_deeper]; (first | exact q409 (by assumption) (by assumption) | omega)) (cells_back O2 nc ni2 (Nc (c, _) (by fail "JMEM")).1 (Nc (i2, _) (by fail "JMEM")).1) (by (first | exact q438 | omega)) (by (first | exact q439 | omega)) fun r4 tr4 h3 tk3 i3 hr4 hr4' ex3 C3 hi3 => ?_
      refine via fun G_ hG_ => ?_
      obtain ⟨co3, oi3, O3, F3, N3, sep3⟩ := cells_fwd (pre := [_]) (post := [(i, oi)]) Fc Nc ex3 C3 hi3 (hpr _) hpo hcL
      refine hG_ ?_
      clear hG_ G_
      have ni3 := C3.ni
      clear Fc Nc
      simp only [List.cons_append, List.nil_append] at N3
      (repeat' (first | ((with_reducible show wpAny _ _ (exec _ _) _ _ _); k_fold) | (with_reducible first | refine Jq0 ?_ | refine Jq1 ?_ | refine Jq2 ?_ | refine Jq3 ?_ | refine Jq4 ?_) | (k_unfold; (try dsimp only)) | (k_end; wrow_close) | walk1 | (dsimp only; walk1) | (leave1; walk_say "STEP leave1"; try dsimp only) | fail "no step"))
      rename Fr _ _ _ _ => Fc
      rename News _ _ _ _ => Nc
      rename IsRange _ _ _ _ _ _ _ _ => Rc
      have up3 := lives hsub Fc (Nc (c, _) (by fail "JMEM")).1 (Nc (i, _) (by fail "JMEM")).1
      refine range_assign (base := base) (outer := l) (hc := s.heap) (S₀ := [c]) (Hz := fun _ => False)
        (fun _ ys news => ∃ o1' co' i' oi' ms, news = (L' + 1, o1') :: (c, co') :: (i', oi') :: (i, oi) :: [] ∧ o1'.data = .cell (some (.ref c)) ∧ CellObj co' i' oi' ∧ base.get? i' = none ∧ IntsAre ys ms ∧ ∀ k ∈ ms, 0 ≤ k ∧ k ≤ 65535)
        (by decide) (by rfl) (by rfl) (by rfl) (by rfl) rfl (by simp only [Around.deeper, B.stack]; rfl) rfl rfl (base_L B Fc) FR G.hand Rc (small_one (by decide) (by decide) (by (first | exact q440 (by assumption) (by assumption) | omega)) (by (first | exact q441 (by assumption) (by assumption) | omega))) (n := r4.toNat) (by rw [rangeSize_nat, Int.sub_zero]) (by rw [PySem.sizeLine_eq]; (first | exact q442 (by assumption) (by assumption) | omega)) Fc Nc up3 ⟨_, _, _, _, [], rfl, by assumption, O3, ni3, .nil, fun _ m => nomatch m⟩ ?_ ?_ ?_
      · intro i0 tv I oI Cc oC D m₂ ys _ h tk hi0 hy z0_ hoC hm₂ F N off ne
        refine via fun G_ hG_ => ?_
        obtain ⟨o1', co', i', oi', ms, rfl, d1', O', ni', hI', hb'⟩ := z0_
        refine hG_ ?_
        clear hG_ G_
        clear Fc Nc Rc
        refine wpAny_tests_nil ?_
        rw [if_pos rfl]
        (repeat' (first | ((with_reducible show wpAny _ _ (exec _ _) _ _ _); k_fold) | (with_reducible first | refine Jq5 ?_ | refine Jq0 ?_ | refine Jq1 ?_ | refine Jq2 ?_ | refine Jq7 ?_ | refine Jq3 ?_ | refine Jq4 ?_ | refine Jq8 ?_ | refine Jq9 ?_ | refine Jq10 ?_ | refine Jq11 ?_ | refine Jq12 ?_) | (k_unfold; (try dsimp only)) | (k_end; wrow_close) | walk1 | (dsimp only; walk1) | (leave1; walk_say "STEP leave1"; try dsimp only) | fail "no step"))
        unfold Hold
        rename Fr _ _ _ _ => Fc
        rename News _ _ _ _ => Nc
        have oc := Off3.mem off (c, _) (by fail "JMEM")
        have oi1 := Off3.mem off (i', _) (by fail "JMEM")
        refine take_spec (c := c) (i := i') (G.inside B FR Fc rfl rfl) (by simp only [depth_deeper, recursionLimit]; (first | exact q408 (by assumption) | omega)) (by have hcL9 := cLine_is; simp only [units_deeper]; (first | exact q409 (by assumption) (by assumption) | omega)) (cells_back O' nc ni' (Nc (c, _) (by fail "JMEM")).1 (Nc (i', _) (by fail "JMEM")).1) (by (first | exact q414 | omega)) (by (first | exact q415 | omega)) fun r5 tr5 h5 tk5 i5 hr5 hr5' ex5 C5 hi5 => ?_
        refine via fun G_ hG_ => ?_
        obtain ⟨co5, oi5, O5, F5, N5, sep5⟩ := cells_fwd (pre := [_, _, _, _]) (post := [(i, oi)]) Fc Nc ex5 C5 hi5 (by
          intro p hp
          simp only [List.mem_cons, List.not_mem_nil, or_false] at hp
          rcases hp with rfl | rfl | rfl | rfl
          · exact Ne.symm oc.1
          · exact Ne.symm oc.2.1
          · exact Ne.symm oc.2.2
          · exact hpr _ _ (.head _)) hpo hcL
        refine hG_ ?_
        clear hG_ G_
        refine ⟨_, _, _, rfl, F5, N5, ⟨off.1, off.2.1, ⟨?_, ?_, ?_⟩, off.2.2.2⟩, ⟨o1', co5, i5, oi5, ms ++ [r5], rfl, d1', O5, C5.ni, ints_snoc hI' _ _, fun k hk => ?_⟩⟩
        · exact Ne.symm (sep5 I _ (Nc (I, _) (.head _)).1 (Ne.symm oi1.1))
        · exact Ne.symm (sep5 Cc _ (Nc (Cc, _) (.tail _ (.head _))).1 (Ne.symm oi1.2.1))
        · exact Ne.symm (sep5 D _ (Nc (D, _) (.tail _ (.tail _ (.head _)))).1 (Ne.symm oi1.2.2))
        · rcases List.mem_append.mp hk with hk | hk
          · exact hb' k hk
          · rw [List.mem_singleton.mp hk]; (first | exact q443 (by assumption) (by assumption) | omega)
      · intro e z h' tk' hz
        exact hz.elim
      · intro D h tk ys _ F N o1 hlen z0_
        refine via fun G_ hG_ => ?_
        obtain ⟨o1', co', i', oi', ms, rfl, d1', O', ni', hI', hb'⟩ := z0_
        refine hG_ ?_
        clear hG_ G_
        clear Fc Nc Rc
        (repeat' (first | ((with_reducible show wpAny _ _ (exec _ _) _ _ _); k_fold) | (with_reducible first | refine Jq5 ?_ | refine Jq0 ?_ | refine Jq1 ?_ | refine Jq2 ?_ | refine Jq7 ?_ | refine Jq3 ?_ | refine Jq4 ?_ | refine Jq8 ?_ | refine Jq9 ?_ | refine Jq10 ?_ | refine Jq11 ?_ | refine Jq12 ?_) | (k_unfold; (try dsimp only)) | (k_end; wrow_close) | walk1 | (dsimp only; walk1) | (leave1; walk_say "STEP leave1"; try dsimp only) | fail "no step"))
        unfold Hold
        rename_i lm hM FM NM lM
        rename Fr _ _ _ _ => Fc
        rename News _ _ _ _ => Nc
        refine take_spec (c := c) (i := i') (G.inside B FR Fc rfl rfl) (by simp only [depth_deeper, recursionLimit]; (first | exact q408 (by assumption) | omega)) (by have hcL9 := cLine_is; simp only [units_deeper]; (first | exact q409 (by assumption) (by assumption) | omega)) (cells_back O' nc ni' (Nc (c, _) (by fail "JMEM")).1 (Nc (i', _) (by fail "JMEM")).1) (by (first | exact q414 | omega)) (by (first | exact q415 | omega)) fun r6 tr6 h6 tk6 i6 hr6 hr6' ex6 C6 hi6 => ?_
        refine via fun G_ hG_ => ?_
        obtain ⟨co6, oi6, O6, F6, N6, sep6⟩ := cells_fwd (pre := [_, _, _]) (post := [(i, oi)]) Fc Nc ex6 C6 hi6 (by
          intro p hp
          simp only [List.mem_cons, List.not_mem_nil, or_false] at hp
          rcases hp with rfl | rfl | rfl
          · exact Nat.ne_of_gt lM.2.2.1
          · exact Ne.symm o1.2.1
          · exact hpr _ _ (.head _)) hpo hcL
        refine hG_ ?_
        clear hG_ G_
        clear Fc Nc
        simp only [List.cons_append, List.nil_append] at N6
        (repeat' (first | ((with_reducible show wpAny _ _ (exec _ _) _ _ _); k_fold) | (with_reducible first | refine Jq5 ?_ | refine Jq0 ?_ | refine Jq1 ?_ | refine Jq2 ?_ | refine Jq7 ?_ | refine Jq3 ?_ | refine Jq4 ?_ | refine Jq8 ?_ | refine Jq9 ?_ | refine Jq10 ?_ | refine Jq11 ?_ | refine Jq12 ?_) | (k_unfold; (try dsimp only)) | (k_end; wrow_close) | walk1 | (dsimp only; walk1) | (leave1; walk_say "STEP leave1"; try dsimp only) | fail "no step"))
        unfold Hold
        refine comp_start (by with_unfolding_all rfl) (by rfl) (by decide) ?_
        (repeat' (first | ((with_reducible show wpAny _ _ (exec _ _) _ _ _); k_fold) | (with_reducible first | refine Jq5 ?_ | refine Jq0 ?_ | refine Jq1 ?_ | refine Jq2 ?_ | refine Jq7 ?_ | refine Jq3 ?_ | refine Jq4 ?_ | refine Jq8 ?_ | refine Jq9 ?_ | refine Jq10 ?_ | refine Jq11 ?_ | refine Jq12 ?_) | (k_unfold; (try dsimp only)) | (k_end; wrow_close) | walk1 | (dsimp only; walk1) | (leave1; walk_say "STEP leave1"; try dsimp only) | fail "no step"))
        rename Fr _ _ _ _ => Fc
        rename News _ _ _ _ => Nc
        refine via fun G_ hG_ => ?_
        obtain ⟨nw0, e0, N0⟩ := news_nw Nc
        refine hG_ ?_
        clear hG_ G_
        have mD : (D, lst ys) ∈ nw0 := by rw [e0]; exact (by fail "JMEM")
        have mL : (L' + 1, o1') ∈ nw0 := by rw [e0]; exact (by fail "JMEM")
        refine list_block (base := base) (outer := l) (hc := s.heap) (S₀ := [c]) (Hz := fun _ => False) (its := ys.toArray)
          (fun j zs news => ∃ fro, news = nw0 ++ fro ∧ FldIn zs ((ms.take j).map fun k => (Str.ofString "class", k)) fro ∧ ∀ p ∈ fro, LT.lt (α := Nat) (L' + 1) p.1)
          (by decide) (by rfl) (by rfl) (by simp only [Around.deeper, B.stack]; rfl) rfl rfl (base_L B Fc) FR G.hand ?_ (by rw [PySem.sizeLine_eq, List.size_toArray]; omega) Fc (by rw [List.append_nil]; exact N0) (lives hsub Fc (Nc (c, _) (by fail "JMEM")).1 (Nc (i, _) (by fail "JMEM")).1) ⟨[], rfl, .nil, fun _ m => nomatch m⟩ ?_ ?_ ?_
        · intro j zs _ z0_
          refine via fun G_ hG_ => ?_
          obtain ⟨fro, rfl, _⟩ := z0_
          refine hG_ ?_
          clear hG_ G_
          exact .inr ⟨_, List.mem_append_left _ mD, rfl, _, rfl⟩
        · intro j v I oI Cc oC D2 m₂ zs _ h tk hv hy z0_ hoC hm₂ F N off ne
          refine via fun G_ hG_ => ?_
          obtain ⟨fro, rfl, P, lt⟩ := z0_
          refine hG_ ?_
          clear hG_ G_
          clear Fc Nc N0
          obtain ⟨t9, e⟩ := hI'.int_at j v (by simpa using hv)
          have hk : ms[j]? = some (ms.getD j 0) := by
            have : j < ms.length := by have := (Array.getElem?_eq_some_iff.mp hv).1; have := hI'.length; simp at *; (first | exact q133 (by assumption) (by assumption) | omega)
            simp [List.getD, this]
          subst e
          refine wpAny_tests_nil ?_
          rw [if_pos rfl]
          (repeat' (first | ((with_reducible show wpAny _ _ (exec _ _) _ _ _); k_fold) | (with_reducible first | refine Jq5 ?_ | refine Jq0 ?_ | refine Jq1 ?_ | refine Jq2 ?_ | refine Jq7 ?_ | refine Jq3 ?_ | refine Jq4 ?_ | refine Jq8 ?_ | refine Jq9 ?_ | refine Jq10 ?_ | refine Jq11 ?_ | refine Jq12 ?_) | (k_unfold; (try dsimp only)) | (k_end; wrow_close) | walk1 | (dsimp only; walk1) | (leave1; walk_say "STEP leave1"; try dsimp only) | fail "no step"))
          rename (_ ∧ _ ∧ _ ∧ AllLt _ _) => lts
          rename Fr _ _ _ _ => Fe
          rename News _ _ _ _ => Ne
          refine ⟨_, _, _, rfl, Fe, news_mid (pre := _ :: _ :: _ :: nw0) Ne, off3_mid off ⟨Nat.ne_of_gt lts.1, Nat.ne_of_gt lts.2.1, Nat.ne_of_gt lts.2.2.1⟩, _, rfl, ?_, fun p hp => ?_⟩
          · rw [take_succ_of hk, List.map_append]
            exact fld_snoc P
          · rcases List.mem_cons.mp hp with rfl | hp
            · exact kst_ltOf lts.2.2.2 (L' + 1, _) (List.mem_append_left _ mL)
            · exact lt p hp
        · intro e z h' tk' hz
          exact hz.elim
        · intro D2 h tk zs _ F N o2 hlen2 z0_
          refine via fun G_ hG_ => ?_
          obtain ⟨fro, rfl, P, lt⟩ := z0_
          refine hG_ ?_
          clear hG_ G_
          clear Fc Nc N0
          subst e0
          simp only [List.cons_append, List.nil_append] at N
          (repeat' (first | ((with_reducible show wpAny _ _ (exec _ _) _ _ _); k_fold) | (with_reducible first | refine Jq5 ?_ | refine Jq0 ?_ | refine Jq1 ?_ | refine Jq2 ?_ | refine Jq7 ?_ | refine Jq3 ?_ | refine Jq4 ?_ | refine Jq8 ?_ | refine Jq9 ?_ | refine Jq10 ?_ | refine Jq11 ?_ | refine Jq12 ?_) | (k_unfold; (try dsimp only)) | (k_end; wrow_close) | walk1 | (dsimp only; walk1) | (leave1; walk_say "STEP leave1"; try dsimp only) | fail "no step"))
          rename Fr _ _ _ _ => Fz
          rename News _ _ _ _ => Nz
          rename_i T1 hT1 l1 T2 hT2 l2 T3 hT3 l3 B1 hB1 lB1 hz
          have hnew : ∀ b, LT.lt (α := Nat) L' b → s.heap.get? b = none := fun b q => Heap.get?_none_of_le (by rw [← hL]; exact Nat.le_of_lt q)
          have hup : ∀ b, LT.lt (α := Nat) (L' + 1) b → LT.lt (α := Nat) L' b := fun b q => Nat.lt_of_succ_lt q
          have hyl : ys.length ≤ 6 := by omega
          have hml := hI'.length
          have hbg : ∀ n : Nat, n < 4 → 0 ≤ ([0, 3, 65530, 65534] : List Int).getD n 0 ∧ ([0, 3, 65530, 65534] : List Int).getD n 0 ≤ 65535 := by decide
          refine ret _ _ _ i6 ((Str.ofString "form", 1) :: (Str.ofString "begin", ([0, 3, 65530, 65534] : List Int).getD r6.toNat 0) :: (Str.ofString "count", (ys.toArray.size : Int)) :: (ms.take ys.toArray.size).map fun k => (Str.ofString "class", k)) ?_ (fld_ext hsub Fz hi (Nz (i, _) (by fail "JMEM")).1) (cells_back O6 nc C6.ni (Nz (c, _) (by fail "JMEM")).1 (Nz (i6, _) (by fail "JMEM")).1) (fld_i hsub (Nz (i6, _) (by fail "JMEM")).2.2 (cellobj_ne O6 (Nz (c, _) (by fail "JMEM")).1 (Nz (i6, _) (by fail "JMEM")).1))
            ⟨hnew _ F.ns.lt, _, _, (Nz _ (.head _)).1, .cons ⟨(Nz (T1, _) (by fail "JMEM")).1, hnew _ (hup _ l1.2.2.1)⟩ (.cons ⟨(Nz (T2, _) (by fail "JMEM")).1, hnew _ (hup _ l2.2.2.2.1)⟩ (.cons ⟨(Nz (T3, _) (by fail "JMEM")).1, hnew _ (hup _ l3.2.2.2.2.1)⟩ (P.mono fun T o hp => ⟨(Nz (T, o) ?_).1, hnew _ (hup _ (lt _ hp))⟩)))⟩
          · refine ⟨by simp, by simp only [List.length_cons, List.length_map, List.length_take]; (first | exact q447 (by assumption) (by assumption) | omega), fun f hf => ?_⟩
            rcases List.mem_cons.mp hf with rfl | hf
            · exact ⟨by decide, by decide⟩
            rcases List.mem_cons.mp hf with rfl | hf
            · exact hbg _ (by (first | exact q420 (by assumption) (by assumption) | omega))
            rcases List.mem_cons.mp hf with rfl | hf
            · simp only [List.size_toArray]; (first | exact q448 (by assumption) (by assumption) | omega)
            · refine via fun G_ hG_ => ?_
              obtain ⟨k, hk, rfl⟩ := List.mem_map.mp hf
              refine hG_ ?_
              clear hG_ G_
              exact hb' k (List.mem_of_mem_take hk)
          · repeat' (first | exact hp | refine .tail _ ?_)
end
section
open PyProof.Rows.LCg PyProof.V


local macro_rules | `(tactic| walk_at "call builtin:len") => `(tactic| (refine len_list (News.isList (by assumption) (by fail "JMEM")) (by simp only [List.size_toArray]; omega) ?_))
local macro_rules | `(tactic| walk_at "call builtin:min") => `(tactic| ((with_reducible show wpAny _ _ (call (Value.builtin _) [Value.int _ _, Value.int _ _]) _ _ _); (rename Gnd _ _ _ _ _ _ _ => Gx); (rename News _ _ _ _ => N'); (rename Fr _ _ _ _ => F'); refine min_two_N Gx.hand F' N' (fun _ _ _ _ => ?_); clear N' F'))
theorem kdone0 {x : Str} {m₀ m₁ : Str → Option Value} {v : Value} (h : Keeps x [] m₀ m₁) (e : m₁ x = some v) : m₁ = fun z => if z = x then some v else m₀ z := by
  funext z
  by_cases h0 : z = x
  · subst h0; simp [e]
  simp only [h0, if_false]
  exact h z h0 (by simp)
section
variable {prog : Program} {w : World} {A : Around} {E : Value → Shared → Prop} {s : Shared} {h₀ : Heap} {L : Addr} {m : Str → Option Value} {news : List (Addr × Obj)}
theorem slice_N {value slice : Expr} {D : Addr} {its : Array Value} {vl vu : Value} {lo hi : Option Int} {Q : Value → Shared → Prop} (F : Fr h₀ L s.heap m) (N : News h₀ L s.heap news)
    (hl : s.heap.IsList D its) (pl : IsPart vl lo) (pu : IsPart vu hi) (hsz : its.size ≤ sizeLine)
    (hs : subscripted slice false (.ref D) (.ref s.heap.objs.size) = operate [.ref s.heap.objs.size, .ref D] (getItem (.ref D) (.ref s.heap.objs.size)))
    (ht : ∀ r, letTemporaryGo value (.ref D) r = pure ())
    (h : ∀ B h', Fr h₀ L h' m → News h₀ L h' ((B, listOf (slicePick its lo hi none) 0) :: news) → (∀ q ∈ news, LT.lt (α := Nat) q.1 B) → LT.lt (α := Nat) L B → Q (.ref B) { s with heap := h' }) :
    wpAny (model prog w) A (subscriptTail value slice (.ref D) (.ref s.heap.objs.size)) Q E { s with heap := s.heap.push { cls := .type "slice", data := .fields #[vl, vu, .none] } } := by
  refine slice_listK hl pl pu ?_ hs ht hsz
  have N2 := News.push (F.push { cls := .type "slice", data := .fields #[vl, vu, .none] }) (News.push F N { cls := .type "slice", data := .fields #[vl, vu, .none] }) { cls := .type "list", data := .seq (slicePick its lo hi none) }
  rw [Heap.size_push] at N2
  refine h _ _ ((F.push _).push _) (fun p hp => N2 p ?_) (fun q hq => Nat.lt_succ_of_lt (Heap.lt_size (N q hq).1)) (Nat.lt_succ_of_lt F.ns.lt)
  rcases List.mem_cons.mp hp with rfl | hp
  · exact .head _
  · exact .tail _ (.tail _ hp)
end
/-- the list of fields D with its tuples, each of which Old holds -/
noncomputable def FldNow (Old : Addr → Prop) (h : Heap) (D : Addr) (fs : List (Str × Int)) : Prop :=
  Old D ∧ ∃ ys n, h.get? D = some ({ cls := .type "list", data := .seq (List.toArray ys) n } : Obj) ∧ FldP ys fs fun T o => h.get? T = some o ∧ Old T
theorem FldP.take {ys : List Value} {fs : List (Str × Int)} {G : Addr → Obj → Prop} (P : FldP ys fs G) (k : Nat) : FldP (ys.take k) (fs.take k) G :=
  ⟨by simp [P.1], fun j p h => by
    rw [List.getElem?_take] at h
    split at h
    · refine via fun G_ hG_ => ?_
      obtain ⟨T, t1, t2, a, b⟩ := P.2 j p h
      refine hG_ ?_
      clear hG_ G_
      exact ⟨T, t1, t2, by rw [List.getElem?_take, if_pos (by assumption)]; exact a, b⟩
    · cases h⟩
theorem FldP.drop {ys : List Value} {fs : List (Str × Int)} {G : Addr → Obj → Prop} (P : FldP ys fs G) (k : Nat) : FldP (ys.drop k) (fs.drop k) G :=
  ⟨by simp [P.1], fun j p h => by
    rw [List.getElem?_drop] at h
    refine via fun G_ hG_ => ?_
    obtain ⟨T, t1, t2, a, b⟩ := P.2 _ p h
    refine hG_ ?_
    clear hG_ G_
    exact ⟨T, t1, t2, by rw [List.getElem?_drop]; exact a, b⟩⟩
theorem fld_keeps {h g : Heap} {c i D : Addr} {co oi : Obj} {Old : Addr → Prop} {fs : List (Str × Int)} {ys : List Value} {n : Nat} (O : CellObj co i oi) (hc : h.get? c = some co) (hi : h.get? i = some oi) (fo : 1 ≤ fs.length) (hD : h.get? D = some ({ cls := .type "list", data := .seq (List.toArray ys) n } : Obj))
    (P : FldP ys fs fun T o => h.get? T = some o ∧ Old T) (hsub : ∀ b o, h.get? b = some o → b ∉ List.map (·.1) [(c, co), (i, oi)] → g.get? b = some o) :
    g.get? D = some (listOf (List.toArray ys) n) ∧ FldP ys fs fun T o => g.get? T = some o ∧ h.get? T = some o ∧ Old T := by
  refine via fun G_ hG_ => ?_
  obtain ⟨n', st, tk, vs, ns, k, rfl, rfl, hI, _⟩ := O
  refine hG_ ?_
  clear hG_ G_
  have one : ∀ b o, h.get? b = some o → b ≠ c → b ≠ i → g.get? b = some o := fun b o e n1 n2 => hsub b o e (by simp only [List.map_cons, List.map_nil, List.mem_cons, List.not_mem_nil, or_false, not_or]; exact ⟨n1, n2⟩)
  have tup : ∀ b sl, h.get? b = some ({ cls := .type "tuple", data := sl } : Obj) → g.get? b = some { cls := .type "tuple", data := sl } := fun b sl e => one b _ e
    (fun q => by rw [q, hc] at e; injection e with e; injection e with e; injection e with e; exact absurd e (by decide))
    (fun q => by rw [q, hi] at e; injection e with e; injection e with e; injection e with e; exact absurd e (by decide))
  refine ⟨one D _ hD ?_ ?_, P.1, fun j f hj => ?_⟩
  · intro q
    rw [q, hc] at hD
    injection hD with hD
    injection hD with _ _ hD
    injection hD with hD _
    have hD : ([.ref i, .int st tk] : List Value) = ys := by simpa using hD
    subst hD
    have hl := P.1
    obtain ⟨T, t1, t2, a, b⟩ := P.2 1 (fs[1]'(by rw [← hl]; simp)) (List.getElem?_eq_getElem _)
    simp at a
  · intro q
    rw [q, hi] at hD
    injection hD with hD
    injection hD with _ _ hD
    injection hD with hD _
    have hD : vs = ys := by simpa using hD
    subst hD
    refine via fun G_ hG_ => ?_
    obtain ⟨T, t1, t2, a, b⟩ := P.2 0 (fs[0]'(by (first | exact q449 (by assumption) | omega))) (List.getElem?_eq_getElem _)
    refine hG_ ?_
    clear hG_ G_
    obtain ⟨t, e⟩ := hI.int_at 0 _ a
    cases e
  · refine via fun G_ hG_ => ?_
    obtain ⟨T, t1, t2, a, b⟩ := P.2 j f hj
    refine hG_ ?_
    clear hG_ G_
    exact ⟨T, t1, t2, a, tup _ _ b.1, b⟩
theorem turned_spec {w : World} {mean : ExcName → Option Value} {mg mb : Str → Option Value} {base : Heap} {A : Around} {E : Value → Shared → Prop} {s : Shared} {c i D : Addr} {Old : Addr → Prop} {fs : List (Str × Int)} {Q : Value → Shared → Prop} (G : Gnd w mean mg mb base A s.heap) (hroom : A.depth ≤ 560) (hun : A.units ≤ 6600) (C : CellsAt base c i s.heap) (fo : FldOk fs) (FN : FldNow Old s.heap D fs)
    (ret : ∀ D2 h' tk i' fs2, FldOk fs2 → Ext [c] s.heap h' → CellsAt base c i' h' → (i' = i ∨ s.heap.get? i' = none) → FldNow (fun b => Old b ∨ s.heap.get? b = none) h' D2 fs2 → Q (.ref D2) { s with heap := h', toks := tk }) :
    wpAny (model PySem.Challenge.rw_pb0173_01.row.prog w) A (call (.ref 255) [.ref c, .ref D]) Q E s := by
  refine via fun G_ hG_ => ?_
  obtain ⟨co, oi, O, hc, hi⟩ := cells_obj C
  refine hG_ ?_
  clear hG_ G_
  have nc := C.nc
  have ni := C.ni
  have hic := cellobj_ne O hc hi
  have hdl := cellobj_list O
  refine via fun G_ hG_ => ?_
  obtain ⟨oD, ys, n, hD, P⟩ := FN
  refine hG_ ?_
  clear hG_ G_
  have hys : ys.length ≤ 14 := by rw [P.1]; exact fo.2.1
  refine wpAny_call ?_
  k_dflt (refine' enter (news := [(c, co), (i, oi)]) G ?hn ?ho ?hcd ?hroom ?hbind ?hloc ?_ ?q1 ?q2 ?q3 ?q4; (case ho => k_is); (case hcd => k_is); (case hroom => first | (simp only [recursionLimit]; (first | exact q46 (by assumption) | omega)) | omega | assumption); (case hbind => exact BindsTo.of_eq rfl); (case hloc => exact locs rfl); (case q1 => rfl); (case q2 => rfl); (case q3 => rfl); (case q4 => decide))
  case hn => exact two_mem ⟨hc, nc, G.notFr hc hdl.1⟩ ⟨hi, ni, G.notFr hi hdl.2⟩
  intro g L' h₁ l hsub hsup hL F N B X T FR
  try dsimp only
  obtain ⟨gD, gP⟩ := fld_keeps O hc hi fo.1 hD P hsub
  have N : News g L' h₁ ((c, co) :: (i, oi) :: (i, oi) :: []) := fun p hp => N p (by
    rcases List.mem_cons.mp hp with rfl | hp
    · exact .head _
    · rcases List.mem_cons.mp hp with rfl | hp
      · exact .tail _ (.head _)
      · exact .tail _ hp)
  have lc : LT.lt (α := Nat) c L' := by rw [hL]; exact Heap.lt_size hc
  have hcL : L' ≠ c := Nat.ne_of_gt lc
  have hpo : ∀ p ∈ [(i, oi)], p.1 ≠ c := fun p hp => by rw [List.mem_singleton.mp hp]; exact hic
  (repeat' (first | ((with_reducible show wpAny _ _ (exec _ _) _ _ _); k_fold) | (with_reducible first | refine Jq5 ?_ | refine Jq6 ?_ | refine Jq0 ?_ | refine Jq1 ?_ | refine Jq2 ?_ | refine Jq7 ?_ | refine Jq3 ?_ | refine Jq4 ?_ | refine Jq8 ?_ | refine Jq9 ?_ | refine Jq10 ?_ | refine Jq11 ?_ | refine Jq12 ?_) | (k_unfold; (try dsimp only)) | (k_end; wrow_close) | walk1 | (dsimp only; walk1) | (leave1; walk_say "STEP leave1"; try dsimp only) | fail "no step"))
  unfold Hold
  rename Fr _ _ _ _ => Fc
  rename News _ _ _ _ => Nc
  refine take_spec (c := c) (i := i) (G.inside B FR Fc rfl rfl) (by simp only [depth_deeper, recursionLimit]; (first | exact q408 (by assumption) | omega)) (by have hcL9 := cLine_is; simp only [units_deeper]; (first | exact q409 (by assumption) (by assumption) | omega)) (cells_back O nc ni (Nc (c, _) (by fail "JMEM")).1 (Nc (i, _) (by fail "JMEM")).1) (by (first | exact q412 | omega)) (by (first | exact q413 | omega)) fun r1 tr1 h2 tk2 i2 hr1 hr1' ex2 C2 hi2 => ?_
  refine via fun G_ hG_ => ?_
  obtain ⟨co2, oi2, O2, F2, N2, sep2⟩ := cells_fwd (pre := []) (post := [(i, oi)]) Fc Nc ex2 C2 hi2 (fun _ m => nomatch m) hpo hcL
  refine hG_ ?_
  clear hG_ G_
  clear Fc Nc
  simp only [List.cons_append, List.nil_append] at N2
  (repeat' (first | ((with_reducible show wpAny _ _ (exec _ _) _ _ _); k_fold) | (with_reducible first | refine Jq5 ?_ | refine Jq0 ?_ | refine Jq1 ?_ | refine Jq2 ?_ | refine Jq7 ?_ | refine Jq3 ?_ | refine Jq4 ?_ | refine Jq8 ?_ | refine Jq9 ?_ | refine Jq10 ?_ | refine Jq11 ?_ | refine Jq12 ?_) | (k_unfold; (try dsimp only)) | (k_end; wrow_close) | walk1 | (dsimp only; walk1) | (leave1; walk_say "STEP leave1"; try dsimp only) | fail "no step"))
  · try dsimp only
    exact ret D _ _ i2 fs fo (fld_ext hsub F2 hi (N2 (i, _) (by fail "JMEM")).1) (cells_back O2 nc C2.ni (N2 (c, _) (by fail "JMEM")).1 (N2 (i2, _) (by fail "JMEM")).1) (fld_i hsub (N2 (i2, _) (by fail "JMEM")).2.2 (cellobj_ne O2 (N2 (c, _) (by fail "JMEM")).1 (N2 (i2, _) (by fail "JMEM")).1)) ⟨.inl oD, ys, n, F2.keep _ _ gD, gP.mono fun T o z => ⟨F2.keep _ _ z.1, .inl z.2.2⟩⟩
  rename Fr _ _ _ _ => Fc
  rename News _ _ _ _ => Nc
  refine len_list (items := ys.toArray) ⟨_, Fc.keep _ _ gD, rfl, _, rfl⟩ (by simp only [List.size_toArray]; (first | exact q450 (by assumption) | omega)) ?_
  (repeat' (first | ((with_reducible show wpAny _ _ (exec _ _) _ _ _); k_fold) | (with_reducible first | refine Jq5 ?_ | refine Jq0 ?_ | refine Jq1 ?_ | refine Jq2 ?_ | refine Jq7 ?_ | refine Jq3 ?_ | refine Jq4 ?_ | refine Jq8 ?_ | refine Jq9 ?_ | refine Jq10 ?_ | refine Jq11 ?_ | refine Jq12 ?_) | (k_unfold; (try dsimp only)) | (k_end; wrow_close) | walk1 | (dsimp only; walk1) | (leave1; walk_say "STEP leave1"; try dsimp only) | fail "no step"))
  unfold Hold
  have hy1 : 1 ≤ ys.length := by rw [P.1]; exact fo.1
  have hysz : ys.toArray.size = ys.length := List.size_toArray
  refine take_spec (c := c) (i := i2) (G.inside B FR Fc rfl rfl) (by simp only [depth_deeper, recursionLimit]; (first | exact q408 (by assumption) | omega)) (by have hcL9 := cLine_is; simp only [units_deeper]; (first | exact q409 (by assumption) (by assumption) | omega)) (cells_back O2 nc C2.ni (Nc (c, _) (by fail "JMEM")).1 (Nc (i2, _) (by fail "JMEM")).1) (by (first | exact q451 (by assumption) (by assumption) (by assumption) | omega)) (by (first | exact q452 (by assumption) (by assumption) (by assumption) | omega)) fun r3 tr3 h3 tk3 i3 hr3 hr3' ex3 C3 hi3 => ?_
  refine via fun G_ hG_ => ?_
  obtain ⟨co3, oi3, O3, F3, N3, sep3⟩ := cells_fwd (pre := []) (post := [(i, oi)]) Fc Nc ex3 C3 hi3 (fun _ m => nomatch m) hpo hcL
  refine hG_ ?_
  clear hG_ G_
  clear Fc Nc
  simp only [List.cons_append, List.nil_append] at N3
  (repeat' (first | ((with_reducible show wpAny _ _ (exec _ _) _ _ _); k_fold) | (with_reducible first | refine Jq5 ?_ | refine Jq0 ?_ | refine Jq1 ?_ | refine Jq2 ?_ | refine Jq7 ?_ | refine Jq3 ?_ | refine Jq4 ?_ | refine Jq8 ?_ | refine Jq9 ?_ | refine Jq10 ?_ | refine Jq11 ?_ | refine Jq12 ?_) | (k_unfold; (try dsimp only)) | (k_end; wrow_close) | walk1 | (dsimp only; walk1) | (leave1; walk_say "STEP leave1"; try dsimp only) | fail "no step"))
  rename Fr _ _ _ _ => Fc
  rename News _ _ _ _ => Nc
  have hrn : r3.toNat < fs.length := by rw [← P.1]; (first | exact q453 (by assumption) (by assumption) (by assumption) | omega)
  refine via fun G_ hG_ => ?_
  obtain ⟨⟨wd, num⟩, hf⟩ : ∃ f, fs[r3.toNat]? = some f := ⟨_, List.getElem?_eq_getElem hrn⟩
  refine hG_ ?_
  clear hG_ G_
  have hfb := fo.2.2 _ (List.mem_of_getElem? hf)
  dsimp only at hfb
  refine via fun G_ hG_ => ?_
  obtain ⟨T, t1, t2, hyT, gT, hT, oT⟩ := gP.2 _ _ hf
  refine hG_ ?_
  clear hG_ G_
  dsimp only at gT hT
  refine item_list (items := ys.toArray) ⟨_, Fc.keep _ _ gD, rfl, _, rfl⟩ hr3 (by (first | exact q454 (by assumption) (by assumption) (by assumption) (by assumption) | omega)) (by simpa using hyT) ?_
  refine kcp_assign G.hand ⟨_, Fc.keep _ _ gT, rfl, _, rfl⟩ rfl rfl rfl Fc.ns fun h4 tk4 hn4 kp4 => ?_
  have F4 : Fr g L' h4 _ := ⟨hn4, fun b o e => kp4 b o (fun q => nomatch (((Heap.get?_none_of_le Fc.above).symm.trans (congrArg g.get? q).symm).trans e)) (Fc.keep b o e), Fc.above⟩
  have N4 : News g L' h4 _ := fun p hp => ⟨kp4 _ _ (Nc p hp).2.1 (Nc p hp).1, (Nc p hp).2⟩
  clear Fc Nc
  (repeat' (first | ((with_reducible show wpAny _ _ (exec _ _) _ _ _); k_fold) | (with_reducible first | refine Jq5 ?_ | refine Jq0 ?_ | refine Jq1 ?_ | refine Jq2 ?_ | refine Jq7 ?_ | refine Jq3 ?_ | refine Jq4 ?_ | refine Jq8 ?_ | refine Jq9 ?_ | refine Jq10 ?_ | refine Jq11 ?_ | refine Jq12 ?_) | (k_unfold; (try dsimp only)) | (k_end; wrow_close) | walk1 | (dsimp only; walk1) | (leave1; walk_say "STEP leave1"; try dsimp only) | fail "no step"))
  unfold Hold
  rename_i lm hM FM NM lM
  rename Fr _ _ _ _ => Fc
  rename News _ _ _ _ => Nc
  refine take_spec (c := c) (i := i3) (G.inside B FR Fc rfl rfl) (by simp only [depth_deeper, recursionLimit]; (first | exact q408 (by assumption) | omega)) (by have hcL9 := cLine_is; simp only [units_deeper]; (first | exact q409 (by assumption) (by assumption) | omega)) (cells_back O3 nc C3.ni (Nc (c, _) (by fail "JMEM")).1 (Nc (i3, _) (by fail "JMEM")).1) (by (first | exact q455 | omega)) (by (first | exact q456 | omega)) fun r5 tr5 h5 tk5 i5 hr5 hr5' ex5 C5 hi5 => ?_
  obtain ⟨co5, oi5, O5, F5, N5, sep5⟩ := cells_fwd (pre := [_]) (post := [(i, oi)]) Fc Nc ex5 C5 hi5 (fun p hp => by rw [List.mem_singleton.mp hp]; exact Nat.ne_of_gt lM.1) hpo hcL
  clear Fc Nc
  simp only [List.cons_append, List.nil_append] at N5
  (repeat' (first | ((with_reducible show wpAny _ _ (exec _ _) _ _ _); k_fold) | (with_reducible first | refine Jq13 ?_ | refine Jq5 ?_ | refine Jq0 ?_ | refine Jq1 ?_ | refine Jq2 ?_ | refine Jq7 ?_ | refine Jq3 ?_ | refine Jq4 ?_ | refine Jq8 ?_ | refine Jq9 ?_ | refine Jq10 ?_ | refine Jq11 ?_ | refine Jq12 ?_) | (k_unfold; (try dsimp only)) | (k_end; wrow_close) | walk1 | (dsimp only; walk1) | (leave1; walk_say "STEP leave1"; try dsimp only) | fail "no step"))
  unfold Hold
  rename Fr _ _ _ _ => Fc
  rename News _ _ _ _ => Nc
  have N6 := news_sub (b := (c, co5) :: (i5, oi5) :: (i, oi) :: []) Nc (fun p hp => .tail _ hp)
  clear Nc
  refine midF Fc (Str.ofString "other") [] (fun h' m' => (∃ v t, m' (Str.ofString "other") = some (.int v t)) ∧ News g L' h' ((c, co5) :: (i5, oi5) :: (i, oi) :: [])) ?_ ?_
  · (repeat' (first | ((with_reducible show wpAny _ _ (exec _ _) _ _ _); k_fold) | (with_reducible first | refine Jq5 ?_ | refine Jq0 ?_ | refine Jq1 ?_ | refine Jq2 ?_ | refine Jq7 ?_ | refine Jq3 ?_ | refine Jq4 ?_ | refine Jq8 ?_ | refine Jq9 ?_ | refine Jq10 ?_ | refine Jq11 ?_ | refine Jq12 ?_) | (k_unfold; (try dsimp only)) | (k_end; wrow_close) | walk1 | (dsimp only; walk1) | (leave1; walk_say "STEP leave1"; try dsimp only) | fail "no step"))
    all_goals rename Fr _ _ _ _ => Fz
    all_goals rename News _ _ _ _ => Nz
    all_goals exact ⟨rfl, _, _, _, rfl, Fz, (by ((intro zK hK1 hK2; simp only [List.mem_cons, List.not_mem_nil, or_false, not_or] at hK2; simp only [hK1, hK2, if_false, ↓reduceIte]))), ⟨_, _, rfl⟩, Nz⟩
  intro h6 tk6 m6 F6 hkp6 z0_
  refine via fun G_ hG_ => ?_
  obtain ⟨⟨v6, t6, hm6⟩, N6⟩ := z0_
  refine hG_ ?_
  clear hG_ G_
  rw [kdone0 hkp6 hm6] at F6
  clear Fc
  (repeat' (first | ((with_reducible show wpAny _ _ (exec _ _) _ _ _); k_fold) | (with_reducible first | refine Jq13 ?_ | refine Jq5 ?_ | refine Jq0 ?_ | refine Jq1 ?_ | refine Jq2 ?_ | refine Jq7 ?_ | refine Jq3 ?_ | refine Jq4 ?_ | refine Jq8 ?_ | refine Jq9 ?_ | refine Jq10 ?_ | refine Jq11 ?_ | refine Jq12 ?_) | (k_unfold; (try dsimp only)) | (k_end; wrow_close) | walk1 | (dsimp only; walk1) | (leave1; walk_say "STEP leave1"; try dsimp only) | fail "no step"))
  unfold Hold
  rename Fr _ _ _ _ => Fc
  rename News _ _ _ _ => Nc
  refine midF Fc (Str.ofString "other") [] (fun h' m' => (∃ v t, m' (Str.ofString "other") = some (.int v t)) ∧ News g L' h' ((c, co5) :: (i5, oi5) :: (i, oi) :: [])) ?_ ?_
  · (repeat' (first | ((with_reducible show wpAny _ _ (exec _ _) _ _ _); k_fold) | (with_reducible first | refine Jq5 ?_ | refine Jq0 ?_ | refine Jq1 ?_ | refine Jq2 ?_ | refine Jq7 ?_ | refine Jq3 ?_ | refine Jq4 ?_ | refine Jq8 ?_ | refine Jq9 ?_ | refine Jq10 ?_ | refine Jq11 ?_ | refine Jq12 ?_) | (k_unfold; (try dsimp only)) | (k_end; wrow_close) | walk1 | (dsimp only; walk1) | (leave1; walk_say "STEP leave1"; try dsimp only) | fail "no step"))
    all_goals rename Fr _ _ _ _ => Fz
    all_goals rename News _ _ _ _ => Nz
    all_goals exact ⟨rfl, _, _, _, rfl, Fz, (by ((intro zK hK1 hK2; simp only [List.mem_cons, List.not_mem_nil, or_false, not_or] at hK2; simp only [hK1, hK2, if_false, ↓reduceIte]))), ⟨_, _, rfl⟩, Nz⟩
  intro h7 tk7 m7 F7 hkp7 z0_
  refine via fun G_ hG_ => ?_
  obtain ⟨⟨v7, t7, hm7⟩, N7⟩ := z0_
  refine hG_ ?_
  clear hG_ G_
  rw [kdone0 hkp7 hm7] at F7
  clear Fc Nc
  (repeat' (first | ((with_reducible show wpAny _ _ (exec _ _) _ _ _); k_fold) | (with_reducible first | refine Jq5 ?_ | refine Jq0 ?_ | refine Jq1 ?_ | refine Jq2 ?_ | refine Jq7 ?_ | refine Jq3 ?_ | refine Jq4 ?_ | refine Jq8 ?_ | refine Jq9 ?_ | refine Jq10 ?_ | refine Jq11 ?_ | refine Jq12 ?_) | (k_unfold; (try dsimp only)) | (k_end; wrow_close) | walk1 | (dsimp only; walk1) | (leave1; walk_say "STEP leave1"; try dsimp only) | fail "no step"))
  have e3 : r3 = ((r3.toNat : Nat) : Int) := (Int.toNat_of_nonneg hr3).symm
  have hr3n : r3.toNat < ys.length := by (first | exact q457 (by assumption) (by assumption) (by assumption) | omega)
  refine slice_N (its := ys.toArray) (lo := none) (hi := some r3) F7 N7 ⟨_, F7.keep _ _ gD, rfl, _, rfl⟩ .none (.int _ _) (by rw [PySem.sizeLine_eq, List.size_toArray]; (first | exact q458 (by assumption) (by assumption) (by assumption) | omega)) (by with_unfolding_all rfl) (by intro _; with_unfolding_all rfl) ?_
  intro S1 h8 F8 N8 lS1 lS1L
  have es1 : slicePick ys.toArray none (some r3) none = (ys.take r3.toNat).toArray := by
    have := slicePick_upto ys.toArray r3.toNat (by rw [List.size_toArray]; (first | exact q459 (by assumption) (by assumption) (by assumption) | omega))
    rw [Int.toNat_of_nonneg hr3] at this
    rw [this]
  rw [es1] at N8
  clear F7 N7
  have htk : (ys.take r3.toNat).length = r3.toNat := by rw [List.length_take]; (first | exact q460 (by assumption) (by assumption) (by assumption) | omega)
  (repeat' (first | ((with_reducible show wpAny _ _ (exec _ _) _ _ _); k_fold) | (with_reducible first | refine Jq5 ?_ | refine Jq0 ?_ | refine Jq1 ?_ | refine Jq2 ?_ | refine Jq7 ?_ | refine Jq3 ?_ | refine Jq4 ?_ | refine Jq8 ?_ | refine Jq9 ?_ | refine Jq10 ?_ | refine Jq11 ?_ | refine Jq12 ?_) | (k_unfold; (try dsimp only)) | (k_end; wrow_close) | walk1 | (dsimp only; walk1) | (leave1; walk_say "STEP leave1"; try dsimp only) | fail "no step"))
  rename Fr _ _ _ _ => Fc
  rename News _ _ _ _ => Nc
  rename_i T1 hT1 lT1 B1 hB1 FB NB lB hz
  have es2 : slicePick ys.toArray (some (r3 + 1)) none none = (ys.drop (r3.toNat + 1)).toArray := by
    have := slicePick_from ys.toArray (r3.toNat + 1) (by rw [List.size_toArray]; (first | exact q461 (by assumption) (by assumption) (by assumption) (by assumption) | omega))
    rw [show ((r3.toNat + 1 : Nat) : Int) = r3 + 1 from by (first | exact q462 (by assumption) | omega)] at this
    rw [this]
  refine slice_N (its := ys.toArray) (lo := some (r3 + 1)) (hi := none) Fc Nc ⟨_, Fc.keep _ _ gD, rfl, _, rfl⟩ (.int _ _) .none (by rw [PySem.sizeLine_eq, List.size_toArray]; (first | exact q458 (by assumption) (by assumption) (by assumption) | omega)) (by with_unfolding_all rfl) (by intro _; with_unfolding_all rfl) ?_
  intro S3 h9 F9 N9 lS3 lS3L
  rw [es2] at N9
  clear Fc Nc
  have hdr : (ys.drop (r3.toNat + 1)).length ≤ 14 := by rw [List.length_drop]; (first | exact q463 (by assumption) (by assumption) (by assumption) (by assumption) (by assumption) (by assumption) (by assumption) | omega)
  (repeat' (first | ((with_reducible show wpAny _ _ (exec _ _) _ _ _); k_fold) | (with_reducible first | refine Jq5 ?_ | refine Jq0 ?_ | refine Jq1 ?_ | refine Jq2 ?_ | refine Jq7 ?_ | refine Jq3 ?_ | refine Jq4 ?_ | refine Jq8 ?_ | refine Jq9 ?_ | refine Jq10 ?_ | refine Jq11 ?_ | refine Jq12 ?_) | (k_unfold; (try dsimp only)) | (k_end; wrow_close) | walk1 | (dsimp only; walk1) | (leave1; walk_say "STEP leave1"; try dsimp only) | fail "no step"))
  rename Fr _ _ _ _ => Fz
  rename News _ _ _ _ => Nz
  have hnew : ∀ b, LT.lt (α := Nat) L' b → s.heap.get? b = none := fun b q => Heap.get?_none_of_le (by rw [← hL]; exact Nat.le_of_lt q)
  have PP := gP.mono (G' := fun T o => _ ∧ (Old T ∨ s.heap.get? T = none)) fun T o z => ⟨Fz.keep _ _ z.1, .inl z.2.2⟩
  refine ret _ _ _ i5 ((fs.take r3.toNat ++ [(wd, v7.fmod 65536)]) ++ fs.drop (r3.toNat + 1)) ?_ (fld_ext hsub Fz hi (Nz (i, _) (by fail "JMEM")).1) (cells_back O5 nc C5.ni (Nz (c, _) (by fail "JMEM")).1 (Nz (i5, _) (by fail "JMEM")).1) (fld_i hsub (Nz (i5, _) (by fail "JMEM")).2.2 (cellobj_ne O5 (Nz (c, _) (by fail "JMEM")).1 (Nz (i5, _) (by fail "JMEM")).1))
    ⟨.inr (hnew _ F9.ns.lt), _, _, (Nz _ (.head _)).1, FldP.append (FldP.append (PP.take _) (.cons ⟨(Nz (T1, _) (by fail "JMEM")).1, .inr (hnew _ (Nat.lt_trans lS1L lT1.1))⟩ .nil)) (PP.drop _)⟩
  have f1 := fo.2.1
  refine ⟨by simp only [List.length_append, List.length_take, List.length_drop, List.length_singleton]; (first | exact q464 (by assumption) (by assumption) (by assumption) (by assumption) (by assumption) | omega), by simp only [List.length_append, List.length_take, List.length_drop, List.length_singleton]; (first | exact q465 (by assumption) (by assumption) (by assumption) | omega), fun f hf => ?_⟩
  rcases List.mem_append.mp hf with hf | hf
  · rcases List.mem_append.mp hf with hf | hf
    · exact fo.2.2 f (List.mem_of_mem_take hf)
    · rw [List.mem_singleton.mp hf]
      have b1 := fmod_lo v7 (show (0 : Int) < 65536 by decide)
      have b2 := fmod_hi v7 (show (0 : Int) < 65536 by decide)
      exact ⟨b1, by dsimp only; (first | exact q466 (by assumption) (by assumption) | omega)⟩
  · exact fo.2.2 f (List.mem_of_mem_drop hf)
end
section
open PyProof.Rows.LCg PyProof.V


theorem dear_spec {w : World} {mean : ExcName → Option Value} {mg mb : Str → Option Value} {base : Heap} {A : Around} {E : Value → Shared → Prop} {s : Shared} {D : Addr} {fs : List (Str × Int)} {Q : Value → Shared → Prop} (G : Gnd w mean mg mb base A s.heap) (hroom : A.depth ≤ 560) (hun : A.units ≤ 6600) (fo : FldOk fs) (FN : FldNow (fun _ => True) s.heap D fs)
    (ret : ∀ b h' tk, Ext [] s.heap h' → Q (.bool b) { s with heap := h', toks := tk }) :
    wpAny (model PySem.Challenge.rw_pb0173_01.row.prog w) A (call (.ref 269) [.ref D]) Q E s := by
  refine via fun G_ hG_ => ?_
  obtain ⟨_, ys, n, hD, P⟩ := FN
  refine hG_ ?_
  clear hG_ G_
  have hys : ys.length ≤ 14 := by rw [P.1]; exact fo.2.1
  have hy1 : 1 ≤ ys.length := by rw [P.1]; exact fo.1
  have hysz : ys.toArray.size = ys.length := List.size_toArray
  refine wpAny_call ?_
  k_dflt (refine' enter (news := []) G ?hn ?ho ?hcd ?hroom ?hbind ?hloc ?_ ?q1 ?q2 ?q3 ?q4; (case ho => k_is); (case hcd => k_is); (case hroom => first | (simp only [recursionLimit]; (first | exact q46 (by assumption) | omega)) | omega | assumption); (case hbind => exact BindsTo.of_eq rfl); (case hloc => exact locs rfl); (case q1 => rfl); (case q2 => rfl); (case q3 => rfl); (case q4 => decide))
  case hn => exact fun p m => nomatch m
  intro g L' h₁ l hsub hsup hL F N B X T FR
  try dsimp only
  have gD : g.get? D = some ({ cls := .type "list", data := .seq (List.toArray ys) n } : Obj) := hsub _ _ hD (fun m => nomatch m)
  have gP : FldP ys fs fun T o => g.get? T = some o := P.mono fun T o z => hsub _ _ z.1 (fun m => nomatch m)
  (repeat' (first | ((with_reducible show wpAny _ _ (exec _ _) _ _ _); k_fold) | (with_reducible first | refine Jq0 ?_ | refine Jq1 ?_ | refine Jq2 ?_ | refine Jq3 ?_ | refine Jq4 ?_) | (k_unfold; (try dsimp only)) | (k_end; wrow_close) | walk1 | (dsimp only; walk1) | (leave1; walk_say "STEP leave1"; try dsimp only) | fail "no step"))
  unfold Hold
  rename Fr _ _ _ _ => Fa
  refine For_invVF Fa (by rfl) (by rfl) ?_
  (repeat' (first | ((with_reducible show wpAny _ _ (exec _ _) _ _ _); k_fold) | (with_reducible first | refine Jq5 ?_ | refine Jq0 ?_ | refine Jq1 ?_ | refine Jq2 ?_ | refine Jq7 ?_ | refine Jq3 ?_ | refine Jq4 ?_ | refine Jq8 ?_ | refine Jq9 ?_ | refine Jq10 ?_ | refine Jq11 ?_ | refine Jq12 ?_) | (k_unfold; (try dsimp only)) | (k_end; wrow_close) | walk1 | (dsimp only; walk1) | (leave1; walk_say "STEP leave1"; try dsimp only) | fail "no step"))
  rename Fr _ _ _ _ => Fc
  rename News _ _ _ _ => Nc
  refine len_list (items := ys.toArray) ⟨_, Fc.keep _ _ gD, rfl, _, rfl⟩ (by simp only [List.size_toArray]; (first | exact q467 (by assumption) (by assumption) (by assumption) | omega)) ?_
  (repeat' (first | ((with_reducible show wpAny _ _ (exec _ _) _ _ _); k_fold) | (with_reducible first | refine Jq5 ?_ | refine Jq0 ?_ | refine Jq1 ?_ | refine Jq2 ?_ | refine Jq7 ?_ | refine Jq3 ?_ | refine Jq4 ?_ | refine Jq8 ?_ | refine Jq9 ?_ | refine Jq10 ?_ | refine Jq11 ?_ | refine Jq12 ?_) | (k_unfold; (try dsimp only)) | (k_end; wrow_close) | walk1 | (dsimp only; walk1) | (leave1; walk_say "STEP leave1"; try dsimp only) | fail "no step"))
  unfold Hold
  (repeat' (first | ((with_reducible show wpAny _ _ (exec _ _) _ _ _); k_fold) | (with_reducible first | refine Jq0 ?_ | refine Jq1 ?_ | refine Jq2 ?_ | refine Jq3 ?_ | refine Jq4 ?_) | (k_unfold; (try dsimp only)) | (k_end; wrow_close) | walk1 | (dsimp only; walk1) | (leave1; walk_say "STEP leave1"; try dsimp only) | fail "no step"))
  rename Fr _ _ _ _ => Fd
  rename News _ _ _ _ => Nd
  rename IsRange _ _ _ _ _ _ _ _ => Rc
  refine range_loop [Str.ofString "total"] (fun i m nx => nx = [] ∧ ∃ v t, m (Str.ofString "total") = some (.int v t)) G.hand Rc (small_one (by decide) (by decide) (by (first | exact q468 (by assumption) (by assumption) (by assumption) | omega)) (by (first | exact q469 (by assumption) (by assumption) (by assumption) | omega))) (n := ys.length - 1) (by rw [rangeSize_nat, Int.sub_zero]; (first | exact q470 (by assumption) (by assumption) (by assumption) | omega)) Fd Nd ⟨rfl, _, _, rfl⟩ ?_ ?_
  · intro i tv m₁ nx h tk own hi hoff hadr z0_ hkp F N
    refine via fun G_ hG_ => ?_
    obtain ⟨rfl, v, t, hm⟩ := z0_
    refine hG_ ?_
    clear hG_ G_
    clear Fd Nd Rc
    rw [hkp.map1 hm] at F
    (repeat' (first | ((with_reducible show wpAny _ _ (exec _ _) _ _ _); k_fold) | (with_reducible first | refine Jq13 ?_ | refine Jq5 ?_ | refine Jq0 ?_ | refine Jq1 ?_ | refine Jq2 ?_ | refine Jq7 ?_ | refine Jq3 ?_ | refine Jq4 ?_ | refine Jq8 ?_ | refine Jq9 ?_ | refine Jq10 ?_ | refine Jq11 ?_ | refine Jq12 ?_) | (k_unfold; (try dsimp only)) | (k_end; wrow_close) | walk1 | (dsimp only; walk1) | (leave1; walk_say "STEP leave1"; try dsimp only) | fail "no step"))
    unfold Hold
    rename Fr _ _ _ _ => Fc
    rename News _ _ _ _ => Nc
    have hi1 : i < fs.length := by rw [← P.1]; (first | exact q471 (by assumption) (by assumption) (by assumption) (by assumption) | omega)
    have hi2 : i + 1 < fs.length := by rw [← P.1]; (first | exact q472 (by assumption) (by assumption) (by assumption) (by assumption) | omega)
    refine via fun G_ hG_ => ?_
    obtain ⟨T1, a1, b1, hy1T, gT1⟩ := gP.2 i _ (List.getElem?_eq_getElem hi1)
    refine hG_ ?_
    clear hG_ G_
    refine via fun G_ hG_ => ?_
    obtain ⟨T2, a2, b2, hy2T, gT2⟩ := gP.2 (i + 1) _ (List.getElem?_eq_getElem hi2)
    refine hG_ ?_
    clear hG_ G_
    generalize fs[i] = f1 at gT1
    generalize fs[i + 1] = f2 at gT2
    refine midF Fc (Str.ofString "total") [] (fun h' m' => (∃ v t, m' (Str.ofString "total") = some (.int v t)) ∧ News g L' h' own) ?_ ?_
    · (repeat' (first | ((with_reducible show wpAny _ _ (exec _ _) _ _ _); k_fold) | (with_reducible first | refine Jq5 ?_ | refine Jq0 ?_ | refine Jq1 ?_ | refine Jq2 ?_ | refine Jq7 ?_ | refine Jq3 ?_ | refine Jq4 ?_ | refine Jq8 ?_ | refine Jq9 ?_ | refine Jq10 ?_ | refine Jq11 ?_ | refine Jq12 ?_) | (k_unfold; (try dsimp only)) | (k_end; wrow_close) | walk1 | (dsimp only; walk1) | (leave1; walk_say "STEP leave1"; try dsimp only) | fail "no step"))
      rename Fr _ _ _ _ => Fe
      refine item_list (items := ys.toArray) ⟨_, Fe.keep _ _ gD, rfl, _, rfl⟩ (by (first | exact q473 | omega)) (by (first | exact q474 (by assumption) (by assumption) (by assumption) (by assumption) | omega)) (by simpa using hy1T) ?_
      (repeat' (first | ((with_reducible show wpAny _ _ (exec _ _) _ _ _); k_fold) | (with_reducible first | refine Jq5 ?_ | refine Jq0 ?_ | refine Jq1 ?_ | refine Jq2 ?_ | refine Jq7 ?_ | refine Jq3 ?_ | refine Jq4 ?_ | refine Jq8 ?_ | refine Jq9 ?_ | refine Jq10 ?_ | refine Jq11 ?_ | refine Jq12 ?_) | (k_unfold; (try dsimp only)) | (k_end; wrow_close) | walk1 | (dsimp only; walk1) | (leave1; walk_say "STEP leave1"; try dsimp only) | fail "no step"))
      rename Fr _ _ _ _ => Fe
      refine item_tupleT (l := [.str f1.1 a1, .int f1.2 b1]) ⟨_, Fe.keep _ _ gT1, rfl, _, rfl⟩ (by decide) (by decide) rfl rfl ?_
      (repeat' (first | ((with_reducible show wpAny _ _ (exec _ _) _ _ _); k_fold) | (with_reducible first | refine Jq5 ?_ | refine Jq0 ?_ | refine Jq1 ?_ | refine Jq2 ?_ | refine Jq7 ?_ | refine Jq3 ?_ | refine Jq4 ?_ | refine Jq8 ?_ | refine Jq9 ?_ | refine Jq10 ?_ | refine Jq11 ?_ | refine Jq12 ?_) | (k_unfold; (try dsimp only)) | (k_end; wrow_close) | walk1 | (dsimp only; walk1) | (leave1; walk_say "STEP leave1"; try dsimp only) | fail "no step"))
      · rename Fr _ _ _ _ => Fe
        refine item_list (items := ys.toArray) ⟨_, Fe.keep _ _ gD, rfl, _, rfl⟩ (by (first | exact q475 | omega)) (by (first | exact q476 (by assumption) (by assumption) (by assumption) (by assumption) | omega)) (by rw [show (0 + (i : Int) + 1).toNat = i + 1 from by (first | exact q477 | omega)]; simpa using hy2T) ?_
        (repeat' (first | ((with_reducible show wpAny _ _ (exec _ _) _ _ _); k_fold) | (with_reducible first | refine Jq5 ?_ | refine Jq0 ?_ | refine Jq1 ?_ | refine Jq2 ?_ | refine Jq7 ?_ | refine Jq3 ?_ | refine Jq4 ?_ | refine Jq8 ?_ | refine Jq9 ?_ | refine Jq10 ?_ | refine Jq11 ?_ | refine Jq12 ?_) | (k_unfold; (try dsimp only)) | (k_end; wrow_close) | walk1 | (dsimp only; walk1) | (leave1; walk_say "STEP leave1"; try dsimp only) | fail "no step"))
        rename Fr _ _ _ _ => Fe
        refine item_tupleT (l := [.str f2.1 a2, .int f2.2 b2]) ⟨_, Fe.keep _ _ gT2, rfl, _, rfl⟩ (by decide) (by decide) rfl rfl ?_
        (repeat' (first | ((with_reducible show wpAny _ _ (exec _ _) _ _ _); k_fold) | (with_reducible first | refine Jq5 ?_ | refine Jq0 ?_ | refine Jq1 ?_ | refine Jq2 ?_ | refine Jq7 ?_ | refine Jq3 ?_ | refine Jq4 ?_ | refine Jq8 ?_ | refine Jq9 ?_ | refine Jq10 ?_ | refine Jq11 ?_ | refine Jq12 ?_) | (k_unfold; (try dsimp only)) | (k_end; wrow_close) | walk1 | (dsimp only; walk1) | (leave1; walk_say "STEP leave1"; try dsimp only) | fail "no step"))
        rename Fr _ _ _ _ => Fe
        refine item_list (items := ys.toArray) ⟨_, Fe.keep _ _ gD, rfl, _, rfl⟩ (by (first | exact q473 | omega)) (by (first | exact q474 (by assumption) (by assumption) (by assumption) (by assumption) | omega)) (by simpa using hy1T) ?_
        (repeat' (first | ((with_reducible show wpAny _ _ (exec _ _) _ _ _); k_fold) | (with_reducible first | refine Jq5 ?_ | refine Jq0 ?_ | refine Jq1 ?_ | refine Jq2 ?_ | refine Jq7 ?_ | refine Jq3 ?_ | refine Jq4 ?_ | refine Jq8 ?_ | refine Jq9 ?_ | refine Jq10 ?_ | refine Jq11 ?_ | refine Jq12 ?_) | (k_unfold; (try dsimp only)) | (k_end; wrow_close) | walk1 | (dsimp only; walk1) | (leave1; walk_say "STEP leave1"; try dsimp only) | fail "no step"))
        rename Fr _ _ _ _ => Fe
        refine item_tupleT (l := [.str f1.1 a1, .int f1.2 b1]) ⟨_, Fe.keep _ _ gT1, rfl, _, rfl⟩ (by decide) (by decide) rfl rfl ?_
        (repeat' (first | ((with_reducible show wpAny _ _ (exec _ _) _ _ _); k_fold) | (with_reducible first | refine Jq0 ?_ | refine Jq1 ?_ | refine Jq2 ?_ | refine Jq3 ?_ | refine Jq4 ?_) | (k_unfold; (try dsimp only)) | (k_end; wrow_close) | walk1 | (dsimp only; walk1) | (leave1; walk_say "STEP leave1"; try dsimp only) | fail "no step"))
        rename Fr _ _ _ _ => Fe
        rename News _ _ _ _ => Ne
        refine max_two_N G.hand Fe Ne fun h8 tk8 F8 N8 => ?_
        clear Fe Ne
        (repeat' (first | ((with_reducible show wpAny _ _ (exec _ _) _ _ _); k_fold) | (with_reducible first | refine Jq0 ?_ | refine Jq1 ?_ | refine Jq2 ?_ | refine Jq3 ?_ | refine Jq4 ?_) | (k_unfold; (try dsimp only)) | (k_end; wrow_close) | walk1 | (dsimp only; walk1) | (leave1; walk_say "STEP leave1"; try dsimp only) | fail "no step"))
        exact ⟨rfl, _, _, _, rfl, by assumption, (by ((intro zK hK1 hK2; simp only [List.mem_cons, List.not_mem_nil, or_false, not_or] at hK2; simp only [hK1, hK2, if_false, ↓reduceIte]))), ⟨_, _, rfl⟩, by assumption⟩
      · exact ⟨rfl, _, _, _, rfl, by assumption, (by ((intro zK hK1 hK2; simp only [List.mem_cons, List.not_mem_nil, or_false, not_or] at hK2; simp only [hK1, hK2, if_false, ↓reduceIte]))), ⟨_, _, rfl⟩, by assumption⟩
    intro h6 tk6 m6 F6 hkp6 z0_
    refine via fun G_ hG_ => ?_
    obtain ⟨⟨v6, t6, hm6⟩, N6⟩ := z0_
    refine hG_ ?_
    clear hG_ G_
    rw [kdone0 hkp6 hm6] at F6
    (repeat' (first | ((with_reducible show wpAny _ _ (exec _ _) _ _ _); k_fold) | (with_reducible first | refine Jq5 ?_ | refine Jq0 ?_ | refine Jq1 ?_ | refine Jq2 ?_ | refine Jq7 ?_ | refine Jq3 ?_ | refine Jq4 ?_ | refine Jq8 ?_ | refine Jq9 ?_ | refine Jq10 ?_ | refine Jq11 ?_ | refine Jq12 ?_) | (k_unfold; (try dsimp only)) | (k_end; wrow_close) | walk1 | (dsimp only; walk1) | (leave1; walk_say "STEP leave1"; try dsimp only) | fail "no step"))
    refine ⟨_, _, _, _, [], rfl, F6, N6, (fun p hp => nomatch hp), (fun p hp => hp), rfl, ⟨rfl, _, _, rfl⟩, ?_⟩
    ((intro zK hK1 hK2; simp only [List.mem_cons, List.not_mem_nil, or_false, not_or] at hK2; simp only [hK1, hK2, if_false, ↓reduceIte]))
  · intro m₁ nx h tk z0_ hkp F N
    refine via fun G_ hG_ => ?_
    obtain ⟨rfl, v, t, hm⟩ := z0_
    refine hG_ ?_
    clear hG_ G_
    clear Fd Nd Rc
    rw [hkp.done1 hm] at F
    (repeat' (first | ((with_reducible show wpAny _ _ (exec _ _) _ _ _); k_fold) | (with_reducible first | refine Jq0 ?_ | refine Jq1 ?_ | refine Jq2 ?_ | refine Jq3 ?_ | refine Jq4 ?_) | (k_unfold; (try dsimp only)) | (k_end; wrow_close) | walk1 | (dsimp only; walk1) | (leave1; walk_say "STEP leave1"; try dsimp only) | fail "no step"))
    try dsimp only
    exact ret _ _ _ fun b o e _ => F.keep b o (hsub b o e fun m => nomatch m)
end
end
section
open PySem PySem.W PyProof.Rows PySem.Spec PySem.Calls
open Builtin Builtin.Bytes
theorem slot_bjoin : Slot "bytes" "join" "bytes.join" :=
  .of (owner := "bytes") (n := "join") (by rw [typeLookup_type, builtinLookup_eq_fast]; kernel_rfl) (by decide +kernel) (by decide +kernel) (by decide +kernel)
    (by first | exact .inl (by decide +kernel) | exact .inr (by decide +kernel)) (by rw [isSubtype_type]; kernel_rfl)
theorem type_bjoin : typeOf (.builtin "bytes.join") = pure (.type "method_descriptor") := by show builtinType _ = _; rw [builtinType_eq_fast]; kernel_rfl
theorem entry_bjoin : entryFor table "bytes.join" = some Builtin.«bytes.join» := entryFor_of_tree (by kernel_rfl)
theorem args_bjoin (a b : Value) : argsOk "bytes.join" ⟨[a, b], []⟩ := by
  unfold argsOk; rw [signature?_of (id := "bytes.join") (n := ['n', 'i', 'o', 'j']) (o := ['s', 'e', 't', 'y', 'b']) (by kernel_rfl) PySem.W.FB.owner_bytes]; kernel_rfl
theorem bytes_buf : typeLookup (.type "bytes") "__buffer__" = pure (some (.builtin "bytes.__buffer__")) := by rw [typeLookup_type, builtinLookup_eq_fast]; kernel_rfl
theorem bytes_spec (b : Array UInt8) (u : Tok) : specialOf (.bytes b u) "__buffer__" = pure (some (.builtin "bytes.__buffer__")) := by
  show (typeOf (.bytes b u) >>= fun t => typeLookup t "__buffer__") = _
  exact bytes_buf
theorem bytes_rel : typeLookup (.type "bytes") "__release_buffer__" = pure none := by rw [typeLookup_type, builtinLookup_eq_fast]; kernel_rfl
theorem bytes_specr (b : Array UInt8) (u : Tok) : specialOf (.bytes b u) "__release_buffer__" = pure none := by
  show (typeOf (.bytes b u) >>= fun t => typeLookup t "__release_buffer__") = _
  exact bytes_rel
theorem bytes_own (b : Array UInt8) (u : Tok) : slotIsOwn (.bytes b u) "__buffer__" = pure true := by
  unfold slotIsOwn
  rw [show ((("__buffer__" : String) : Str)) = Str.ofString "__buffer__" from rfl]
  rw [show specialOf (.bytes b u) (Str.ofString "__buffer__") = _ from bytes_spec b u]
  simp only [pure_bind]
  rw [if_neg (by decide +kernel)]
  rw [show ("bytes.__buffer__".dropRight ("__buffer__".length + 1) : String) = "bytes" from by decide +kernel]
  kernel_rfl
theorem bytes_ownr (b : Array UInt8) (u : Tok) : ownRelease (.bytes b u) = pure false := by
  unfold ownRelease slotIsOwn
  rw [show specialOf (.bytes b u) (("__release_buffer__" : String) : Str) = _ from bytes_specr b u]
  rfl
theorem buf_bytes (id : String) (b : Array UInt8) (u : Tok) (f : Bool) : buffer? id (.bytes b u) f = pure (some b) := by
  unfold buffer?
  rw [bytes_spec]
  simp only [pure_bind]
  rw [bytes_own, bytes_ownr]
  rfl
theorem take_bytes (id : String) (b : Array UInt8) (u : Tok) : takeBufferQuiet? id (.bytes b u) 0 = pure (some (b, none)) := by
  unfold takeBufferQuiet? takeBuffer?
  rw [bytes_spec]
  simp only [pure_bind]
  rw [bytes_own, buf_bytes]
  rfl
/-- the values vs are the octets bs -/
noncomputable def BytesAre (vs : List Value) (bs : List (Array UInt8)) : Prop := vs.length = bs.length ∧ ∀ (j : Nat) b, bs[j]? = some b → ∃ u, vs[j]? = some (.bytes b u)
theorem joined_go (parts : List (Array UInt8)) : ∀ (k : Nat) (acc : Array UInt8), (parts.zipIdx k).foldl (fun out (p, i) => (if i > 0 then out ++ (#[] : Array UInt8) else out) ++ p) acc = acc ++ (parts.map Array.toList).flatten.toArray := by
  induction parts with
  | nil => intro k acc; simp
  | cons p r ih =>
    intro k acc
    rw [List.zipIdx_cons, List.foldl_cons, ih]
    simp [Array.append_assoc]
    apply Array.ext'
    simp
theorem joined_nil (parts : List (Array UInt8)) : joined #[] parts = (parts.map Array.toList).flatten.toArray := by
  unfold joined
  rw [joined_go]
  simp
theorem sizes_go (l : List (Array UInt8)) : ∀ k, l.foldl (fun a b => a + b.size) k = k + (l.map Array.toList).flatten.length := by
  induction l with
  | nil => intro k; rfl
  | cons p r ih => intro k; rw [List.foldl_cons, ih]; simp; (first | exact q480 | omega)
theorem wp_joinLetGo {M : Model} {A : Around} {E : Value → Shared → Prop} {s : Shared} {keep : List Value} {Q : Unit → Shared → Prop} (h : Q () s) : ∀ (l : List (Value × Option Value)), (∀ p ∈ l, p.2 = none) → wpAny M A (joinLetGo l keep) Q E s
  | [], _ => wpAny_pure h
  | (x, w) :: r, k => by
    obtain rfl : w = none := k (x, w) (.head _)
    unfold joinLetGo
    exact wpAny_bind (wpAny_letGo (wp_joinLetGo h r fun p hp => k p (.tail _ hp)))
theorem bytes_join {prog : Program} {w : World} {A : Around} {E : Value → Shared → Prop} {s : Shared} {D : Addr} {vs : List Value} {bs : List (Array UInt8)} {t : Tok} {Q : Value → Shared → Prop}
    (hl : s.heap.IsList D vs.toArray) (hb : BytesAre vs bs) (hsz : (bs.map Array.toList).flatten.length ≤ sizeLine) (h : ∀ t' k, Q (.bytes (bs.map Array.toList).flatten.toArray t') { s with toks := k }) :
    wpAny (model prog w) A (call (.builtin "bytes.join") [.bytes #[] t, .ref D]) Q E s := by
  refine wpAny_call_entry slot_bjoin (typeIs_bytes _ _ _) entry_bjoin ?_ (args_bjoin _ _)
  refine via fun G_ hG_ => ?_
  obtain ⟨oD, hD, hcD, nD, hdD⟩ := id hl
  refine hG_ ?_
  clear hG_ G_
  show wpAny _ _ (joinM .bytes _) _ _ _
  unfold joinM
  refine wpAny_bind (wpAny_of_eq (a := (Value.bytes #[] t, Value.ref D)) rfl ?_)
  refine wpAny_bind ?_
  unfold joinItems
  refine wpAny_bind (wpAny_typeOf_ref hD ?_)
  rw [if_pos (by rw [hcD]; rfl)]
  refine wpAny_pure ?_
  refine wpAny_bind (wpAny_seqItems hD hdD ?_)
  by_cases h1 : vs.length = 1
  · obtain ⟨v, rfl⟩ : ∃ v, vs = [v] := by
      rcases vs with _ | ⟨v1, _ | ⟨v2, vr⟩⟩
      · simp at h1
      · exact ⟨_, rfl⟩
      · simp at h1
    obtain ⟨b, rfl⟩ : ∃ b, bs = [b] := by
      have := hb.1
      rcases bs with _ | ⟨b1, _ | ⟨b2, br⟩⟩
      · simp at this
      · exact ⟨_, rfl⟩
      · simp at this
    obtain ⟨u, hu⟩ := hb.2 0 b rfl
    simp at hu
    subst hu
    try dsimp only
    rw [if_pos (by rfl)]
    refine wpAny_bind (wpAny_typeOf (typeIs_bytes _ _ _) ?_)
    rw [if_pos (by rfl)]
    refine wpAny_bind (wpAny_rule ?_)
    have := h u s.toks
    simp only [List.map_cons, List.map_nil, List.flatten_cons, List.flatten_nil, List.append_nil] at this
    rw [show b.toList.toArray = b from rfl] at this
    exact wpAny_pure ⟨_, rfl, this⟩
  · delta PySem.Builtin.Bytes.joinM.match_1
    try dsimp only
    rw [if_pos (by rfl), dif_neg (by simpa using h1)]
    refine wpAny_bind ?_
    rw [Std.Legacy.Range.forIn_eq_forIn_range']
    simp only [Std.Legacy.Range.size, Nat.sub_zero, Nat.add_sub_cancel, Nat.div_one, List.size_toArray]
    refine wpAny_forIn_list _ (fun rest (b : Array (Array UInt8) × List (Value × Option Value)) s' => s' = s ∧ ∃ j, rest = List.range' j (vs.length - j) ∧ j ≤ vs.length ∧ b.1.toList = bs.take j ∧ b.2 = (vs.take j).map (·, none)) _ ?_ ?_ _ _ ⟨rfl, 0, by simp, Nat.zero_le _, by simp, by simp⟩
    · intro x rest z0_ _ z1_
      refine via fun G_ hG_ => ?_
      obtain ⟨parts, taken⟩ := z0_
      obtain ⟨rfl, j, hr, hj, hp, ht⟩ := z1_
      refine hG_ ?_
      clear hG_ G_
      have hlt : j < vs.length := by
        rcases Nat.lt_or_ge j vs.length with h | h
        · exact h
        · rw [Nat.sub_eq_zero_of_le h] at hr; simp at hr
      obtain ⟨rfl, hrest⟩ : x = j ∧ rest = List.range' (j + 1) (vs.length - (j + 1)) := by
        have e : vs.length - j = (vs.length - (j + 1)) + 1 := by (first | exact q478 (by assumption) | omega)
        rw [e, List.range'_succ] at hr
        injection hr with h1 h2
        exact ⟨h1, h2⟩
      refine wpAny_bind (wpAny_seqItems hD hdD ?_)
      dsimp only at hp ht ⊢
      obtain ⟨b, hbx⟩ : ∃ b, bs[x]? = some b := ⟨bs[x]'(by rw [← hb.1]; exact hlt), List.getElem?_eq_getElem _⟩
      obtain ⟨u, hu⟩ := hb.2 x b hbx
      have hg : vs.toArray.getD x .none = .bytes b u := by simp [Array.getD_eq_getD_getElem?, hu]
      rw [hg]
      have hno : (Kind.bytes == Kind.bytearray || taken.any fun x => x.fst.onHeap) = false := by
        rw [ht]
        show ((List.map _ _).any _) = false
        rw [List.any_eq_false]
        intro p hp
        refine via fun G_ hG_ => ?_
        obtain ⟨v, hv, rfl⟩ := List.mem_map.mp hp
        refine hG_ ?_
        clear hG_ G_
        refine via fun G_ hG_ => ?_
        obtain ⟨i, hi, e⟩ := List.mem_iff_getElem.mp (List.mem_of_mem_take hv)
        refine hG_ ?_
        clear hG_ G_
        obtain ⟨u', hu'⟩ := hb.2 i (bs[i]'(by rw [← hb.1]; exact hi)) (List.getElem?_eq_getElem _)
        rw [List.getElem?_eq_getElem hi, e] at hu'
        injection hu' with hu'
        subst hu'
        exact Bool.false_ne_true
      rw [if_neg (by rw [hno]; decide)]
      rw [take_bytes]
      refine wpAny_bind (wpAny_holding (wpAny_pure ?_))
      refine wpAny_bind (wpAny_seqItems hD hdD ?_)
      try dsimp only
      rw [if_neg (by simp)]
      refine wpAny_pure ⟨rfl, x + 1, hrest, hlt, ?_, ?_⟩
      · rw [Array.toList_push, hp, List.take_add_one, hbx]; rfl
      · rw [ht, List.take_add_one, hu, List.map_append]; rfl
    · intro z0_ _ z1_
      refine via fun G_ hG_ => ?_
      obtain ⟨parts, taken⟩ := z0_
      obtain ⟨rfl, j, hr, hj, hp, ht⟩ := z1_
      refine hG_ ?_
      clear hG_ G_
      dsimp only at hp ht ⊢
      have ej : j = vs.length := by
        have : (List.range' j (vs.length - j)).length = 0 := by rw [← hr]; rfl
        rw [List.length_range'] at this
        (first | exact q479 (by assumption) (by assumption) | omega)
      subst ej
      rw [hb.1, List.take_length] at hp
      refine wpAny_bind (wpAny_of_eq (a := (#[] : Array UInt8)) rfl ?_)
      have hz : Array.foldl (fun x1 x2 => x1 + x2.size) ((#[] : Array UInt8).size * (parts.size - 1)) parts = (bs.map Array.toList).flatten.length := by
        rw [← Array.foldl_toList, hp, sizes_go]
        simp
      rw [hz]
      rw [if_neg (by unfold tooLong; simpa using hsz)]
      have ej : joined #[] parts.toList = (bs.map Array.toList).flatten.toArray := by rw [hp, joined_nil]
      rw [ej]
      refine wpAny_bind (wpAny_mkBytes ?_ (by rw [List.size_toArray]; exact hsz))
      refine wpAny_bind (wpAny_holding (wpAny_point ?_))
      refine wpAny_bind (wp_joinLetGo ?_ _ fun p hp => ?_)
      · exact wpAny_pure ⟨_, rfl, h _ _⟩
      · rw [ht] at hp
        refine via fun G_ hG_ => ?_
        obtain ⟨v, _, rfl⟩ := List.mem_map.mp hp
        refine hG_ ?_
        clear hG_ G_
        rfl
theorem bjoin_method {M : Model} {A : Around} {E : Value → Shared → Prop} {s : Shared} {b : Array UInt8} {t : Tok} {pl : Sem Bool} {Q : Value × List Value → Shared → Prop} (h : Q (.builtin "bytes.join", [.bytes b t]) s) : wpAny M A (getMethod (.bytes b t) (Str.ofString "join") pl) Q E s :=
  KBd.method_of (.bytes b t) (typeIs_bytes _ _ _) slot_bjoin type_bjoin KBd.noRef h
end
section
open PyProof.Rows.LCg PyProof.V PyProof.Rows

local macro_rules | `(tactic| k_all) => `(tactic| assumption)
local macro_rules | `(tactic| k_qdec) => `(tactic| kernel_rfl)
theorem fresh_back {c b : Addr} {h h2 : Heap} {o : Obj} (ex : Ext [c] h h2) (hc : h2.get? c = some o) (e : h2.get? b = none) : h.get? b = none := by
  cases z : h.get? b with
  | none => rfl
  | some o' =>
    have := ex b o' z (fun m => by rw [List.mem_singleton.mp m, hc] at e; cases e)
    rw [e] at this
    cases this
theorem FldP.ledger {G : Addr → Obj → Prop} : ∀ {ys : List Value} {fs : List (Str × Int)}, FldP ys fs G → ∃ fro, FldIn ys fs fro ∧ ∀ p ∈ fro, G p.1 p.2
  | [], [], _ => ⟨[], .nil, fun _ m => nomatch m⟩
  | [], _ :: _, P => by have := P.1; simp at this
  | _ :: _, [], P => by have := P.1; simp at this
  | y :: ys, (a0, b0) :: fs, P => by
    have P' : FldP ys fs G := by have := P.drop 1; simpa using this
    refine via fun G_ hG_ => ?_
    obtain ⟨fro, h1, h2⟩ := FldP.ledger P'
    refine hG_ ?_
    clear hG_ G_
    refine via fun G_ hG_ => ?_
    obtain ⟨T, t1, t2, a, b⟩ := P.2 0 _ rfl
    refine hG_ ?_
    clear hG_ G_
    simp only [List.getElem?_cons_zero, Option.some.injEq] at a
    subst a
    refine ⟨(T, ({ cls := .type "tuple", data := .seq #[.str a0 t1, .int b0 t2] } : Obj)) :: fro, FldP.cons (.head _) (h1.mono fun _ _ hp => .tail _ hp), fun p hp => ?_⟩
    rcases List.mem_cons.mp hp with rfl | hp
    · exact b
    · exact h2 p hp
theorem frs_nil {A : Around} {base g : Heap} (_ : Below A base [] g) : Frs base g [] := fun _ m => nomatch m
theorem bytesAre_snoc {ys : List Value} {bs : List (Array UInt8)} (h : BytesAre ys bs) (b : Array UInt8) (u : Tok) : BytesAre (ys ++ [.bytes b u]) (bs ++ [b]) := by
  refine ⟨by simp [h.1], fun j b' hj => ?_⟩
  by_cases q : j < bs.length
  · rw [List.getElem?_append_left q] at hj
    obtain ⟨u', e⟩ := h.2 j b' hj
    exact ⟨u', by rw [List.getElem?_append_left (by rw [h.1]; exact q)]; exact e⟩
  · rw [List.getElem?_append_right (by (first | exact q74 (by assumption) | omega))] at hj
    have hz : j - bs.length = 0 := by
      rcases Nat.eq_zero_or_pos (j - bs.length) with z | z
      · exact z
      · rw [List.getElem?_eq_none (by simp; (first | exact q505 (by assumption) | omega))] at hj; cases hj
    rw [hz] at hj
    simp only [List.getElem?_cons_zero, Option.some.injEq] at hj
    subst hj
    exact ⟨u, by rw [List.getElem?_append_right (by rw [h.1]; (first | exact q74 (by assumption) | omega)), h.1, hz]; rfl⟩
theorem rest_P {prog : Program} {w : World} {A : Around} {h₀ : Heap} {L ax : Addr} {m : Str → Option Value} {env : Env} {elt : Expr} {x x₂ : Str} {scope : Scope} {cl : List (Str × Addr)} {s : Shared} {ys2 : List Value} {fs : List (Str × Int)} {fro news : List (Addr × Obj)} {Fin : List Value → List (Addr × Obj) → Prop}
    (P : FldIn ys2 fs fro) (hsub : ∀ p ∈ fro, p ∈ news) (hS : SrcAt h₀ ax ys2.toArray news)
    (turn : ∀ (f : Str × Int) (t1 t2 : Tok) ys I oI C oC D m₂ h tk (E' : Value → Shared → Prop), f ∈ fs → NsObj oC m₂ → m₂ x = some (.str f.1 t1) → m₂ x₂ = some (.int f.2 t2) → Fr h₀ L h m → News h₀ L h ((I, oI) :: (C, oC) :: (D, lst ys) :: news) → Off3 I C D news → ((@Ne Nat I C) ∧ (@Ne Nat I D) ∧ (@Ne Nat C D)) →
      wpAny (model prog w) A (eval elt (compEnvC scope cl C env)) (fun y s₂ => ∃ b u h' tk', y = .bytes b u ∧ b.size = 2 ∧ s₂ = { s with heap := h', toks := tk' } ∧ Fr h₀ L h' m ∧ News h₀ L h' ((I, oI) :: (C, oC) :: (D, lst ys) :: news)) E' { s with heap := h, toks := tk })
    (fin : ∀ ys bs, BytesAre ys bs → bs.length = fs.length → (∀ b ∈ bs, b.size = 2) → Fin ys news) :
    ∀ k i ys bs, k + i = fs.length → BytesAre ys bs → bs.length = i → (∀ b ∈ bs, b.size = 2) → LCp.CompRestP prog w A h₀ L m env elt x x₂ scope cl s (SrcAt h₀ ax ys2.toArray) (fun i v => ys2.toArray[i]? = some v) Fin k i ys news
  | 0, i, ys, bs, hk, hb, hl, h2 => LCp.CompRestP.zero (fin ys bs hb (by (first | exact q507 (by assumption) (by assumption) | omega)) h2)
  | k + 1, i, ys, bs, hk, hb, hl, h2 => by
    refine LCp.CompRestP.succ fun v hv => ?_
    have hi : i < fs.length := by (first | exact q508 (by assumption) (by assumption) | omega)
    refine via fun G_ hG_ => ?_
    obtain ⟨T, t1, t2, a, b⟩ := P.2 i _ (List.getElem?_eq_getElem hi)
    refine hG_ ?_
    clear hG_ G_
    have hv' : ys2[i]? = some v := by simpa using hv
    rw [a] at hv'
    refine ⟨T, _, _, _, 0, (Option.some.inj hv').symm, hsub _ b, rfl, rfl, fun I oI C oC D m₂ h tk E' hC hx hy F N off ne => ?_⟩
    refine wpAny_mono (turn fs[i] t1 t2 ys I oI C oC D m₂ h tk E' (List.getElem_mem hi) hC hx hy F N off ne) (fun y s₂ z => ?_) fun _ _ e => e
    refine via fun G_ hG_ => ?_
    obtain ⟨b', u, h', tk', rfl, hb2, rfl, F', N'⟩ := z
    refine hG_ ?_
    clear hG_ G_
    exact ⟨h', tk', news, rfl, F', N', off, hS, rest_P P hsub hS turn fin k (i + 1) _ _ (by (first | exact q509 (by assumption) | omega)) (bytesAre_snoc hb b' u) (by simp [hl]) fun q hq => by
      rcases List.mem_append.mp hq with hq | hq
      · exact h2 q hq
      · rw [List.mem_singleton.mp hq]; exact hb2⟩
theorem kept_law {g h h' : Heap} {L : Addr} {m : Str → Option Value} {nw : List (Addr × Obj)} (F : Fr g L h m) (N : News g L h nw) (K : Kept [L] [] h h') : Fr g L h' m ∧ News g L h' nw := by
  have hgL : g.get? L = none := kts_self F
  refine ⟨⟨?_, fun b o e => K.keep b o (F.keep b o e) (fun m => nomatch m) (fun hm => by rw [List.mem_singleton.mp hm, hgL] at e; cases e), F.above⟩, fun p hp => ⟨K.keep _ _ (N p hp).1 (fun m => nomatch m) fun hm => (N p hp).2.1 (List.mem_singleton.mp hm), (N p hp).2⟩⟩
  refine via fun G_ hG_ => ?_
  obtain ⟨o, es, ep, ho, hd, r⟩ := F.ns
  refine hG_ ?_
  clear hG_ G_
  obtain ⟨sl, z⟩ := K.slot L o ho (fun m => nomatch m) (.head _)
  exact ⟨_, es, ep, z, hd, r⟩
@[reducible] noncomputable def AheadJ (g : Heap) (L lx I D : Addr) (oI oD : Obj) (fro : List (Addr × Obj)) (nm : Str) (lo hi : Nat) (h' : Heap) (m' : Str → Option Value) : Prop :=
  ∃ arr t co' i' oi', m' nm = some (.bytes arr t) ∧ (KBw.bInts arr).length ≤ hi ∧ lo ≤ (KBw.bInts arr).length ∧ I ≠ i' ∧ CellObj co' i' oi' ∧ g.get? i' = none ∧ News g L h' ((I, oI) :: (lx, co') :: (i', oi') :: (D, oD) :: fro)
theorem law_d (env : Env) : (callerA.deeper env).depth ≤ 540 := by rw [depth_deeper, depth_caller]; decide
theorem law_u (env : Env) : (callerA.deeper env).units ≤ 6400 := by simp only [units_deeper, units_caller]; decide
theorem law_td (env : Env) : (callerA.deeper env).depth + 10 < recursionLimit := by rw [depth_deeper, depth_caller]; decide
theorem law_tu (env : Env) : (callerA.deeper env).units + 300 < cLine := by have := cLine_is; have := law_u env; simp only [units_deeper, units_caller]; (first | exact q506 (by assumption) | omega)
theorem law_all : PySem.Challenge.rw_pb0173_01.Holds := hd (by
  k_go0
  repeat' (first | ((with_reducible show wpAny _ _ (exec (Stmt.For _ _ _ _ _) _) _ _ _); refine Hold.out ?_) | (k_unfold; (try dsimp only)) | (k_end; wrow_close) | walk1 | (dsimp only; walk1) | (leave1; walk_say "STEP leave1"; try dsimp only) | fail "no step")
  unfold Hold
  rename Shared => s1
  rename Below _ _ _ _ => B
  rename Top _ _ _ _ _ _ => T
  rename Frag.In _ _ => X
  rename Fr _ _ _ _ => Fa
  rename_i hTr0 hD0 h01 Dw ws1 h02 hIw hCw hLw hTr hkw1 hkw2 g1 hIy hLy D2 h03 tk03 ne12 lx h04 lts h05 Na
  have G := (⟨X, T, fun _ _ e => e, ⟨[], rfl, fun _ m => nomatch m⟩, rfl⟩ : Gnd _ _ _ _ _ callerA _)
  refine For_invVF Fa (by rfl) (by rfl) ?_
  (repeat' (first | ((with_reducible show wpAny _ _ (exec _ _) _ _ _); k_fold) | (with_reducible first | refine Jq15 ?_ | refine Jq0 ?_ | refine Jq1 ?_ | refine Jq2 ?_ | refine Jq3 ?_ | refine Jq4 ?_) | (k_unfold; (try dsimp only)) | (k_end; wrow_close) | walk1 | (dsimp only; walk1) | (leave1; walk_say "STEP leave1"; try dsimp only) | fail "no step"))
  unfold Hold
  rename Fr _ _ _ _ => Fb
  rename News _ _ _ _ => Nb
  rename IsRange _ _ _ _ _ _ _ _ => Rb
  have hneD : @Ne Nat lx D2 := Nat.ne_of_gt lts.1
  have N1 := news_sub (b := [(lx, _), (D2, _)]) Nb (fun p hp => by
    rcases List.mem_cons.mp hp with rfl | hp
    · exact .head _
    · rw [List.mem_singleton.mp hp]; exact .tail _ (.head _))
  have nl : _ = none := (N1 (lx, _) (.head _)).2.2
  refine range_free [Str.ofString "fields", Str.ofString "ahead", Str.ofString "octets"] (fun i m nx => ∃ co i' oi', nx = [(lx, co), (i', oi')] ∧ CellObj co i' oi' ∧ Heap.get? _ i' = none) G.hand Rb (small_one (by decide) (by decide) (by decide) (by decide)) (n := 3) (by rw [rangeSize_nat]; rfl) Fb N1 ⟨_, _, _, rfl, ⟨_, _, _, _, _, _, rfl, rfl, hIy, by simp; (first | exact q481 (by assumption) (by assumption) (by assumption) (by assumption) (by assumption) | omega), by decide, by decide⟩, (N1 (D2, _) (.tail _ (.head _))).2.2⟩ ?_ ?_
  · intro i tv m₁ _ h tk I oI hi hne hlt z0_ hkp F N
    refine via fun G_ hG_ => ?_
    obtain ⟨co, i', oi', rfl, O, ni⟩ := z0_
    refine hG_ ?_
    clear hG_ G_
    rw [hkp.map3] at F
    have FR := frs_nil B
    have hcI : I ≠ lx := Ne.symm (hne (lx, co) (.head _))
    have hcL := Ne.symm (N (lx, co) (.tail _ (.head _))).2.1
    have nlx := (N (lx, co) (.tail _ (.head _))).2.2
    have hpr : ∀ p ∈ [(I, oI)], p.1 ≠ lx := fun p hp => by rw [List.mem_singleton.mp hp]; exact hcI
    have hIi : I ≠ i' := Ne.symm (hne (i', oi') (.tail _ (.head _)))
    (repeat' (first | ((with_reducible show wpAny _ _ (exec _ _) _ _ _); k_fold) | (with_reducible first | refine Jq14 ?_ | refine Jq13 ?_ | refine Jq5 ?_ | refine Jq0 ?_ | refine Jq1 ?_ | refine Jq2 ?_ | refine Jq7 ?_ | refine Jq3 ?_ | refine Jq4 ?_ | refine Jq8 ?_ | refine Jq9 ?_ | refine Jq10 ?_ | refine Jq11 ?_ | refine Jq12 ?_) | (k_unfold; (try dsimp only)) | (k_end; wrow_close) | walk1 | (dsimp only; walk1) | (leave1; walk_say "STEP leave1"; try dsimp only) | fail "no step"))
    unfold Hold
    (repeat' (first | ((with_reducible show wpAny _ _ (exec _ _) _ _ _); k_fold) | (with_reducible first | refine Jq5 ?_ | refine Jq0 ?_ | refine Jq1 ?_ | refine Jq2 ?_ | refine Jq7 ?_ | refine Jq3 ?_ | refine Jq4 ?_ | refine Jq8 ?_ | refine Jq9 ?_ | refine Jq10 ?_ | refine Jq11 ?_ | refine Jq12 ?_) | (k_unfold; (try dsimp only)) | (k_end; wrow_close) | walk1 | (dsimp only; walk1) | (leave1; walk_say "STEP leave1"; try dsimp only) | fail "no step"))
    unfold Hold
    rename Fr _ _ _ _ => Fc
    rename News _ _ _ _ => Nc
    refine fields_spec (c := lx) (i := i') (G.inside B FR Fc rfl rfl) (Nat.le_trans (law_d _) (by decide)) (Nat.le_trans (law_u _) (by decide)) (cells_back O nlx ni (Nc (lx, _) (by fail "JMEM")).1 (Nc (i', _) (by fail "JMEM")).1) fun D1 h2 tk2 i2 fs1 fo1 ex2 C2 hi2 FA => ?_
    refine via fun G_ hG_ => ?_
    obtain ⟨co2, oi2, O2, F2, N2, sep2⟩ := cells_fwd (pre := [_]) (post := []) Fc Nc ex2 C2 hi2 hpr (fun _ m => nomatch m) hcL
    refine hG_ ?_
    clear hG_ G_
    have hI2 : I ≠ i2 := sep2 I oI (Nc (I, oI) (by fail "JMEM")).1 hIi
    have hfr := fun b e => fresh_ne (a := b) Fc e
    have hnl := fun (b : Addr) (e : Heap.get? h b = none) (q : b = lx) => (show False from by rw [q, (Nc (lx, _) (by fail "JMEM")).1] at e; cases e)
    clear Fc Nc
    simp only [List.cons_append, List.nil_append] at N2
    have hback : ∀ b, (Heap.get? h b = none ∨ Heap.get? h2 b = none) → Heap.get? h b = none := fun b hb => hb.elim id (fresh_back ex2 (N2 (lx, _) (by fail "JMEM")).1)
    (repeat' (first | ((with_reducible show wpAny _ _ (exec _ _) _ _ _); k_fold) | (with_reducible first | refine Jq5 ?_ | refine Jq0 ?_ | refine Jq1 ?_ | refine Jq2 ?_ | refine Jq7 ?_ | refine Jq3 ?_ | refine Jq4 ?_ | refine Jq8 ?_ | refine Jq9 ?_ | refine Jq10 ?_ | refine Jq11 ?_ | refine Jq12 ?_) | (k_unfold; (try dsimp only)) | (k_end; wrow_close) | walk1 | (dsimp only; walk1) | (leave1; walk_say "STEP leave1"; try dsimp only) | fail "no step"))
    unfold Hold
    rename Fr _ _ _ _ => Fc
    rename News _ _ _ _ => Nc
    refine turned_spec (c := lx) (i := i2) (G.inside B FR Fc rfl rfl) (Nat.le_trans (law_d _) (by decide)) (Nat.le_trans (law_u _) (by decide)) (cells_back O2 nlx C2.ni (Nc (lx, _) (by fail "JMEM")).1 (Nc (i2, _) (by fail "JMEM")).1) fo1 (Old := fun b => Heap.get? h b = none) FA fun D2 h3 tk3 i3 fs fo ex3 C3 hi3 FN => ?_
    refine via fun G_ hG_ => ?_
    obtain ⟨co3, oi3, O3, F3, N3, sep3⟩ := cells_fwd (pre := [_]) (post := []) Fc Nc ex3 C3 hi3 hpr (fun _ m => nomatch m) hcL
    refine hG_ ?_
    clear hG_ G_
    have hI3 : I ≠ i3 := sep3 I oI (Nc (I, oI) (by fail "JMEM")).1 hI2
    clear Fc Nc
    simp only [List.cons_append, List.nil_append] at N3
    refine via fun G_ hG_ => ?_
    obtain ⟨oD, ys2, n2, hD2, P2⟩ := FN
    refine hG_ ?_
    clear hG_ G_
    refine via fun G_ hG_ => ?_
    obtain ⟨fro, PI, hfro⟩ := FldP.ledger P2
    refine hG_ ?_
    clear hG_ G_
    have N4 := news_sub (b := (I, oI) :: (lx, co3) :: (i3, oi3) :: (D2, listOf (List.toArray ys2) n2) :: fro) (a := ((I, oI) :: (lx, co3) :: (i3, oi3) :: []) ++ (D2, listOf (List.toArray ys2) n2) :: fro) (h := h3) (fun p hp => by
      rcases List.mem_append.mp hp with hp | hp
      · exact N3 p hp
      rcases List.mem_cons.mp hp with rfl | hp
      · exact ⟨hD2, hfr _ (hback _ oD)⟩
      · exact ⟨(hfro p hp).1, hfr _ (hback _ (hfro p hp).2)⟩) (fun p hp => hp)
    have hpost : ∀ p ∈ (D2, listOf (List.toArray ys2) n2) :: fro, p.1 ≠ lx := fun p hp => by
      rcases List.mem_cons.mp hp with rfl | hp
      · exact hnl _ (hback _ oD)
      · exact hnl _ (hback _ (hfro p hp).2)
    clear N3
    (repeat' (first | ((with_reducible show wpAny _ _ (exec _ _) _ _ _); k_fold) | (with_reducible first | refine Jq14 ?_ | refine Jq13 ?_ | refine Jq5 ?_ | refine Jq0 ?_ | refine Jq1 ?_ | refine Jq2 ?_ | refine Jq7 ?_ | refine Jq3 ?_ | refine Jq4 ?_ | refine Jq8 ?_ | refine Jq9 ?_ | refine Jq10 ?_ | refine Jq11 ?_ | refine Jq12 ?_) | (k_unfold; (try dsimp only)) | (k_end; wrow_close) | walk1 | (dsimp only; walk1) | (leave1; walk_say "STEP leave1"; try dsimp only) | fail "no step"))
    unfold Hold
    rename Fr _ _ _ _ => Fc
    rename News _ _ _ _ => Nc
    refine midF Fc (Str.ofString "ahead") [] (AheadJ s1.heap s1.heap.objs.size lx I D2 oI (listOf (List.toArray ys2) n2) fro (Str.ofString "ahead") 0 3) ?_ ?_
    · (repeat' (first | ((with_reducible show wpAny _ _ (exec _ _) _ _ _); k_fold) | (with_reducible first | refine Jq5 ?_ | refine Jq0 ?_ | refine Jq1 ?_ | refine Jq2 ?_ | refine Jq7 ?_ | refine Jq3 ?_ | refine Jq4 ?_ | refine Jq8 ?_ | refine Jq9 ?_ | refine Jq10 ?_ | refine Jq11 ?_ | refine Jq12 ?_) | (k_unfold; (try dsimp only)) | (k_end; wrow_close) | walk1 | (dsimp only; walk1) | (leave1; walk_say "STEP leave1"; try dsimp only) | fail "no step"))
      unfold Hold
      rename Fr _ _ _ _ => Fc
      rename News _ _ _ _ => Nc
      refine take_spec (c := lx) (i := i3) (G.inside B FR Fc rfl rfl) (law_td _) (law_tu _) (cells_back O3 nlx C3.ni (Nc (lx, _) (by fail "JMEM")).1 (Nc (i3, _) (by fail "JMEM")).1) (by (first | exact q414 | omega)) (by (first | exact q415 | omega)) fun r4 tr4 h4 tk4 i4 hr4 hr4' ex4 C4 hi4 => ?_
      rename (_ < _ ∧ _ < _ ∧ _ < _ ∧ _ < _ ∧ AllLt _ _) => lts4
      refine via fun G_ hG_ => ?_
      obtain ⟨co4, oi4, O4, F4, N4', sep4⟩ := cells_fwd (pre := [_, _]) (post := (D2, _) :: fro) Fc Nc ex4 C4 hi4 (fun p hp => by
        rcases List.mem_cons.mp hp with rfl | hp
        · exact Nat.ne_of_gt lts4.2.1
        · rw [List.mem_singleton.mp hp]; exact hcI) hpost hcL
      refine hG_ ?_
      clear hG_ G_
      have hI4 : I ≠ i4 := sep4 I oI (Nc (I, oI) (by fail "JMEM")).1 hI3
      clear Fc Nc
      simp only [List.cons_append, List.nil_append] at N4'
      (repeat' (first | ((with_reducible show wpAny _ _ (exec _ _) _ _ _); k_fold) | (with_reducible first | refine Jq5 ?_ | refine Jq0 ?_ | refine Jq1 ?_ | refine Jq2 ?_ | refine Jq7 ?_ | refine Jq3 ?_ | refine Jq4 ?_ | refine Jq8 ?_ | refine Jq9 ?_ | refine Jq11 ?_ | refine Jq12 ?_) | (k_unfold; (try dsimp only)) | (k_end; wrow_close) | walk1 | (dsimp only; walk1) | (leave1; walk_say "STEP leave1"; try dsimp only) | fail "no step"))
      rename Fr _ _ _ _ => Fc
      rename News _ _ _ _ => Nc
      rename IntsAre _ _ => I4
      refine bytes_K Fc Nc (News.isList Nc (by fail "JMEM")) I4 (by intro n hn; simp only [List.mem_flatten, List.mem_replicate] at hn; obtain ⟨_, ⟨_, rfl⟩, hn⟩ := hn; rw [List.mem_singleton.mp hn]; decide) (by rw [PySem.sizeLine_eq]; simp; (first | exact q482 (by assumption) (by assumption) | omega)) G.hand fun h6 t6 k6 F6 N6 _ => ?_
      clear Fc Nc
      (repeat' (first | ((with_reducible show wpAny _ _ (exec _ _) _ _ _); k_fold) | (with_reducible first | refine Jq5 ?_ | refine Jq0 ?_ | refine Jq1 ?_ | refine Jq2 ?_ | refine Jq7 ?_ | refine Jq3 ?_ | refine Jq4 ?_ | refine Jq8 ?_ | refine Jq9 ?_ | refine Jq11 ?_ | refine Jq12 ?_) | (k_unfold; (try dsimp only)) | (k_end; wrow_close) | walk1 | (dsimp only; walk1) | (leave1; walk_say "STEP leave1"; try dsimp only) | fail "no step"))
      rename Fr _ _ _ _ => Fc
      rename News _ _ _ _ => Nc
      exact ⟨rfl, _, _, _, rfl, Fc, (by ((intro zK hK1 hK2; simp only [List.mem_cons, List.not_mem_nil, or_false, not_or] at hK2; simp only [hK1, hK2, if_false, ↓reduceIte]))), _, _, co4, i4, oi4, rfl, (by rw [KBw.ints_length]; simp; (first | exact q483 (by assumption) (by assumption) | omega)), Nat.zero_le _, hI4, O4, C4.ni, news_sub Nc (fun p hp => .tail _ (.tail _ hp))⟩
    intro h5 tk5 m5 F5 hkp5 z0_
    refine via fun G_ hG_ => ?_
    obtain ⟨arr1, t5, co5, i5, oi5, hm5, hl5, _, hI5, O5, ni5, N5⟩ := z0_
    refine hG_ ?_
    clear hG_ G_
    rw [kdone0 hkp5 hm5] at F5
    clear Fc Nc
    (repeat' (first | ((with_reducible show wpAny _ _ (exec _ _) _ _ _); k_fold) | (with_reducible first | refine Jq14 ?_ | refine Jq13 ?_ | refine Jq5 ?_ | refine Jq0 ?_ | refine Jq1 ?_ | refine Jq2 ?_ | refine Jq7 ?_ | refine Jq3 ?_ | refine Jq4 ?_ | refine Jq8 ?_ | refine Jq9 ?_ | refine Jq10 ?_ | refine Jq11 ?_ | refine Jq12 ?_) | (k_unfold; (try dsimp only)) | (k_end; wrow_close) | walk1 | (dsimp only; walk1) | (leave1; walk_say "STEP leave1"; try dsimp only) | fail "no step"))
    unfold Hold
    rename Fr _ _ _ _ => Fc
    rename News _ _ _ _ => Nc
    refine midF Fc (Str.ofString "octets") [] (AheadJ s1.heap s1.heap.objs.size lx I D2 oI (listOf (List.toArray ys2) n2) fro (Str.ofString "octets") (KBw.bInts arr1).length ((KBw.bInts arr1).length + 28)) ?_ ?_
    · (repeat' (first | ((with_reducible show wpAny _ _ (exec _ _) _ _ _); k_fold) | (with_reducible first | refine Jq5 ?_ | refine Jq0 ?_ | refine Jq1 ?_ | refine Jq2 ?_ | refine Jq7 ?_ | refine Jq3 ?_ | refine Jq4 ?_ | refine Jq8 ?_ | refine Jq9 ?_ | refine Jq10 ?_ | refine Jq11 ?_ | refine Jq12 ?_) | (k_unfold; (try dsimp only)) | (k_end; wrow_close) | walk1 | (dsimp only; walk1) | (leave1; walk_say "STEP leave1"; try dsimp only) | fail "no step"))
      refine bjoin_method ?_
      (repeat' (first | ((with_reducible show wpAny _ _ (exec _ _) _ _ _); k_fold) | (with_reducible first | refine Jq5 ?_ | refine Jq0 ?_ | refine Jq1 ?_ | refine Jq2 ?_ | refine Jq7 ?_ | refine Jq3 ?_ | refine Jq4 ?_ | refine Jq8 ?_ | refine Jq9 ?_ | refine Jq10 ?_ | refine Jq11 ?_ | refine Jq12 ?_) | (k_unfold; (try dsimp only)) | (k_end; wrow_close) | walk1 | (dsimp only; walk1) | (leave1; walk_say "STEP leave1"; try dsimp only) | fail "no step"))
      unfold Hold
      rename Fr _ _ _ _ => Fc
      rename News _ _ _ _ => Nc
      refine LCp.ListComp_P (F₀ := Fc) (by with_unfolding_all rfl) (by decide) (by rfl) (by decide) (by rfl) (by rfl) (by decide) ?_
      repeat' (first | ((with_reducible show LCp.SrcLP _ _ _ _ _ _ _ _ _ _ _ _ _ _ _); refine Hold.out ?_) | walk1 | (dsimp only; walk1) | fail "no step")
      unfold Hold
      rename Fr _ _ _ _ => Fc
      rename News _ _ _ _ => Nc
      refine LCp.SrcLP.ledger G.hand Fc Nc (by fail "JMEM") (by rw [PySem.sizeLine_eq, List.size_toArray]; have := fo.2.1; have := PI.1; (first | exact q484 (by assumption) (by assumption) | omega)) fun g7 => ?_
      refine rest_P PI (fun p hp => .tail _ (.tail _ (.tail _ (.tail _ hp)))) (.inr ⟨_, (by fail "JMEM"), rfl, _, rfl⟩) ?_ ?_ _ 0 [] [] (by rw [Nat.add_zero, List.size_toArray]; exact PI.1) ⟨rfl, fun j b h => by simp at h⟩ rfl (fun _ m => nomatch m)
      · intro f t1 t2 ys' I' oI' C' oC' D' m₂ h' tk' E' hf hC hx hy F N off ne
        clear Fc Nc
        have hfb := fo.2.2 f hf
        (repeat' (first | ((with_reducible show wpAny _ _ (exec _ _) _ _ _); k_fold) | (with_reducible first | refine Jq5 ?_ | refine Jq0 ?_ | refine Jq1 ?_ | refine Jq2 ?_ | refine Jq7 ?_ | refine Jq3 ?_ | refine Jq4 ?_ | refine Jq8 ?_ | refine Jq9 ?_ | refine Jq11 ?_ | refine Jq12 ?_) | (k_unfold; (try dsimp only)) | (k_end; wrow_close) | walk1 | (dsimp only; walk1) | (leave1; walk_say "STEP leave1"; try dsimp only) | fail "no step"))
        rename Fr _ _ _ _ => Fc
        rename News _ _ _ _ => Nc
        refine bytes_K (vs := [_, _]) Fc Nc (News.isList Nc (.head _)) (.cons _ _ (.cons _ _ .nil)) (by
          intro n hn
          rcases List.mem_cons.mp hn with rfl | hn
          · rw [Int.fdiv_eq_ediv_of_nonneg _ (by decide)]; (first | exact q485 (by assumption) | omega)
          · rw [List.mem_singleton.mp hn, Int.fmod_eq_emod_of_nonneg _ (by decide)]; (first | exact q486 | omega)) (by rw [PySem.sizeLine_eq]; simp) G.hand fun h8 t8 k8 F8 N8 _ => ?_
        exact ⟨_, _, _, _, rfl, rfl, rfl, F8, fun p hp => N8 p (.tail _ hp)⟩
      · intro ys' bs hb hl h2 D' h' tk' F N off
        clear Fc Nc
        have hflat : (bs.map Array.toList).flatten.length = 2 * fs.length := by
          rw [← hl]
          clear hb hl
          induction bs with
          | nil => rfl
          | cons b r ih =>
            have q : b.toList.length = 2 := h2 b (.head _)
            simp only [List.map_cons, List.flatten_cons, List.length_append, List.length_cons, q, ih fun c hc => h2 c (.tail _ hc)]
            (first | exact q487 | omega)
        have hfl := fo.2.1
        have hsz : (bs.map Array.toList).flatten.toArray.size = 2 * fs.length := by rw [List.size_toArray]; exact hflat
        (repeat' (first | ((with_reducible show wpAny _ _ (exec _ _) _ _ _); k_fold) | (with_reducible first | refine Jq5 ?_ | refine Jq0 ?_ | refine Jq1 ?_ | refine Jq2 ?_ | refine Jq7 ?_ | refine Jq3 ?_ | refine Jq4 ?_ | refine Jq8 ?_ | refine Jq9 ?_ | refine Jq11 ?_ | refine Jq12 ?_) | (k_unfold; (try dsimp only)) | (k_end; wrow_close) | walk1 | (dsimp only; walk1) | (leave1; walk_say "STEP leave1"; try dsimp only) | fail "no step"))
        rename Fr _ _ _ _ => Fc
        rename News _ _ _ _ => Nc
        refine bytes_join (News.isList Nc (.head _)) hb (by rw [PySem.sizeLine_eq, hflat]; (first | exact q488 (by assumption) (by assumption) | omega)) fun t8 k8 => ?_
        (repeat' (first | ((with_reducible show wpAny _ _ (exec _ _) _ _ _); k_fold) | (with_reducible first | refine Jq5 ?_ | refine Jq0 ?_ | refine Jq1 ?_ | refine Jq2 ?_ | refine Jq7 ?_ | refine Jq3 ?_ | refine Jq4 ?_ | refine Jq8 ?_ | refine Jq9 ?_ | refine Jq11 ?_ | refine Jq12 ?_) | (k_unfold; (try dsimp only)) | (k_end; wrow_close) | walk1 | (dsimp only; walk1) | (leave1; walk_say "STEP leave1"; try dsimp only) | fail "no step"))
        refine KBy.add_bytes (by have e1 := KBw.ints_length arr1; rw [hsz]; (first | exact q489 (by assumption) (by assumption) (by assumption) (by assumption) | omega)) fun t9 k9 => ?_
        (repeat' (first | ((with_reducible show wpAny _ _ (exec _ _) _ _ _); k_fold) | (with_reducible first | refine Jq5 ?_ | refine Jq0 ?_ | refine Jq1 ?_ | refine Jq2 ?_ | refine Jq7 ?_ | refine Jq3 ?_ | refine Jq4 ?_ | refine Jq8 ?_ | refine Jq9 ?_ | refine Jq11 ?_ | refine Jq12 ?_) | (k_unfold; (try dsimp only)) | (k_end; wrow_close) | walk1 | (dsimp only; walk1) | (leave1; walk_say "STEP leave1"; try dsimp only) | fail "no step"))
        rename Fr _ _ _ _ => Fe
        rename News _ _ _ _ => Nz
        exact ⟨rfl, _, _, _, rfl, Fe, (by ((intro zK hK1 hK2; simp only [List.mem_cons, List.not_mem_nil, or_false, not_or] at hK2; simp only [hK1, hK2, if_false, ↓reduceIte]))), _, _, co5, i5, oi5, rfl, (by rw [KBw.ints_length, KBw.ints_length, Array.size_append, hsz]; (first | exact q490 (by assumption) (by assumption) | omega)), (by rw [KBw.ints_length, KBw.ints_length, Array.size_append]; (first | exact q491 (by assumption) | omega)), hI5, O5, ni5, news_sub Nz (fun p hp => .tail _ hp)⟩
    intro h7 tk7 m7 F7 hkp7 z0_
    refine via fun G_ hG_ => ?_
    obtain ⟨arr2, t7, co7, i7, oi7, hm7, hl7, hl7', hI7, O7, ni7, N7⟩ := z0_
    refine hG_ ?_
    clear hG_ G_
    rw [kdone0 hkp7 hm7] at F7
    clear Fc Nc
    (repeat' (first | ((with_reducible show wpAny _ _ (exec _ _) _ _ _); k_fold) | (with_reducible first | refine Jq14 ?_ | refine Jq13 ?_ | refine Jq5 ?_ | refine Jq0 ?_ | refine Jq1 ?_ | refine Jq2 ?_ | refine Jq7 ?_ | refine Jq3 ?_ | refine Jq4 ?_ | refine Jq8 ?_ | refine Jq9 ?_ | refine Jq10 ?_ | refine Jq11 ?_ | refine Jq12 ?_) | (k_unfold; (try dsimp only)) | (k_end; wrow_close) | walk1 | (dsimp only; walk1) | (leave1; walk_say "STEP leave1"; try dsimp only) | fail "no step"))
    unfold Hold
    rename Fr _ _ _ _ => Fc
    rename News _ _ _ _ => Nc
    refine midF Fc (Str.ofString "octets") [] (AheadJ s1.heap s1.heap.objs.size lx I D2 oI (listOf (List.toArray ys2) n2) fro (Str.ofString "octets") (KBw.bInts arr2).length ((KBw.bInts arr2).length + 2)) ?_ ?_
    · (repeat' (first | ((with_reducible show wpAny _ _ (exec _ _) _ _ _); k_fold) | (with_reducible first | refine Jq5 ?_ | refine Jq0 ?_ | refine Jq1 ?_ | refine Jq2 ?_ | refine Jq7 ?_ | refine Jq3 ?_ | refine Jq4 ?_ | refine Jq8 ?_ | refine Jq9 ?_ | refine Jq10 ?_ | refine Jq11 ?_ | refine Jq12 ?_) | (k_unfold; (try dsimp only)) | (k_end; wrow_close) | walk1 | (dsimp only; walk1) | (leave1; walk_say "STEP leave1"; try dsimp only) | fail "no step"))
      unfold Hold
      rename Fr _ _ _ _ => Fc
      rename News _ _ _ _ => Nc
      refine take_spec (c := lx) (i := i7) (G.inside B FR Fc rfl rfl) (law_td _) (law_tu _) (cells_back O7 nlx ni7 (Nc (lx, _) (by fail "JMEM")).1 (Nc (i7, _) (by fail "JMEM")).1) (by (first | exact q412 | omega)) (by (first | exact q413 | omega)) fun r8 tr8 h8 tk8 i8 hr8 hr8' ex8 C8 hi8 => ?_
      rename (_ < _ ∧ _ < _ ∧ _ < _ ∧ _ < _ ∧ AllLt _ _) => lts8
      refine via fun G_ hG_ => ?_
      obtain ⟨co8, oi8, O8, F8, N8, sep8⟩ := cells_fwd (pre := [_, _]) (post := (D2, _) :: fro) Fc Nc ex8 C8 hi8 (fun p hp => by
        rcases List.mem_cons.mp hp with rfl | hp
        · exact Nat.ne_of_gt lts8.2.1
        · rw [List.mem_singleton.mp hp]; exact hcI) hpost hcL
      refine hG_ ?_
      clear hG_ G_
      have hI8 : I ≠ i8 := sep8 I oI (Nc (I, oI) (by fail "JMEM")).1 hI7
      clear Fc Nc
      simp only [List.cons_append, List.nil_append] at N8
      (repeat' (first | ((with_reducible show wpAny _ _ (exec _ _) _ _ _); k_fold) | (with_reducible first | refine Jq5 ?_ | refine Jq0 ?_ | refine Jq1 ?_ | refine Jq2 ?_ | refine Jq7 ?_ | refine Jq3 ?_ | refine Jq4 ?_ | refine Jq8 ?_ | refine Jq9 ?_ | refine Jq11 ?_ | refine Jq12 ?_) | (k_unfold; (try dsimp only)) | (k_end; wrow_close) | walk1 | (dsimp only; walk1) | (leave1; walk_say "STEP leave1"; try dsimp only) | fail "no step"))
      rename Fr _ _ _ _ => Fc
      rename News _ _ _ _ => Nc
      rename IntsAre _ _ => I8
      refine bytes_K Fc Nc (News.isList Nc (by fail "JMEM")) I8 (by intro n hn; simp only [List.mem_flatten, List.mem_replicate] at hn; obtain ⟨_, ⟨_, rfl⟩, hn⟩ := hn; rw [List.mem_singleton.mp hn]; decide) (by rw [PySem.sizeLine_eq]; simp; (first | exact q492 (by assumption) (by assumption) | omega)) G.hand fun h9 t9 k9 F9 N9 _ => ?_
      clear Fc Nc
      (repeat' (first | ((with_reducible show wpAny _ _ (exec _ _) _ _ _); k_fold) | (with_reducible first | refine Jq5 ?_ | refine Jq0 ?_ | refine Jq1 ?_ | refine Jq2 ?_ | refine Jq7 ?_ | refine Jq3 ?_ | refine Jq4 ?_ | refine Jq8 ?_ | refine Jq9 ?_ | refine Jq11 ?_ | refine Jq12 ?_) | (k_unfold; (try dsimp only)) | (k_end; wrow_close) | walk1 | (dsimp only; walk1) | (leave1; walk_say "STEP leave1"; try dsimp only) | fail "no step"))
      refine KBy.add_bytes (by have e2 := KBw.ints_length arr2; rw [List.size_toArray]; simp; (first | exact q493 (by assumption) (by assumption) (by assumption) (by assumption) (by assumption) (by assumption) | omega)) fun t10 k10 => ?_
      (repeat' (first | ((with_reducible show wpAny _ _ (exec _ _) _ _ _); k_fold) | (with_reducible first | refine Jq5 ?_ | refine Jq0 ?_ | refine Jq1 ?_ | refine Jq2 ?_ | refine Jq7 ?_ | refine Jq3 ?_ | refine Jq4 ?_ | refine Jq8 ?_ | refine Jq9 ?_ | refine Jq11 ?_ | refine Jq12 ?_) | (k_unfold; (try dsimp only)) | (k_end; wrow_close) | walk1 | (dsimp only; walk1) | (leave1; walk_say "STEP leave1"; try dsimp only) | fail "no step"))
      rename Fr _ _ _ _ => Fe
      rename News _ _ _ _ => Nz
      exact ⟨rfl, _, _, _, rfl, Fe, (by ((intro zK hK1 hK2; simp only [List.mem_cons, List.not_mem_nil, or_false, not_or] at hK2; simp only [hK1, hK2, if_false, ↓reduceIte]))), _, _, co8, i8, oi8, rfl, (by rw [KBw.ints_length, KBw.ints_length, Array.size_append, List.size_toArray]; simp; (first | exact q494 (by assumption) (by assumption) | omega)), (by rw [KBw.ints_length, KBw.ints_length, Array.size_append]; (first | exact q495 | omega)), hI8, O8, C8.ni, news_sub Nz (fun p hp => .tail _ (.tail _ hp))⟩
    intro h11 tk11 m11 F11 hkp11 z0_
    refine via fun G_ hG_ => ?_
    obtain ⟨arr3, t11, co11, i11, oi11, hm11, hl11, hl11', hI11, O11, ni11, N11⟩ := z0_
    refine hG_ ?_
    clear hG_ G_
    rw [kdone0 hkp11 hm11] at F11
    clear Fc Nc
    (repeat' (first | ((with_reducible show wpAny _ _ (exec _ _) _ _ _); k_fold) | (with_reducible first | refine Jq14 ?_ | refine Jq13 ?_ | refine Jq5 ?_ | refine Jq0 ?_ | refine Jq1 ?_ | refine Jq2 ?_ | refine Jq7 ?_ | refine Jq3 ?_ | refine Jq4 ?_ | refine Jq8 ?_ | refine Jq9 ?_ | refine Jq10 ?_ | refine Jq11 ?_ | refine Jq12 ?_) | (k_unfold; (try dsimp only)) | (k_end; wrow_close) | walk1 | (dsimp only; walk1) | (leave1; walk_say "STEP leave1"; try dsimp only) | fail "no step"))
    unfold Hold
    rename Fr _ _ _ _ => Fc
    rename News _ _ _ _ => Nc
    refine midF Fc (Str.ofString "octets") [] (AheadJ s1.heap s1.heap.objs.size lx I D2 oI (listOf (List.toArray ys2) n2) fro (Str.ofString "octets") (KBw.bInts arr1).length (KBw.bInts arr3).length) ?_ ?_
    · (repeat' (first | ((with_reducible show wpAny _ _ (exec _ _) _ _ _); k_fold) | (with_reducible first | refine Jq5 ?_ | refine Jq0 ?_ | refine Jq1 ?_ | refine Jq2 ?_ | refine Jq7 ?_ | refine Jq3 ?_ | refine Jq4 ?_ | refine Jq8 ?_ | refine Jq9 ?_ | refine Jq10 ?_ | refine Jq11 ?_ | refine Jq12 ?_) | (k_unfold; (try dsimp only)) | (k_end; wrow_close) | walk1 | (dsimp only; walk1) | (leave1; walk_say "STEP leave1"; try dsimp only) | fail "no step"))
      unfold Hold
      rename Fr _ _ _ _ => Fc
      rename News _ _ _ _ => Nc
      refine take_spec (c := lx) (i := i11) (G.inside B FR Fc rfl rfl) (law_td _) (law_tu _) (cells_back O11 nlx ni11 (Nc (lx, _) (by fail "JMEM")).1 (Nc (i11, _) (by fail "JMEM")).1) (by (first | exact q414 | omega)) (by (first | exact q415 | omega)) fun r12 tr12 h12 tk12 i12 hr12 hr12' ex12 C12 hi12 => ?_
      refine via fun G_ hG_ => ?_
      obtain ⟨co12, oi12, O12, F12, N12, sep12⟩ := cells_fwd (pre := [_]) (post := (D2, _) :: fro) Fc Nc ex12 C12 hi12 hpr hpost hcL
      refine hG_ ?_
      clear hG_ G_
      have hI12 : I ≠ i12 := sep12 I oI (Nc (I, oI) (by fail "JMEM")).1 hI11
      clear Fc Nc
      simp only [List.cons_append, List.nil_append] at N12
      obtain ⟨ks1, hks1⟩ : ∃ ks, KBw.bInts arr1 = ks := ⟨_, rfl⟩
      obtain ⟨ks3, hks3⟩ : ∃ ks, KBw.bInts arr3 = ks := ⟨_, rfl⟩
      have le1 : ks1.length = (KBw.bInts arr1).length := by rw [hks1]
      have le3 : ks3.length = (KBw.bInts arr3).length := by rw [hks3]
      (repeat' (first | ((with_reducible show wpAny _ _ (exec _ _) _ _ _); k_fold) | (with_reducible first | refine Jq5 ?_ | refine Jq0 ?_ | refine Jq1 ?_ | refine Jq2 ?_ | refine Jq7 ?_ | refine Jq3 ?_ | refine Jq4 ?_ | refine Jq8 ?_ | refine Jq9 ?_ | refine Jq10 ?_ | refine Jq11 ?_ | refine Jq12 ?_) | (k_unfold; (try dsimp only)) | (k_end; wrow_close) | walk1 | (dsimp only; walk1) | (leave1; walk_say "STEP leave1"; try dsimp only) | fail "no step"))
      · unfold Hold
        rename Fr _ _ _ _ => Fc
        rename News _ _ _ _ => Nc
        refine take_spec (c := lx) (i := i12) (G.inside B FR Fc rfl rfl) (law_td _) (law_tu _) (cells_back O12 nlx C12.ni (Nc (lx, _) (by fail "JMEM")).1 (Nc (i12, _) (by fail "JMEM")).1) (by (first | exact q496 (by assumption) (by assumption) (by assumption) (by assumption) (by assumption) (by assumption) | omega)) (by (first | exact q497 (by assumption) (by assumption) (by assumption) (by assumption) (by assumption) (by assumption) | omega)) fun r13 tr13 h13 tk13 i13 hr13 hr13' ex13 C13 hi13 => ?_
        refine via fun G_ hG_ => ?_
        obtain ⟨co13, oi13, O13, F13, N13, sep13⟩ := cells_fwd (pre := [_]) (post := (D2, _) :: fro) Fc Nc ex13 C13 hi13 hpr hpost hcL
        refine hG_ ?_
        clear hG_ G_
        have hI13 : I ≠ i13 := sep13 I oI (Nc (I, oI) (by fail "JMEM")).1 hI12
        clear Fc Nc
        simp only [List.cons_append, List.nil_append] at N13
        (repeat' (first | ((with_reducible show wpAny _ _ (exec _ _) _ _ _); k_fold) | (with_reducible first | refine Jq5 ?_ | refine Jq0 ?_ | refine Jq1 ?_ | refine Jq2 ?_ | refine Jq7 ?_ | refine Jq3 ?_ | refine Jq4 ?_ | refine Jq8 ?_ | refine Jq9 ?_ | refine Jq10 ?_ | refine Jq11 ?_ | refine Jq12 ?_) | (k_unfold; (try dsimp only)) | (k_end; wrow_close) | walk1 | (dsimp only; walk1) | (leave1; walk_say "STEP leave1"; try dsimp only) | fail "no step"))
        rename Fr _ _ _ _ => Fe
        rename News _ _ _ _ => Nz
        rename (KBw.bInts (KBy.picked _ _ _) = _) => hk13
        have hcl : clipAt ks3.length ((ks1.length : Int) + r13) = min (ks1.length + r13.toNat) ks3.length := by
          rw [← clipAt_nat, show ((ks1.length + r13.toNat : Nat) : Int) = (ks1.length : Int) + r13 from by (first | exact q498 (by assumption) | omega)]
        have hlt : (KBw.bInts (KBy.picked arr3 none (some ((ks1.length : Int) + r13)))).length = min (min (ks1.length + r13.toNat) ks3.length) ks3.length := by rw [hk13, List.length_take, hcl]
        exact ⟨rfl, _, _, _, rfl, Fe, (by ((intro zK hK1 hK2; simp only [List.mem_cons, List.not_mem_nil, or_false, not_or] at hK2; simp only [hK1, hK2, if_false, ↓reduceIte]))), _, _, co13, i13, oi13, rfl, by (first | exact q499 (by assumption) (by assumption) | omega), by (first | exact q500 (by assumption) (by assumption) (by assumption) (by assumption) | omega), hI13, O13, C13.ni, Nz⟩
      · rename Fr _ _ _ _ => Fe
        rename News _ _ _ _ => Nz
        exact ⟨rfl, _, _, _, rfl, Fe, (by ((intro zK hK1 hK2; simp only [List.mem_cons, List.not_mem_nil, or_false, not_or] at hK2; simp only [hK1, hK2, if_false, ↓reduceIte]))), _, _, co12, i12, oi12, rfl, Nat.le_refl _, by (first | exact q501 (by assumption) (by assumption) (by assumption) (by assumption) (by assumption) (by assumption) | omega), hI12, O12, C12.ni, Nz⟩
    intro h14 tk14 m14 F14 hkp14 z0_
    refine via fun G_ hG_ => ?_
    obtain ⟨arr4, t14, co14, i14, oi14, hm14, hl14, hl14', hI14, O14, ni14, N14⟩ := z0_
    refine hG_ ?_
    clear hG_ G_
    rw [kdone0 hkp14 hm14] at F14
    clear Fc Nc
    (repeat' (first | ((with_reducible show wpAny _ _ (exec _ _) _ _ _); k_fold) | (with_reducible first | refine Jq5 ?_ | refine Jq0 ?_ | refine Jq1 ?_ | refine Jq2 ?_ | refine Jq7 ?_ | refine Jq3 ?_ | refine Jq4 ?_ | refine Jq8 ?_ | refine Jq9 ?_ | refine Jq10 ?_ | refine Jq11 ?_ | refine Jq12 ?_) | (k_unfold; (try dsimp only)) | (k_end; wrow_close) | walk1 | (dsimp only; walk1) | (leave1; walk_say "STEP leave1"; try dsimp only) | fail "no step"))
    unfold Hold
    rename Fr _ _ _ _ => Fc
    rename News _ _ _ _ => Nc
    refine dear_spec (D := D2) (G.inside B FR Fc rfl rfl) (Nat.le_trans (law_d _) (by decide)) (Nat.le_trans (law_u _) (by decide)) fo ⟨trivial, ys2, n2, (Nc (D2, _) (by fail "JMEM")).1, PI.mono fun T o hp => ⟨(Nc (T, o) (.tail _ (.tail _ (.tail _ (.tail _ hp))))).1, trivial⟩⟩ fun b15 h15 tk15 ex15 => ?_
    have F15 := fr_ext Fc ex15 (by simp) (fun b hb => nomatch hb)
    have N15 := news_ext Nc ex15 (fun p hp => by simp)
    clear Fc Nc
    obtain ⟨ks1, hks1⟩ : ∃ ks, KBw.bInts arr1 = ks := ⟨_, rfl⟩
    obtain ⟨ks4, hks4⟩ : ∃ ks, KBw.bInts arr4 = ks := ⟨_, rfl⟩
    have le1 : ks1.length = (KBw.bInts arr1).length := by rw [hks1]
    have le4 : ks4.length = (KBw.bInts arr4).length := by rw [hks4]
    cases b15 with
    | true =>
      (repeat' (first | ((with_reducible show wpAny _ _ (exec _ _) _ _ _); k_fold) | (with_reducible first | refine Jq5 ?_ | refine Jq0 ?_ | refine Jq1 ?_ | refine Jq2 ?_ | refine Jq7 ?_ | refine Jq3 ?_ | refine Jq4 ?_ | refine Jq8 ?_ | refine Jq9 ?_ | refine Jq10 ?_ | refine Jq11 ?_ | refine Jq12 ?_) | (k_unfold; (try dsimp only)) | (k_end; wrow_close) | walk1 | (dsimp only; walk1) | (leave1; walk_say "STEP leave1"; try dsimp only) | fail "no step"))
      rename Fr _ _ _ _ => Fe
      rename News _ _ _ _ => Nz
      refine ⟨_, _, _, (lx, co14) :: (i14, oi14) :: [], rfl, Fe, news_sub Nz (fun p hp => ?_), fun p hp => ?_, ⟨⟨co14, i14, oi14, rfl, O14, ni14⟩, ?_⟩⟩
      · simp only [List.mem_cons, List.not_mem_nil, or_false] at hp ⊢
        rcases hp with hp | hp | hp <;> simp only [hp, true_or, or_true]
      · rcases List.mem_cons.mp hp with rfl | hp
        · exact Ne.symm hcI
        · rw [List.mem_singleton.mp hp]; exact Ne.symm hI14
      · ((intro zK hK1 hK2; simp only [List.mem_cons, List.not_mem_nil, or_false, not_or] at hK2; simp only [hK1, hK2, if_false, ↓reduceIte]))
    | false =>
      (repeat' (first | ((with_reducible show wpAny _ _ (exec _ _) _ _ _); k_fold) | (with_reducible first | refine Jq5 ?_ | refine Jq0 ?_ | refine Jq1 ?_ | refine Jq2 ?_ | refine Jq7 ?_ | refine Jq3 ?_ | refine Jq4 ?_ | refine Jq8 ?_ | refine Jq9 ?_ | refine Jq10 ?_ | refine Jq11 ?_ | refine Jq12 ?_) | (k_unfold; (try dsimp only)) | (k_end; wrow_close) | walk1 | (dsimp only; walk1) | (leave1; walk_say "STEP leave1"; try dsimp only) | fail "no step"))
      unfold Hold
      rename Fr _ _ _ _ => Fc
      rename News _ _ _ _ => Nc
      refine right_spec (ks := ks4) (G.inside B FR Fc rfl rfl) (law_d _) (law_u _) hks4 (by (first | exact q502 (by assumption) (by assumption) (by assumption) (by assumption) (by assumption) (by assumption) (by assumption) (by assumption) | omega)) (by (first | exact q503 (by assumption) (by assumption) | omega)) (by (first | exact q504 (by assumption) (by assumption) (by assumption) | omega)) fun h16 tk16 kp16 => ?_
      obtain ⟨F16, N16⟩ := kept_law Fc Nc kp16
      clear Fc Nc
      (repeat' (first | ((with_reducible show wpAny _ _ (exec _ _) _ _ _); k_fold) | (with_reducible first | refine Jq5 ?_ | refine Jq0 ?_ | refine Jq1 ?_ | refine Jq2 ?_ | refine Jq7 ?_ | refine Jq3 ?_ | refine Jq4 ?_ | refine Jq8 ?_ | refine Jq9 ?_ | refine Jq10 ?_ | refine Jq11 ?_ | refine Jq12 ?_) | (k_unfold; (try dsimp only)) | (k_end; wrow_close) | walk1 | (dsimp only; walk1) | (leave1; walk_say "STEP leave1"; try dsimp only) | fail "no step"))
      rename Fr _ _ _ _ => Fe
      rename News _ _ _ _ => Nz
      refine ⟨_, _, _, (lx, co14) :: (i14, oi14) :: [], rfl, Fe, news_sub Nz (fun p hp => ?_), fun p hp => ?_, ⟨⟨co14, i14, oi14, rfl, O14, ni14⟩, ?_⟩⟩
      · simp only [List.mem_cons, List.not_mem_nil, or_false] at hp ⊢
        rcases hp with hp | hp | hp <;> simp only [hp, true_or, or_true]
      · rcases List.mem_cons.mp hp with rfl | hp
        · exact Ne.symm hcI
        · rw [List.mem_singleton.mp hp]; exact Ne.symm hI14
      · ((intro zK hK1 hK2; simp only [List.mem_cons, List.not_mem_nil, or_false, not_or] at hK2; simp only [hK1, hK2, if_false, ↓reduceIte]))
  · intro m₁ _ h tk z0_ hkp F N
    refine via fun G_ hG_ => ?_
    obtain ⟨co, i', oi', rfl, O, ni⟩ := z0_
    refine hG_ ?_
    clear hG_ G_
    (repeat' (first | ((with_reducible show wpAny _ _ (exec _ _) _ _ _); k_fold) | (with_reducible first | refine Jq0 ?_ | refine Jq1 ?_ | refine Jq2 ?_ | refine Jq3 ?_ | refine Jq4 ?_) | (k_unfold; (try dsimp only)) | (k_end; wrow_close) | walk1 | (dsimp only; walk1) | (leave1; walk_say "STEP leave1"; try dsimp only) | fail "no step")))
end
end Mine
theorem PySem.Challenge.cw_pb0173_01_holds : PySem.Challenge.rw_pb0173_01.Holds := by
  exact Mine.law_all
