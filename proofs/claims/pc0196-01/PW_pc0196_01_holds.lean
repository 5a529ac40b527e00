import PyProof.Rows.All
import Wide.All
import OpenK.AllK
import Wide.FinOn
import Lean
import PySem.Challenge.RW_pc0196_01
set_option Elab.async false
set_option maxRecDepth 100000
set_option rowWalk.seconds 0
set_option compiler.extract_closed false
section
open PySem PySem.W PyProof.Rows
namespace Mine
noncomputable abbrev PG : Program := Challenge.rw_pc0196_01.row.prog
noncomputable def VW : Program := { PG with main := { PG.main with body := PG.main.body.drop 29 } }
noncomputable def LS : List Str := ["_wall", "RowsError", "MachineFault", "Thrown", "error_kind", "error_value", "thrown", "unwound", "rethrown", "MOST_FRAMES", "Frame", "new_frame", "Frames", "Code", "_law_shaft", "_law_lift", "_law_new", "_law_seen", "_law_left_right", "_law_thrown_right", "_law_registers_right", "_law_again_right", "_law_many_right"]
theorem boot_same : opening PG = plainProg PG.main.scope.names := by kernel_rfl
theorem boot_fence (s : Shared) : fenceModules? PG s = some s := by kernel_rfl
theorem boot_ns (w : World) : (boot_heap w.params).isNs mainGlobals = true := by kernel_rfl
theorem boot_len (w : World) : (boot_heap w.params).objs.size = 11 := by kernel_rfl
theorem boot_ann (w : World) : (boot_heap w.params).nsMap mainGlobals "__annotations__" = some (.ref 6) := by kernel_rfl
/-- what the end of the top is asked, beside what is seen of it -/
noncomputable abbrev stood (w : World) (s : Shared) : Bool := staticsOk (importedModules PG.main.body) (boot_heap w.params) s.heap && namesBound PG s.heap && gensDone s && laidKept (boot_heap w.params) s.heap
/-- the top's run, told from where the library's boot ends; its own end need not be written out -/
theorem of_boot {q : Program} {loose : List Str} {Xt : Shared → Bool} {α : Type} {Yf : Shared → α} {Ya : World → α} {g0 : Bool} {M : Nat} (le : M ≤ 5000)
    (run : ∀ (w : World) (os : OsState), (topRun treeTable PG w 11 (some (.ref 6)) M ⟨boot_heap w.params, Array.mk [], boot_drawn, boot_toks, os⟩ (topStub PG)).map (fun s => (stood w s, openSeen q loose (importedModules PG.main.body) Xt g0 s, Yf s)) = some (true, openGood q loose, Ya w)) :
    LeftO PG q loose Xt Yf Ya 5000 g0 := by
  intro w
  have e := boot_open (N := 5000) boot_same rfl boot_fence w
  show ((fencedOpening treeTable PG w 5000).bind (topFrom treeTable PG w 5000)).map _ = _
  cases hs : fencedOpening treeTable PG w 5000 with
  | none => rw [hs] at e; cases e
  | some s =>
    rw [hs] at e
    obtain ⟨h, gs, d, k, os⟩ := s
    simp only [Option.map_some, Option.some.injEq, Prod.mk.injEq] at e
    obtain ⟨e1, e2, e3, e4⟩ := e
    subst e1 e2 e3 e4
    have r := run w os
    cases ht : topRun treeTable PG w 11 (some (.ref 6)) M ⟨boot_heap w.params, Array.mk [], boot_drawn, boot_toks, os⟩ (topStub PG) with
    | none => rw [ht] at r; cases r
    | some s₁ =>
      rw [ht] at r
      simp only [Option.map_some, Option.some.injEq, Prod.mk.injEq] at r
      have far := topRun_mono (5000 - M) _ _ _ _ ht
      rw [Nat.add_sub_cancel' le] at far
      have h2 : topFrom treeTable PG w 5000 ⟨boot_heap w.params, Array.mk [], boot_drawn, boot_toks, os⟩ = some s₁ := by
        have z : ((boot_heap w.params).isNs mainGlobals && (Array.mk ([] : List GenState)).size == 0) = true := by rw [boot_ns w]; rfl
        unfold topFrom
        simp only [z, boot_len, boot_ann, far, Option.bind_some]
        rw [show (staticsOk (importedModules PG.main.body) (boot_heap w.params) s₁.heap && namesBound PG s₁.heap && gensDone s₁ && laidKept (boot_heap w.params) s₁.heap) = true from r.1]
      rw [Option.bind_some, h2, Option.map_some, r.2.1, r.2.2]
theorem foo : VW.main.body.length = 1 := by kernel_rfl
end Mine
namespace Mine
/-- the objects of a stretch, in the order of their addresses: those of m, else those of f -/
noncomputable def lay : Nat → Nat → List (Nat × Obj) → List (Nat × Obj) → List Obj
  | 0, _, _, _ => []
  | n + 1, a, f, (b, o) :: m => match Nat.beq b a with
    | true => o :: lay n (a + 1) (match f with | (c, x) :: f => (match Nat.beq c a with | true => f | false => (c, x) :: f) | [] => []) m
    | false => match f with | (_, x) :: f => x :: lay n (a + 1) f ((b, o) :: m) | [] => []
  | n + 1, a, f, [] => match f with | (_, x) :: f => x :: lay n (a + 1) f [] | [] => []
/-- what stands there behind the sixteenth statement, and stands not at the end, or is not written out -/
noncomputable def midC (P : Params) : List (Nat × Obj) := [
  (23, { cls := Value.type "builtin_function_or_method", data := Data.fields #[Value.builtin "type.__prepare__", Value.type "type"] }),
  (24, { cls := Value.type "dict", data := Data.dict #[{ hash := PyData.keyHash P "__module__", key := Value.str "__module__" 203, val := Value.str "methodrows.errors" 194 }, { hash := PyData.keyHash P "__qualname__", key := Value.str "__qualname__" 205, val := Value.str "RowsError" 204 }, { hash := PyData.keyHash P "__firstlineno__", key := Value.str "__firstlineno__" 207, val := Value.int 5 206 }, { hash := PyData.keyHash P "__init__", key := Value.str "__init__" 216, val := Value.ref 36 }, { hash := PyData.keyHash P "__static_attributes__", key := Value.str "__static_attributes__" 219, val := Value.ref 37 }] 5 }),
  (25, { cls := Value.type "tuple", data := Data.seq #[] }),
  (26, { cls := Value.none, data := Data.fields #[Value.int 7 0, Value.int 4 0, Value.ref 35] }),
  (27, { cls := Value.type "code", data := Data.fields #[Value.str "RowsError" 198, Value.str "RowsError" 199, Value.str "/claim/cut.py" 200, Value.int 5 0, Value.int 0 0, Value.int 0 0, Value.int 0 0, Value.int 0 0, Value.ref 25, Value.bool false, Value.int 181 0, Value.ref 26, Value.none, Value.none, Value.none, Value.none, Value.int 201 0, Value.int 5 0, Value.str "/claim/cut.py" 202] }),
  (28, { cls := Value.type "frame", slots := #[some (Value.ref 27), some (Value.ref 3), some (Value.ref 24), none, some (Value.str "methodrows.errors" 194), none, some (Value.ref 0)] }),
  (41, { cls := Value.type "super", data := Data.fields #[Value.ref 39, Value.ref 39, Value.ref 39] }),
  (42, { cls := Value.type "builtin_function_or_method", data := Data.fields #[Value.builtin "object.__init_subclass__", Value.ref 39] }),
  (44, { cls := Value.type "builtin_function_or_method", data := Data.fields #[Value.builtin "type.__prepare__", Value.type "type"] }),
  (45, { cls := Value.type "dict", data := Data.dict #[{ hash := PyData.keyHash P "__module__", key := Value.str "__module__" 234, val := Value.str "methodrows.errors" 194 }, { hash := PyData.keyHash P "__qualname__", key := Value.str "__qualname__" 236, val := Value.str "MachineFault" 235 }, { hash := PyData.keyHash P "__firstlineno__", key := Value.str "__firstlineno__" 238, val := Value.int 11 237 }, { hash := PyData.keyHash P "__static_attributes__", key := Value.str "__static_attributes__" 239, val := Value.ref 50 }] 4 }),
  (46, { cls := Value.type "tuple", data := Data.seq #[] }),
  (47, { cls := Value.none, data := Data.fields #[] }),
  (48, { cls := Value.type "code", data := Data.fields #[Value.str "MachineFault" 229, Value.str "MachineFault" 230, Value.str "/claim/cut.py" 231, Value.int 11 0, Value.int 0 0, Value.int 0 0, Value.int 0 0, Value.int 0 0, Value.ref 46, Value.bool false, Value.int 181 0, Value.ref 47, Value.none, Value.none, Value.none, Value.none, Value.int 232 0, Value.int 11 0, Value.str "/claim/cut.py" 233] }),
  (49, { cls := Value.type "frame", slots := #[some (Value.ref 48), some (Value.ref 3), some (Value.ref 45), none, some (Value.str "methodrows.errors" 194), none, some (Value.ref 0)] }),
  (53, { cls := Value.type "super", data := Data.fields #[Value.ref 52, Value.ref 52, Value.ref 52] }),
  (54, { cls := Value.type "builtin_function_or_method", data := Data.fields #[Value.builtin "object.__init_subclass__", Value.ref 52] }),
  (56, { cls := Value.type "builtin_function_or_method", data := Data.fields #[Value.builtin "type.__prepare__", Value.type "type"] }),
  (57, { cls := Value.type "dict", data := Data.dict #[{ hash := PyData.keyHash P "__module__", key := Value.str "__module__" 250, val := Value.str "methodrows.errors" 194 }, { hash := PyData.keyHash P "__qualname__", key := Value.str "__qualname__" 252, val := Value.str "Thrown" 251 }, { hash := PyData.keyHash P "__firstlineno__", key := Value.str "__firstlineno__" 254, val := Value.int 13 253 }, { hash := PyData.keyHash P "__init__", key := Value.str "__init__" 262, val := Value.ref 68 }, { hash := PyData.keyHash P "__static_attributes__", key := Value.str "__static_attributes__" 264, val := Value.ref 69 }] 5 }),
  (58, { cls := Value.type "tuple", data := Data.seq #[] }),
  (59, { cls := Value.none, data := Data.fields #[Value.int 15 0, Value.int 4 0, Value.ref 67] }),
  (60, { cls := Value.type "code", data := Data.fields #[Value.str "Thrown" 245, Value.str "Thrown" 246, Value.str "/claim/cut.py" 247, Value.int 13 0, Value.int 0 0, Value.int 0 0, Value.int 0 0, Value.int 0 0, Value.ref 58, Value.bool false, Value.int 181 0, Value.ref 59, Value.none, Value.none, Value.none, Value.none, Value.int 248 0, Value.int 13 0, Value.str "/claim/cut.py" 249] }),
  (61, { cls := Value.type "frame", slots := #[some (Value.ref 60), some (Value.ref 3), some (Value.ref 57), none, some (Value.str "methodrows.errors" 194), none, some (Value.ref 0)] }),
  (72, { cls := Value.type "super", data := Data.fields #[Value.ref 71, Value.ref 71, Value.ref 71] }),
  (73, { cls := Value.type "builtin_function_or_method", data := Data.fields #[Value.builtin "object.__init_subclass__", Value.ref 71] }),
  (109, { cls := Value.type "tuple", data := Data.seq #[] }),
  (110, { cls := Value.type "builtin_function_or_method", data := Data.fields #[Value.builtin "type.__prepare__", Value.type "type"] }),
  (111, { cls := Value.type "dict", data := Data.dict #[{ hash := PyData.keyHash P "__module__", key := Value.str "__module__" 322, val := Value.str "methodrows.frames" 311 }, { hash := PyData.keyHash P "__qualname__", key := Value.str "__qualname__" 324, val := Value.str "Frame" 323 }, { hash := PyData.keyHash P "__firstlineno__", key := Value.str "__firstlineno__" 326, val := Value.int 38 325 }, { hash := PyData.keyHash P "__init__", key := Value.str "__init__" 338, val := Value.ref 122 }, { hash := PyData.keyHash P "put", key := Value.str "put" 347, val := Value.ref 129 }, { hash := PyData.keyHash P "get", key := Value.str "get" 356, val := Value.ref 136 }, { hash := PyData.keyHash P "values", key := Value.str "values" 362, val := Value.ref 141 }, { hash := PyData.keyHash P "captured", key := Value.str "captured" 370, val := Value.ref 148 }, { hash := PyData.keyHash P "enter", key := Value.str "enter" 378, val := Value.ref 155 }, { hash := PyData.keyHash P "leave", key := Value.str "leave" 386, val := Value.ref 162 }, { hash := PyData.keyHash P "catch", key := Value.str "catch" 394, val := Value.ref 169 }, { hash := PyData.keyHash P "__static_attributes__", key := Value.str "__static_attributes__" 403, val := Value.ref 170 }] 12 }),
  (112, { cls := Value.type "tuple", data := Data.seq #[] }),
  (113, { cls := Value.none, data := Data.fields #[Value.int 40 0, Value.int 4 0, Value.ref 121, Value.int 50 0, Value.int 4 0, Value.ref 128, Value.int 53 0, Value.int 4 0, Value.ref 135, Value.int 59 0, Value.int 4 0, Value.ref 140, Value.int 62 0, Value.int 4 0, Value.ref 147, Value.int 65 0, Value.int 4 0, Value.ref 154, Value.int 68 0, Value.int 4 0, Value.ref 161, Value.int 73 0, Value.int 4 0, Value.ref 168] }),
  (114, { cls := Value.type "code", data := Data.fields #[Value.str "Frame" 317, Value.str "Frame" 318, Value.str "/claim/cut.py" 319, Value.int 38 0, Value.int 0 0, Value.int 0 0, Value.int 0 0, Value.int 0 0, Value.ref 112, Value.bool false, Value.int 181 0, Value.ref 113, Value.none, Value.none, Value.none, Value.none, Value.int 320 0, Value.int 38 0, Value.str "/claim/cut.py" 321] }),
  (115, { cls := Value.type "frame", slots := #[some (Value.ref 114), some (Value.ref 3), some (Value.ref 111), none, some (Value.str "methodrows.frames" 311), none, some (Value.ref 0)] }),
  (175, { cls := Value.type "super", data := Data.fields #[Value.ref 172, Value.ref 172, Value.ref 172] }),
  (176, { cls := Value.type "builtin_function_or_method", data := Data.fields #[Value.builtin "object.__init_subclass__", Value.ref 172] })]
noncomputable def mid1 (P : Params) : List (Nat × Obj) := (3, { cls := Value.type "dict", data := Data.dict #[{ hash := PyData.keyHash P "__name__", key := Value.str "__name__" 165, val := Value.str "methodrows.frames" 311 }, { hash := PyData.keyHash P "__doc__", key := Value.str "__doc__" 166, val := Value.none }, { hash := PyData.keyHash P "__package__", key := Value.str "__package__" 167, val := Value.none }, { hash := PyData.keyHash P "__loader__", key := Value.str "__loader__" 168, val := Value.builtin "__main__.__loader__#opaque" }, { hash := PyData.keyHash P "__spec__", key := Value.str "__spec__" 169, val := Value.none }, { hash := PyData.keyHash P "__annotations__", key := Value.str "__annotations__" 170, val := Value.ref 6 }, { hash := PyData.keyHash P "__builtins__", key := Value.str "__builtins__" 171, val := Value.ref 4 }, { hash := PyData.keyHash P "__file__", key := Value.str "__file__" 173, val := Value.str "/claim/cut.py" 172 }, { hash := PyData.keyHash P "__cached__", key := Value.str "__cached__" 174, val := Value.none }, { hash := PyData.keyHash P "_wall", key := Value.str "_wall" 193, val := Value.ref 21 }, { hash := PyData.keyHash P "RowsError", key := Value.str "RowsError" 226, val := Value.ref 39 }, { hash := PyData.keyHash P "MachineFault", key := Value.str "MachineFault" 242, val := Value.ref 52 }, { hash := PyData.keyHash P "Thrown", key := Value.str "Thrown" 267, val := Value.ref 71 }, { hash := PyData.keyHash P "error_kind", key := Value.str "error_kind" 276, val := Value.ref 80 }, { hash := PyData.keyHash P "error_value", key := Value.str "error_value" 284, val := Value.ref 87 }, { hash := PyData.keyHash P "thrown", key := Value.str "thrown" 292, val := Value.ref 94 }, { hash := PyData.keyHash P "unwound", key := Value.str "unwound" 303, val := Value.ref 101 }, { hash := PyData.keyHash P "rethrown", key := Value.str "rethrown" 310, val := Value.ref 108 }, { hash := PyData.keyHash P "MOST_FRAMES", key := Value.str "MOST_FRAMES" 314, val := Value.int 200 313 }, { hash := PyData.keyHash P "Frame", key := Value.str "Frame" 410, val := Value.ref 172 }, { hash := PyData.keyHash P "new_frame", key := Value.str "new_frame" 422, val := Value.ref 183 }] 21 }) :: (12, { cls := Value.none, data := Data.fields #[Value.int 1 0, Value.int 0 0, Value.ref 20, Value.int 5 0, Value.int 0 0, Value.ref 27, Value.int 11 0, Value.int 0 0, Value.ref 48, Value.int 13 0, Value.int 0 0, Value.ref 60, Value.int 19 0, Value.int 0 0, Value.ref 79, Value.int 21 0, Value.int 0 0, Value.ref 86, Value.int 23 0, Value.int 0 0, Value.ref 93, Value.int 26 0, Value.int 0 0, Value.ref 100, Value.int 32 0, Value.int 0 0, Value.ref 107, Value.int 38 0, Value.int 0 0, Value.ref 114, Value.int 79 0, Value.int 0 0, Value.ref 182] }) :: midC P
/-- as mid1, behind the twenty-third -/
noncomputable def midL (P : Params) : List (Nat × Obj) := [
  (184, { cls := Value.type "tuple", data := Data.seq #[] }),
  (185, { cls := Value.type "builtin_function_or_method", data := Data.fields #[Value.builtin "type.__prepare__", Value.type "type"] }),
  (186, { cls := Value.type "dict", data := Data.dict #[{ hash := PyData.keyHash P "__module__", key := Value.str "__module__" 430, val := Value.str "methodrows.frames" 311 }, { hash := PyData.keyHash P "__qualname__", key := Value.str "__qualname__" 432, val := Value.str "Frames" 431 }, { hash := PyData.keyHash P "__firstlineno__", key := Value.str "__firstlineno__" 434, val := Value.int 82 433 }, { hash := PyData.keyHash P "__init__", key := Value.str "__init__" 441, val := Value.ref 197 }, { hash := PyData.keyHash P "many", key := Value.str "many" 448, val := Value.ref 204 }, { hash := PyData.keyHash P "top", key := Value.str "top" 455, val := Value.ref 211 }, { hash := PyData.keyHash P "push", key := Value.str "push" 463, val := Value.ref 218 }, { hash := PyData.keyHash P "pop", key := Value.str "pop" 470, val := Value.ref 225 }, { hash := PyData.keyHash P "cut", key := Value.str "cut" 478, val := Value.ref 232 }, { hash := PyData.keyHash P "world", key := Value.str "world" 486, val := Value.ref 239 }, { hash := PyData.keyHash P "__static_attributes__", key := Value.str "__static_attributes__" 488, val := Value.ref 240 }] 11 }),
  (187, { cls := Value.type "tuple", data := Data.seq #[] }),
  (188, { cls := Value.none, data := Data.fields #[Value.int 84 0, Value.int 4 0, Value.ref 196, Value.int 87 0, Value.int 4 0, Value.ref 203, Value.int 90 0, Value.int 4 0, Value.ref 210, Value.int 93 0, Value.int 4 0, Value.ref 217, Value.int 98 0, Value.int 4 0, Value.ref 224, Value.int 101 0, Value.int 4 0, Value.ref 231, Value.int 104 0, Value.int 4 0, Value.ref 238] }),
  (189, { cls := Value.type "code", data := Data.fields #[Value.str "Frames" 425, Value.str "Frames" 426, Value.str "/claim/cut.py" 427, Value.int 82 0, Value.int 0 0, Value.int 0 0, Value.int 0 0, Value.int 0 0, Value.ref 187, Value.bool false, Value.int 181 0, Value.ref 188, Value.none, Value.none, Value.none, Value.none, Value.int 428 0, Value.int 82 0, Value.str "/claim/cut.py" 429] }),
  (190, { cls := Value.type "frame", slots := #[some (Value.ref 189), some (Value.ref 3), some (Value.ref 186), none, some (Value.str "methodrows.frames" 311), none, some (Value.ref 0)] }),
  (245, { cls := Value.type "super", data := Data.fields #[Value.ref 242, Value.ref 242, Value.ref 242] }),
  (246, { cls := Value.type "builtin_function_or_method", data := Data.fields #[Value.builtin "object.__init_subclass__", Value.ref 242] }),
  (247, { cls := Value.type "tuple", data := Data.seq #[] }),
  (248, { cls := Value.type "builtin_function_or_method", data := Data.fields #[Value.builtin "type.__prepare__", Value.type "type"] }),
  (249, { cls := Value.type "dict", data := Data.dict #[{ hash := PyData.keyHash P "__module__", key := Value.str "__module__" 505, val := Value.str "methodrows.ir" 496 }, { hash := PyData.keyHash P "__qualname__", key := Value.str "__qualname__" 507, val := Value.str "Code" 506 }, { hash := PyData.keyHash P "__firstlineno__", key := Value.str "__firstlineno__" 509, val := Value.int 107 508 }, { hash := PyData.keyHash P "__init__", key := Value.str "__init__" 523, val := Value.ref 264 }, { hash := PyData.keyHash P "with_rows", key := Value.str "with_rows" 532, val := Value.ref 271 }, { hash := PyData.keyHash P "__static_attributes__", key := Value.str "__static_attributes__" 540, val := Value.ref 272 }] 6 }),
  (250, { cls := Value.type "tuple", data := Data.seq #[] }),
  (251, { cls := Value.none, data := Data.fields #[Value.int 109 0, Value.int 4 0, Value.ref 263, Value.int 118 0, Value.int 4 0, Value.ref 270] }),
  (252, { cls := Value.type "code", data := Data.fields #[Value.str "Code" 500, Value.str "Code" 501, Value.str "/claim/cut.py" 502, Value.int 107 0, Value.int 0 0, Value.int 0 0, Value.int 0 0, Value.int 0 0, Value.ref 250, Value.bool false, Value.int 181 0, Value.ref 251, Value.none, Value.none, Value.none, Value.none, Value.int 503 0, Value.int 107 0, Value.str "/claim/cut.py" 504] }),
  (253, { cls := Value.type "frame", slots := #[some (Value.ref 252), some (Value.ref 3), some (Value.ref 249), none, some (Value.str "methodrows.ir" 496), none, some (Value.ref 0)] }),
  (277, { cls := Value.type "super", data := Data.fields #[Value.ref 274, Value.ref 274, Value.ref 274] }),
  (278, { cls := Value.type "builtin_function_or_method", data := Data.fields #[Value.builtin "object.__init_subclass__", Value.ref 274] })]
noncomputable def mid2 (P : Params) : List (Nat × Obj) := (3, { cls := Value.type "dict", data := Data.dict #[{ hash := PyData.keyHash P "__name__", key := Value.str "__name__" 165, val := Value.str "law_pc0196_01" 548 }, { hash := PyData.keyHash P "__doc__", key := Value.str "__doc__" 166, val := Value.none }, { hash := PyData.keyHash P "__package__", key := Value.str "__package__" 167, val := Value.none }, { hash := PyData.keyHash P "__loader__", key := Value.str "__loader__" 168, val := Value.builtin "__main__.__loader__#opaque" }, { hash := PyData.keyHash P "__spec__", key := Value.str "__spec__" 169, val := Value.none }, { hash := PyData.keyHash P "__annotations__", key := Value.str "__annotations__" 170, val := Value.ref 6 }, { hash := PyData.keyHash P "__builtins__", key := Value.str "__builtins__" 171, val := Value.ref 4 }, { hash := PyData.keyHash P "__file__", key := Value.str "__file__" 173, val := Value.str "/claim/cut.py" 172 }, { hash := PyData.keyHash P "__cached__", key := Value.str "__cached__" 174, val := Value.none }, { hash := PyData.keyHash P "_wall", key := Value.str "_wall" 193, val := Value.ref 21 }, { hash := PyData.keyHash P "RowsError", key := Value.str "RowsError" 226, val := Value.ref 39 }, { hash := PyData.keyHash P "MachineFault", key := Value.str "MachineFault" 242, val := Value.ref 52 }, { hash := PyData.keyHash P "Thrown", key := Value.str "Thrown" 267, val := Value.ref 71 }, { hash := PyData.keyHash P "error_kind", key := Value.str "error_kind" 276, val := Value.ref 80 }, { hash := PyData.keyHash P "error_value", key := Value.str "error_value" 284, val := Value.ref 87 }, { hash := PyData.keyHash P "thrown", key := Value.str "thrown" 292, val := Value.ref 94 }, { hash := PyData.keyHash P "unwound", key := Value.str "unwound" 303, val := Value.ref 101 }, { hash := PyData.keyHash P "rethrown", key := Value.str "rethrown" 310, val := Value.ref 108 }, { hash := PyData.keyHash P "MOST_FRAMES", key := Value.str "MOST_FRAMES" 314, val := Value.int 200 313 }, { hash := PyData.keyHash P "Frame", key := Value.str "Frame" 410, val := Value.ref 172 }, { hash := PyData.keyHash P "new_frame", key := Value.str "new_frame" 422, val := Value.ref 183 }, { hash := PyData.keyHash P "Frames", key := Value.str "Frames" 495, val := Value.ref 242 }, { hash := PyData.keyHash P "Code", key := Value.str "Code" 547, val := Value.ref 274 }, { hash := PyData.keyHash P "_law_shaft", key := Value.str "_law_shaft" 559, val := Value.ref 285 }, { hash := PyData.keyHash P "_law_lift", key := Value.str "_law_lift" 568, val := Value.ref 292 }, { hash := PyData.keyHash P "_law_new", key := Value.str "_law_new" 574, val := Value.ref 297 }] 26 }) :: (12, { cls := Value.none, data := Data.fields #[Value.int 1 0, Value.int 0 0, Value.ref 20, Value.int 5 0, Value.int 0 0, Value.ref 27, Value.int 11 0, Value.int 0 0, Value.ref 48, Value.int 13 0, Value.int 0 0, Value.ref 60, Value.int 19 0, Value.int 0 0, Value.ref 79, Value.int 21 0, Value.int 0 0, Value.ref 86, Value.int 23 0, Value.int 0 0, Value.ref 93, Value.int 26 0, Value.int 0 0, Value.ref 100, Value.int 32 0, Value.int 0 0, Value.ref 107, Value.int 38 0, Value.int 0 0, Value.ref 114, Value.int 79 0, Value.int 0 0, Value.ref 182, Value.int 82 0, Value.int 0 0, Value.ref 189, Value.int 107 0, Value.int 0 0, Value.ref 252, Value.int 121 0, Value.int 0 0, Value.ref 284, Value.int 127 0, Value.int 0 0, Value.ref 291, Value.int 134 0, Value.int 0 0, Value.ref 296] }) :: (midC P ++ midL P)
noncomputable def heapA (f : Params → Frag) (P : Params) : Heap := ⟨(lay 15 0 (f P) [(2, boot_o_2 P), (3, boot_o_3 P), (12, { cls := Value.none, data := Data.fields #[] })]).toArray, {}⟩
noncomputable def heapM (f : Params → Frag) (P : Params) : Heap := ⟨(lay 184 0 (f P) (mid1 P)).toArray, {}⟩
noncomputable def heapN (f : Params → Frag) (P : Params) : Heap := ⟨(lay 298 0 (f P) (mid2 P)).toArray, {}⟩
noncomputable abbrev EV : Env := { scope := PG.main.scope, locals := mainNs, globals := mainNs, cells := [], code := .ref 13, frame := some 14 }
noncomputable abbrev BD : List Stmt := behindTheImports PG
noncomputable abbrev CD : Code := .body BD EV
noncomputable abbrev Z0 : Pos := ⟨0, 0, 0, 0⟩
noncomputable abbrev Z1 : Pos := ⟨79, 0, 81, 96⟩
noncomputable abbrev Z2 : Pos := ⟨134, 0, 136, 108⟩
abbrev Pre (f : Params → Frag) : Prop := ∀ (w : World) (os : OsState), topGo treeTable PG w 11 (some (.ref 6)) 12 ⟨boot_heap w.params, Array.mk [], boot_drawn, boot_toks, os⟩ (topStub PG) = some (⟨heapA f w.params, Array.mk [], {}, 187, os⟩, ⟨denote treeTable CD, CD, Z0, [topFrame Z0]⟩)
abbrev Block (f : Params → Frag) : Prop := ∀ (w : World) (os : OsState), segRun treeTable PG w 11 (some (.ref 6)) 1 1 ⟨heapA f w.params, Array.mk [], {}, 187, os⟩ (blockOf BD EV CD Z0 [topFrame Z0]) = some (.next, ⟨heapA f w.params, Array.mk [], {}, 187, os⟩, CD, Z0)
abbrev Seg1 (f : Params → Frag) : Prop := ∀ (w : World) (os : OsState), segRun treeTable PG w 11 (some (.ref 6)) 1 1402 ⟨heapA f w.params, Array.mk [], {}, 187, os⟩ (piecesOf (BD.take 16) EV CD Z0 [topFrame Z0]) = some (.next, ⟨heapM f w.params, Array.mk [], {}, 423, os⟩, CD, Z1)
abbrev Seg2 (f : Params → Frag) : Prop := ∀ (w : World) (os : OsState), segRun treeTable PG w 11 (some (.ref 6)) 1 792 ⟨heapM f w.params, Array.mk [], {}, 423, os⟩ (piecesOf ((BD.drop 16).take 7) EV CD Z1 [topFrame Z0]) = some (.next, ⟨heapN f w.params, Array.mk [], {}, 575, os⟩, CD, Z2)
abbrev Fin3 (q : Program) (loose : List Str) (Xt : Shared → Bool) (g0 : Bool) (f : Params → Frag) (as : List Addr) (hk : ∀ P, as = (f P).map (·.1)) : Prop :=
  ∀ (w : World) (os : OsState), (topRun treeTable PG w 11 (some (.ref 6)) 1000 ⟨heapN f w.params, Array.mk [], {}, 575, os⟩ (restOf ((BD.drop 16).drop 7) EV CD Z2 [topFrame Z0])).map (fun s => (stood w s, openSeen q loose (importedModules PG.main.body) Xt g0 s, (kHook f as hk).obs s)) = some (true, openGood q loose, (kHook f as hk).val w)
theorem of_mid {q : Program} {loose : List Str} {Xt : Shared → Bool} {f : Params → Frag} {as : List Addr} {hk : ∀ P, as = (f P).map (·.1)} {g0 : Bool} (pre : Pre f) (block : Block f) (seg1 : Seg1 f) (seg2 : Seg2 f) (fin : Fin3 q loose Xt g0 f as hk) :
    LeftO PG q loose Xt (kHook f as hk).obs (kHook f as hk).val 5000 g0 := of_boot (M := 12 + (1 + (1402 + (792 + 1000)))) (by decide) fun w os => by
  obtain ⟨r, e, l⟩ := Option.map_eq_some_iff.mp (fin w os)
  have k2 := piece_app (seg2 w os) e
  rw [List.take_append_drop] at k2
  have k := piece_app (seg1 w os) k2
  rw [List.take_append_drop] at k
  rw [go_top (pre w os) (piece_block (block w os) k)]
  exact congrArg some l
local macro_rules | `(tactic| k_head) => `(tactic| x_head)
local macro_rules | `(tactic| o_head $H) => `(tactic| refine holds_open (q := VW) (loose := LS) (Xt := fun s => xlAt VW [] s && recOk [] s) (XP := XL VW []) (Yf := Hook.obs $H) (Ya := Hook.val $H) (YP := Hook.says $H) (N := 5000) (And.left ?both) (Hook.of $H) (Hook.keeps $H) (fun s e => xl_of s (Bool.and_eq_true_iff.mp e).1) XL.keeps (by rfl) (by rfl) (by rfl) (fun s e => recFacts_of (Bool.and_eq_true_iff.mp e).2) (by rfl) (by first | assumption | decide +kernel) (by decide +kernel) ⟨rfl, rfl, rfl, rfl, rfl, by decide +kernel⟩ ?hw (And.right ?both))
set_option maxHeartbeats 8000000 in
open_top hd for PySem.Challenge.rw_pc0196_01
noncomputable abbrev AS : List Addr := [0, 1, 2, 3, 4, 5, 6, 7, 8, 9, 10, 11, 12, 13, 14, 15, 16, 17, 18, 19, 20, 21, 22, 29, 30, 31, 32, 33, 34, 35, 36, 37, 38, 39, 40, 43, 50, 51, 52, 55, 62, 63, 64, 65, 66, 67, 68, 69, 70, 71, 74, 75, 76, 77, 78, 79, 80, 81, 82, 83, 84, 85, 86, 87, 88, 89, 90, 91, 92, 93, 94, 95, 96, 97, 98, 99, 100, 101, 102, 103, 104, 105, 106, 107, 108, 116, 117, 118, 119, 120, 121, 122, 123, 124, 125, 126, 127, 128, 129, 130, 131, 132, 133, 134, 135, 136, 137, 138, 139, 140, 141, 142, 143, 144, 145, 146, 147, 148, 149, 150, 151, 152, 153, 154, 155, 156, 157, 158, 159, 160, 161, 162, 163, 164, 165, 166, 167, 168, 169, 170, 171, 172, 173, 174, 177, 178, 179, 180, 181, 182, 183, 191, 192, 193, 194, 195, 196, 197, 198, 199, 200, 201, 202, 203, 204, 205, 206, 207, 208, 209, 210, 211, 212, 213, 214, 215, 216, 217, 218, 219, 220, 221, 222, 223, 224, 225, 226, 227, 228, 229, 230, 231, 232, 233, 234, 235, 236, 237, 238, 239, 240, 241, 242, 243, 244, 254, 255, 256, 257, 258, 259, 260, 261, 262, 263, 264, 265, 266, 267, 268, 269, 270, 271, 272, 273, 274, 275, 276, 279, 280, 281, 282, 283, 284, 285, 286, 287, 288, 289, 290, 291, 292, 293, 294, 295, 296, 297, 298, 299, 300, 301, 302, 303, 304, 305, 306, 307, 308, 309, 310, 311, 312, 313, 314, 315, 316, 317, 318, 319, 320, 321, 322, 323, 324, 325, 326, 327, 328, 329, 330, 331, 332, 333, 334, 335, 336, 337, 338, 339, 340, 341, 342]
theorem hk : ∀ P, AS = (hd.heap_39 P).map (·.1) := fun _ => by kernel_rfl
theorem top_pre : Pre hd.heap_39 := by intro w os; kernel_rfl
theorem top_block : Block hd.heap_39 := by intro w os; kernel_rfl
theorem top_seg1 : Seg1 hd.heap_39 := by intro w os; kernel_rfl
theorem top_seg2 : Seg2 hd.heap_39 := by intro w os; kernel_rfl
theorem top_fin : Fin3 VW LS (fun s => xlAt VW [] s && recOk [] s) true hd.heap_39 AS hk := by intro w os; kernel_rfl
theorem top_left : LeftO PG VW LS (fun s => xlAt VW [] s && recOk [] s) (kHook hd.heap_39 AS hk).obs (kHook hd.heap_39 AS hk).val 5000 true := of_mid top_pre top_block top_seg1 top_seg2 top_fin
end Mine
end
section
open PySem PySem.W PyProof.Rows
namespace Mine
/-- the scope of law -/
noncomputable def lawScope : Scope := match PG.theDef (Str.ofString "law") with | some (_, _, s) => s | none => default
noncomputable abbrev lawEnv (L fa : Addr) (cd : Value) : Env := envOf (Str.ofString "law") lawScope L fa cd
end Mine
end
section
open PySem PySem.W PySem.W.X PyProof.Rows PySem.Calls
namespace Mine

/-- a weak surrounding: what holds there holds in every shallower one -/
abbrev A1 : Around := { handled := none, depth := 600, frames := none, guards := none, units := 1000 }
theorem weak {α : Type} {M : Model} {A : Around} {t : Sem α} {Q : α → Shared → Prop} {E : Value → Shared → Prop} {s : Shared} (h : wpAny M A1 t Q E s) (hh : A.handled = none) (hd : A.depth ≤ 600) (hu : A.units ≤ 1000) :
    wpAny M A t Q E s := fun Γ p hΓ => h Γ p ⟨hΓ.1.trans hh, Nat.le_trans hΓ.2.1 hd, nofun, nofun, Nat.le_trans hΓ.2.2.2.2 hu⟩

theorem builtins_at {w : World} {h : Heap} (X : (hd.heap_39 w.params).In h) : h.get? (nat_lit 0) = some ⟨(boot_o_0 w.params).cls, (boot_o_0 w.params).dict, (boot_o_0 w.params).data, (boot_o_0 w.params).slots⟩ := X _ _ (by kernel_rfl)

theorem fill (w : World) (h : Heap) : Challenge.rw_pc0196_01.row.prog = Challenge.rw_pc0196_01.row.prog ∧ ((hd.heap_39 w.params).In h → (hd.heap_39 w.params).In h) := by
  k_fill
  exact ⟨rfl, id⟩

/-- an exception of an own class, as its making leaves it -/
abbrev excO (C : Addr) (t : Addr) (de : Addr) : Obj := { cls := .ref C, dict := some de, data := .fields #[.ref t, .none, .none, .none, .bool false, .none] }
abbrev tupO (l : List Value) : Obj := { cls := .type "tuple", data := .seq l.toArray }

theorem str_message : (⟨⟨[109, 101, 115, 115, 97, 103, 101]⟩⟩ : Str) = Str.ofString "message" := by decide +kernel
theorem str_spot : (⟨⟨[115, 112, 111, 116]⟩⟩ : Str) = Str.ofString "spot" := by decide +kernel
theorem str_value : (⟨⟨[118, 97, 108, 117, 101]⟩⟩ : Str) = Str.ofString "value" := by decide +kernel

/-- what the making of a Thrown leaves -/
structure MadeT (h h' : Heap) (v : Value) (e t de : Addr) (k1 k2 k3 : Int) (t1 t2 t3 : Tok) (mv tv : Value) : Prop where
  keeps : ∀ b o, h.get? b = some o → h'.get? b = some o
  he : h'.get? e = some (excO 71 t de)
  ht : h'.get? t = some (tupO [tv])
  hde : h'.get? de = some (dictOf [⟨k1, .str (Str.ofString "message") t1, mv⟩, ⟨k2, .str (Str.ofString "spot") t2, .none⟩, ⟨k3, .str (Str.ofString "value") t3, v⟩] 3)
  ne : h.get? e = none
  nt : h.get? t = none
  nde : h.get? de = none
  d1 : e ≠ t
  d2 : e ≠ de
  d3 : t ≠ de

def EndT (s : Shared) (v : Value) (Q : Value → Shared → Prop) : Prop := ∀ h' tk e t de k1 k2 k3 t1 t2 t3 mv tv, MadeT s.heap h' v e t de k1 k2 k3 t1 t2 t3 mv tv → Q (.ref e) { s with heap := h', toks := tk }

theorem keeps_of {h h' : Heap} {news : List (Addr × Obj)} (D : Mem h h' [] news) : ∀ b o, h.get? b = some o → h'.get? b = some o := fun b o e => D.keep b o e (by simp [away])

theorem EndT.use {s : Shared} {v : Value} {Q : Value → Shared → Prop} {h' : Heap} {tk : Nat} {e t de x3 x4 x6 : Addr} {o3 o4 o6 : Obj} {k1 k2 k3 : Int} {t1 t2 t3 : Tok} {mv tv : Value} (H : EndT s v Q)
    (D : Mem s.heap h' [] [(de, ⟨.type "dict", none, .dict ⟨[⟨k1, .str ⟨⟨[109, 101, 115, 115, 97, 103, 101]⟩⟩ t1, mv⟩, ⟨k2, .str ⟨⟨[115, 112, 111, 116]⟩⟩ t2, .none⟩, ⟨k3, .str ⟨⟨[118, 97, 108, 117, 101]⟩⟩ t3, v⟩]⟩ (0 + 1 + 1 + 1), #[]⟩),
      (t, ⟨.type "tuple", none, .seq ⟨[tv]⟩ 0, #[]⟩), (x3, o3), (x4, o4), (e, ⟨.ref 71, some de, .fields ⟨[.ref t, .none, .none, .none, .bool false, .none]⟩, #[]⟩), (x6, o6)]) :
    Q (.ref e) ⟨h', s.gens, s.drawn, tk, s.os⟩ := by
  rw [str_message, str_spot, str_value] at D
  refine H h' tk e t de k1 k2 k3 t1 t2 t3 mv tv ⟨keeps_of D, (D.nw _ (.tail _ (.tail _ (.tail _ (.tail _ (.head _)))))).1, (D.nw _ (.tail _ (.head _))).1, (D.nw _ (.head _)).1, (D.nw _ (.tail _ (.tail _ (.tail _ (.tail _ (.head _)))))).2, (D.nw _ (.tail _ (.head _))).2, (D.nw _ (.head _)).2, ?_, ?_, ?_⟩
  · exact (D.ne 1 4 t e _ _ rfl rfl rfl).symm
  · exact (D.ne 0 4 de e _ _ rfl rfl rfl).symm
  · exact (D.ne 0 1 de t _ _ rfl rfl rfl).symm

local macro_rules | `(tactic| x_close) => `(tactic| (exact EndT.use (by assumption) (by assumption)))
theorem thrown_x {prog : Program} {w : World} {s : Shared} {Q E : Value → Shared → Prop} {v : Addr} (X : (hd.heap_39 w.params).In s.heap) (H : EndT s (.ref v) Q) :
    wpAny (model prog w) A1 (call (.ref 71) [.ref v]) Q E s := by
  have hb := builtins_at X
  x_run

/-- what the making of a MachineFault leaves -/
structure MadeM (h h' : Heap) (e t de : Addr) (k1 k2 : Int) (t1 t2 : Tok) (mv tv : Value) : Prop where
  keeps : ∀ b o, h.get? b = some o → h'.get? b = some o
  he : h'.get? e = some (excO 52 t de)
  ht : h'.get? t = some (tupO [tv])
  hde : h'.get? de = some (dictOf [⟨k1, .str (Str.ofString "message") t1, mv⟩, ⟨k2, .str (Str.ofString "spot") t2, .none⟩] 2)
  ne : h.get? e = none
  nt : h.get? t = none
  nde : h.get? de = none
  d1 : e ≠ t
  d2 : e ≠ de
  d3 : t ≠ de

def EndM (s : Shared) (Q : Value → Shared → Prop) : Prop := ∀ h' tk e t de k1 k2 t1 t2 mv tv, MadeM s.heap h' e t de k1 k2 t1 t2 mv tv → Q (.ref e) { s with heap := h', toks := tk }

theorem EndM.use {s : Shared} {Q : Value → Shared → Prop} {h' : Heap} {tk : Nat} {e t de x3 x6 : Addr} {o3 o6 : Obj} {k1 k2 : Int} {t1 t2 : Tok} {mv tv : Value} (H : EndM s Q)
    (D : Mem s.heap h' [] [(de, ⟨.type "dict", none, .dict ⟨[⟨k1, .str ⟨⟨[109, 101, 115, 115, 97, 103, 101]⟩⟩ t1, mv⟩, ⟨k2, .str ⟨⟨[115, 112, 111, 116]⟩⟩ t2, .none⟩]⟩ (0 + 1 + 1), #[]⟩),
      (t, ⟨.type "tuple", none, .seq ⟨[tv]⟩ 0, #[]⟩), (x3, o3), (e, ⟨.ref 52, some de, .fields ⟨[.ref t, .none, .none, .none, .bool false, .none]⟩, #[]⟩), (x6, o6)]) :
    Q (.ref e) ⟨h', s.gens, s.drawn, tk, s.os⟩ := by
  rw [str_message, str_spot] at D
  refine H h' tk e t de k1 k2 t1 t2 mv tv ⟨keeps_of D, (D.nw _ (.tail _ (.tail _ (.tail _ (.head _))))).1, (D.nw _ (.tail _ (.head _))).1, (D.nw _ (.head _)).1, (D.nw _ (.tail _ (.tail _ (.tail _ (.head _))))).2, (D.nw _ (.tail _ (.head _))).2, (D.nw _ (.head _)).2, ?_, ?_, ?_⟩
  · exact (D.ne 1 3 t e _ _ rfl rfl rfl).symm
  · exact (D.ne 0 3 de e _ _ rfl rfl rfl).symm
  · exact (D.ne 0 1 de t _ _ rfl rfl rfl).symm
local macro_rules | `(tactic| x_close) => `(tactic| (exact EndM.use (by assumption) (by assumption)))
theorem fault_x {prog : Program} {w : World} {s : Shared} {Q E : Value → Shared → Prop} {x : Str} {tk : Tok} (X : (hd.heap_39 w.params).In s.heap) (H : EndM s Q) :
    wpAny (model prog w) A1 (call (.ref 52) [.str x tk]) Q E s := by
  have hb := builtins_at X
  x_run
end Mine
end
section
open PySem PySem.W PySem.W.X PyProof.Rows PySem.Calls
namespace Mine
set_option maxHeartbeats 4000000
theorem fill2 (w : World) (h : Heap) : Challenge.rw_pc0196_01.row.prog = Challenge.rw_pc0196_01.row.prog ∧ ((hd.heap_39 w.params).In h → (hd.heap_39 w.params).In h) := by
  k_fill
  exact ⟨rfl, id⟩
def EndV (s : Shared) (v : Value) (Q : Value → Shared → Prop) : Prop := ∀ tk, Q v { s with toks := tk }
theorem EndV.use {s : Shared} {v : Value} {Q : Value → Shared → Prop} {tk : Nat} (H : EndV s v Q) : Q v ⟨s.heap, s.gens, s.drawn, tk, s.os⟩ := H tk
local macro_rules | `(tactic| x_close) => `(tactic| (exact EndV.use (by assumption)))
theorem value_x {w : World} {hd0 : Option Value} {s : Shared} {Q E : Value → Shared → Prop} {e de v : Addr} {k1 k2 k3 : Int} {t1 t2 t3 : Tok} {mv : Value} {ws : Array Value} {sl : Array (Option Value)} {n : Nat} {ex : Bool} (X : (hd.heap_39 w.params).In s.heap)
    (he : s.heap.get? e = some ⟨.ref 71, some de, .fields ws, sl⟩)
    (hde : s.heap.get? de = some ⟨.type "dict", none, .dict ⟨[⟨k1, .str (Str.ofString "message") t1, mv⟩, ⟨k2, .str (Str.ofString "spot") t2, .none⟩, ⟨k3, .str (Str.ofString "value") t3, .ref v⟩]⟩ n, #[]⟩)
    (H : EndV s (.ref v) Q) : wpAny (model Challenge.rw_pc0196_01.row.prog w) { A1 with handled := hd0 } (getAttr (.ref e) (Str.ofString "value") ex) Q E s := by
  obtain ⟨hh, gg, dd, tt, oo⟩ := s
  dsimp only at X he hde
  unfold getAttr getAttrBy
  refine wpAny_bind (wpAny_mkText (wpAny_holding (wpAny_bind (wpAny_typeOf_ref he ?_))))
  dsimp only
  refine wpAny_bind (Looks.at (looks_findIn X (t := .ref 71) (name := "__getattribute__") (r := some (.builtin "BaseException.__getattribute__")) (by kernel_rfl)) ?_)
  show wpAny _ _ (getAttrByItsOwn _ _ _ _ _ _) _ _ _
  unfold getAttrByItsOwn
  refine wpAny_bind (Looks.at (looks_findIn X (t := .ref 71) (name := "__getattr__") (r := none) (by kernel_rfl)) ?_)
  have hb := builtins_at X
  cases ex <;> x_run
end Mine
end
section
open PySem PySem.W PyProof.Rows PySem.Calls PyProof.V PySem.Spec
namespace Mine
theorem room_is (k : Int) : (if k > k + 2 then k else k + 2) - k = 2 := by
  rw [if_neg (by omega)]
  omega
theorem fmod_bd {x k : Int} (h : 2 < k) : 0 ≤ x.fmod k ∧ x.fmod k < k := ⟨Int.fmod_nonneg_of_pos _ (by omega), Int.fmod_lt_of_pos _ (by omega)⟩
theorem fdiv_nn {x k : Int} (hx : 0 ≤ x) (h : 2 < k) : 0 ≤ x.fdiv k := Int.fdiv_nonneg hx (by omega)
section
variable {prog : Program} {w : World} {A : Around} {E : Value → Shared → Prop} {s : Shared} {h₀ : Heap} {L : Addr} {m : Str → Option Value} {news news' : List (Addr × Obj)} {value slice : Expr} {a : Addr} {xs : List Value} {n : Nat} {u : Tok} {x v : Value}
theorem item_last {Q : Value → Shared → Prop} (N : News h₀ L s.heap news) (hm : (a, listOf (xs ++ [x]).toArray n) ∈ news) (hfit : xs.length ≤ 1000) (h : Q x s)
    (hs : subscripted slice false (.ref a) (.int (-1) u) = operate [.ref a, .int (-1) u] (getItem (.ref a) (.int (-1) u)) := by with_unfolding_all rfl) (hg : ∀ r, letTemporaryGo value (.ref a) r = pure () := by intro _; with_unfolding_all rfl) :
    wpAny (model prog w) A (subscriptTail value slice (.ref a) (.int (-1) u)) Q E s := by
  refine kim_back (l := xs ++ [x]) (k := -1) N hm rfl rfl (by decide) (by simp only [List.length_append, List.length_cons, List.length_nil]; omega) (by decide) ?_ h hs hg
  rw [show (-1 + ((xs ++ [x]).length : Int)).toNat = xs.length by simp only [List.length_append, List.length_cons, List.length_nil]; omega]
  simp
theorem setL_last (x v : Value) : ∀ l : List Value, ki_setL (l ++ [x]) l.length v = some (l ++ [v])
  | [] => rfl
  | y :: r => by
    show (match ki_setL (r ++ [x]) r.length v with | some q => some (y :: q) | none => none) = _
    rw [setL_last x v r]
    rfl
theorem set_last {Q : Unit → Shared → Prop} (F : Fr h₀ L s.heap m) (N : News h₀ L s.heap news) (hm : (a, listOf (xs ++ [x]).toArray n) ∈ news) (U : Upd a (listOf (xs ++ [x]).toArray n) (listOf (xs ++ [v]).toArray n) news news') (hfit : xs.length ≤ 1000)
    (h : ∀ h', Fr h₀ L h' m → News h₀ L h' news' → Q () { s with heap := h' }) : wpAny (model prog w) A (setItem (.ref a) (.int (-1) u) v) Q E s := by
  refine ki_setNeg (j := xs.length) F N (by decide) (by decide) ?_ (by simpa using setL_last x v xs) U h
  rw [PySem.seqIndex_neg (by decide) (by simp only [List.size_toArray, List.length_append, List.length_cons, List.length_nil]; omega)]
  congr 1
  simp only [List.size_toArray, List.length_append, List.length_cons, List.length_nil]
  omega
theorem pop_last {Q : Value → Shared → Prop} (F : Fr h₀ L s.heap m) (N : News h₀ L s.heap news) (hm : (a, listOf (xs ++ [x]).toArray n) ∈ news) (U : Upd a (listOf (xs ++ [x]).toArray n) (listOf xs.toArray (n + 1)) news news') (hfit : xs.length ≤ 1000)
    (h : ∀ h', Fr h₀ L h' m → News h₀ L h' news' → Q x { s with heap := h' }) : wpAny (model prog w) A (call (.builtin "list.pop") [.ref a]) Q E s := by
  refine kl_pop F N (p := xs) (y := x) (by simpa using kpa_last x xs) U ?_ h
  rw [PySem.sizeLine_eq]
  simp only [List.toList_toArray, List.length_append, List.length_cons, List.length_nil]
  omega
theorem len_news {its : Array Value} {Q : Value → Shared → Prop} (N : News h₀ L s.heap news) (hm : (a, listOf its n) ∈ news) (hfit : its.size ≤ 1000)
    (h : Q (.int its.size (s.toks + 1)) { s with toks := s.toks + 1 + 1 }) : wpAny (model prog w) A (call (.builtin "len") [.ref a]) Q E s := by
  refine len_list (N.isList hm) (by omega) h
end
open PySem.AutoSeq1 (wpAny_loadPart')
theorem meets_tuple_same (l : Addr) (o : Obj) (items : Array Value) (n : Nat) (hc : o.cls = .type "tuple") (hd : o.data = .seq items n) :
    Meets (Builtin.«tuple.__new__» ⟨[.type "tuple", .ref l], []⟩) (fun _ R s => s.heap.get? l = some o ∧ R (.ok (.ret (.ref l))) s) :=
  .of_wp fun prog w A R s h => by
    obtain ⟨hp, g, d, tk, os⟩ := s; obtain ⟨ht, h⟩ := h
    have hsub := sub_tuple_self
    have hinit := init_tuple_lookup
    have hmh := madeHere_tuple
    have hT : Shared.TypeIs ⟨hp, g, d, tk, os⟩ (.ref l) "tuple" := ⟨o, ht, hc⟩
    wp_walk using wpAny_loadPart' ht, wpAny_typeOf hT
    exact ⟨_, rfl, h⟩
section
variable {prog : Program} {w : World} {A : Around} {E : Value → Shared → Prop} {s : Shared}
theorem call_tuple_same {t : Addr} {items : Array Value} {Q : Value → Shared → Prop} (ht : IsTup s.heap t items) (h : Q (.ref t) s) : wpAny (model prog w) A (call (.type "tuple") [.ref t]) Q E s := by
  obtain ⟨o, ho, hc, n, hd⟩ := ht
  exact callType_new F.called_tuple (by decide) (F.typeCall_tuple_1 _) (F.newCall_tuple_1 _) (fun obj => F.args_object_init_2 obj _) F.entry_tuple_new
    (meets_tuple_same t o items n hc hd) ⟨ho, ⟨⟨o, ho, hc⟩, h⟩⟩
theorem tuple_same_K {KF : Frag} {h₀ : Heap} {L : Addr} {m : Str → Option Value} {t : Addr} {od : Option Addr} {items : Array Value} {n : Nat} {osl : Array (Option Value)} {Q : Value → Shared → Prop} (F : Fr h₀ L s.heap m) (X : KF.In h₀) (hl : KF.lookup t = some ⟨.type "tuple", od, .seq items n, osl⟩) (h : Q (.ref t) s) :
    wpAny (model prog w) A (call (.type "tuple") [.ref t]) Q E s := call_tuple_same ⟨_, (X.keeps F.keep) _ _ hl, rfl, _, rfl⟩ h
end

theorem compEnd_one {h₀ : Heap} {L I C D t : Addr} {m : Str → Option Value} {s₁ : Shared} {o oI oC oD : Obj} {S : List (Addr × Obj) → Prop} {rest : Value → List (Addr × Obj) → Prop} {y : Value} {h' : Heap} {tk : Nat} {news : List (Addr × Obj)}
    (F : Fr h₀ L h' m) (N : News h₀ L h' ((t, o) :: (I, oI) :: (C, oC) :: (D, oD) :: news)) (off : LCg.Off3 I C D news) (h1 : @Ne Nat t I) (h2 : @Ne Nat t C) (h3 : @Ne Nat t D) (hS : S ((t, o) :: news)) (r : rest y ((t, o) :: news)) :
    LCg.CompEnd h₀ L m s₁ I oI C oC D oD S rest y { s₁ with heap := h', toks := tk } := by
  refine LCg.CompEnd.intro F N ((t, o) :: news) (fun p hp => ?_) ⟨⟨h1, h2, h3⟩, off⟩ hS r
  rcases List.mem_cons.mp hp with rfl | hp
  · exact .tail _ (.head _)
  rcases List.mem_cons.mp hp with rfl | hp
  · exact .tail _ (.tail _ (.head _))
  rcases List.mem_cons.mp hp with rfl | hp
  · exact .tail _ (.tail _ (.tail _ (.head _)))
  rcases List.mem_cons.mp hp with rfl | hp
  · exact .head _
  · exact .tail _ (.tail _ (.tail _ (.tail _ hp)))

theorem mul_two {prog : Program} {w : World} {A : Around} {E : Value → Shared → Prop} {s : Shared} {h₀ : Heap} {L : Addr} {m : Str → Option Value} {news : List (Addr × Obj)} {l : Addr} {v : Value} {c : Nat} {x : Int} {u : Tok} {Q : Value → Shared → Prop}
    (F : Fr h₀ L s.heap m) (N : News h₀ L s.heap news) (hm : (l, listOf #[v] c) ∈ news) (hx : x = 2)
    (h : ∀ D h', Fr h₀ L h' m → News h₀ L h' ((D, listOf #[v, v] 0) :: news) → (∀ p ∈ news, p.1 < D) → Q (.ref D) { s with heap := h' }) : wpAny (model prog w) A (binaryOp .Mult (.ref l) (.int x u)) Q E s := by
  subst hx
  exact KMa.mul (vs := [v]) (ws := [v, v]) F N (N.isList hm) (by decide) (by decide) (Nat.le_of_ble_eq_true rfl) rfl h

section
variable {prog : Program} {w : World} {A : Around} {h₀ : Heap} {L : Addr} {m : Str → Option Value} {env : Env} {elt : Expr} {x : Str} {scope : Scope} {cl : List (Str × Addr)} {s : Shared} {S : List (Addr × Obj) → Prop} {P : Nat → Value → Prop} {Fin : List Value → List (Addr × Obj) → Prop}
theorem compRest_ind {n : Nat} (G : Nat → List Value → List (Addr × Obj) → Prop)
    (step : ∀ i ys news, i < n → G i ys news → ∀ v I oI C oC D m₂ h tk (E' : Value → Shared → Prop), P i v → LCg.NsObj oC m₂ → m₂ x = some v → Fr h₀ L h m → News h₀ L h ((I, oI) :: (C, oC) :: (D, LCg.lst ys) :: news) → LCg.Off3 I C D news → ((@Ne Nat I C) ∧ (@Ne Nat I D) ∧ (@Ne Nat C D)) →
      wpAny (model prog w) A (eval elt (compEnvC scope cl C env)) (LCg.CompEnd h₀ L m { s with heap := h, toks := tk } I oI C oC D (LCg.lst ys) S (fun y news' => G (i + 1) (ys ++ [y]) news')) E' { s with heap := h, toks := tk })
    (last : ∀ ys news, G n ys news → Fin ys news) : ∀ k i ys news, i + k = n → G i ys news → LCg.CompRest prog w A h₀ L m env elt x scope cl s S P Fin k i ys news := by
  intro k
  induction k with
  | zero =>
    intro i ys news e g
    obtain rfl : i = n := e
    exact last _ _ g
  | succ k ih =>
    intro i ys news e g
    refine LCg.CompRest.succ fun v I oI C oC D m₂ h tk E' h1 h2 h3 h4 h5 h6 h7 => ?_
    refine wpAny_mono (step i ys news (by omega) g v I oI C oC D m₂ h tk E' h1 h2 h3 h4 h5 h6 h7) (fun y s₂ hE => ?_) fun _ _ q => q
    obtain ⟨h', tk', news', e1, e2, e3, e4, e5, e6⟩ := hE
    exact ⟨h', tk', news', e1, e2, e3, e4, e5, ih _ _ _ (by omega) e6⟩
end
theorem news_both {h₀ h : Heap} {L : Addr} {a b c : Addr × Obj} {news₀ news : List (Addr × Obj)} (N : News h₀ L h (a :: b :: c :: news)) (k : ∀ q ∈ news₀, q ∈ news) : News h₀ L h (a :: b :: c :: (news₀ ++ news)) := fun p hp => by
  refine N p ?_
  rcases List.mem_cons.mp hp with rfl | hp
  · exact .head _
  rcases List.mem_cons.mp hp with rfl | hp
  · exact .tail _ (.head _)
  rcases List.mem_cons.mp hp with rfl | hp
  · exact .tail _ (.tail _ (.head _))
  exact .tail _ (.tail _ (.tail _ ((List.mem_append.mp hp).elim (k p) id)))
theorem off3_both {I C D : Addr} {news₀ news : List (Addr × Obj)} (off : LCg.Off3 I C D news) (k : ∀ q ∈ news₀, q ∈ news) : LCg.Off3 I C D (news₀ ++ news) := LCg.Off3.of fun p hp => off.mem p ((List.mem_append.mp hp).elim (k p) id)
/-- any surrounding in which a def may run, and any def's environment -/
structure Gr where
  d : Nat
  outer : List Env
  gd : Option (List PySem.Code)
  u : Nat
  cn : Str
  nm : List (Str × NameKind)
  ig : Bool
  ic : Bool
  mr : List (Str × Const)
  fa : Addr
  cd : Value
abbrev Gr.A (g : Gr) : Around := ⟨none, g.d, some g.outer, g.gd, g.u⟩
abbrev Gr.env (g : Gr) (L : Addr) : Env := envOf g.cn ⟨.function, g.nm, g.ig, g.ic, g.mr⟩ L g.fa g.cd
/-- a stop of our own -/
def StopAt (P : Prop) : Prop := P
theorem StopAt.go {P : Prop} (h : StopAt P) : P := h

/-- the tuples of registers: address, two texts' tokens, the number's -/
abbrev Tup := Addr × Tok × Tok × Tok
def tupObjs (b : Int) : Int → List Tup → List (Addr × Obj)
  | _, [] => []
  | i, (p, y, z, w) :: r => (p, { cls := .type "tuple", data := .seq #[.str "int" y, .str "Int64" z, .int (b + i) w] }) :: tupObjs b (i + 1) r
def refs (ps : List Tup) : List Value := ps.map fun p => .ref p.1
theorem tupObjs_snoc (b : Int) (p : Tup) : ∀ (ps : List Tup) (i : Int), tupObjs b i (ps ++ [p]) = tupObjs b i ps ++ [(p.1, { cls := .type "tuple", data := .seq #[.str "int" p.2.1, .str "Int64" p.2.2.1, .int (b + (i + ps.length)) p.2.2.2] })]
  | [], i => by simp [tupObjs]
  | q :: r, i => by
    show _ :: tupObjs b (i + 1) (r ++ [p]) = _
    rw [tupObjs_snoc b p r (i + 1)]
    rw [show i + 1 + (r.length : Int) = i + ((q :: r).length : Nat) by simp; omega]
    rfl
/-- the turns of a comprehension of such tuples -/
def TupTurn (b : Int) (news₀ : List (Addr × Obj)) (i : Nat) (ys : List Value) (news : List (Addr × Obj)) : Prop :=
  ∃ ps : List Tup, ps.length = i ∧ ys = refs ps ∧ (∀ q ∈ news₀, q ∈ news) ∧ (∀ q ∈ tupObjs b 0 ps, q ∈ news) ∧ (∀ p ∈ ps, ∀ q ∈ news₀, q.1 ≠ p.1)
theorem TupTurn.zero (b : Int) (news : List (Addr × Obj)) : TupTurn b news 0 [] news := ⟨[], rfl, rfl, fun _ h => h, by simp [tupObjs], by simp⟩
theorem TupTurn.zeroS (b : Int) {news₀ news : List (Addr × Obj)} (h : news₀.Sublist news) : TupTurn b news₀ 0 [] news := ⟨[], rfl, rfl, fun _ q => h.subset q, by simp [tupObjs], by simp⟩
theorem TupTurn.next {b c : Int} {news₀ news : List (Addr × Obj)} {i : Nat} {ys : List Value} {t : Addr} {y z w : Tok} (h : TupTurn b news₀ i ys news) (hc : c = b + i) (ht : ∀ q ∈ news₀, q.1 < t) :
    TupTurn b news₀ (i + 1) (ys ++ [.ref t]) ((t, { cls := .type "tuple", data := .seq #[.str "int" y, .str "Int64" z, .int c w] }) :: (news₀ ++ news)) := by
  obtain ⟨ps, h1, h2, h3, h4, h5⟩ := h
  subst hc
  refine ⟨ps ++ [(t, y, z, w)], by simp [h1], by simp [refs, h2], fun q hq => .tail _ (List.mem_append_left _ hq), fun q hq => ?_, fun p hp q hq => ?_⟩
  · rw [tupObjs_snoc] at hq
    rcases List.mem_append.mp hq with hq | hq
    · exact .tail _ (List.mem_append_right _ (h4 q hq))
    · rw [List.mem_singleton.mp hq, h1, Int.zero_add]
      exact .head _
  · rcases List.mem_append.mp hp with hp | hp
    · exact h5 p hp q hq
    · rw [List.mem_singleton.mp hp]
      exact Nat.ne_of_lt (ht q hq)

section
variable {prog : Program} {w : World} {A : Around} {E : Value → Shared → Prop} {s : Shared} {h₀ : Heap} {L : Addr} {m : Str → Option Value} {news : List (Addr × Obj)} {a b : Addr} {Q : Value → Shared → Prop}
theorem copy_abs {its : Array Value} {n : Nat} (F : Fr h₀ L s.heap m) (N : News h₀ L s.heap news) (hm : (b, listOf its n) ∈ news) (hz : its.size ≤ 1000)
    (h : ∀ D c h', Fr h₀ L h' m → News h₀ L h' ((D, listOf its c) :: news) → (∀ q ∈ news, q.1 < D) → Q (.ref D) { s with heap := h' }) : wpAny (model prog w) A (call (.type "list") [.ref b]) Q E s :=
  list_copyK F N (N.isList hm) h (by rw [PySem.sizeLine_eq]; omega)
theorem add_abs {vs ws : List Value} {n n' : Nat} (F : Fr h₀ L s.heap m) (N : News h₀ L s.heap news) (ha : (a, listOf vs.toArray n) ∈ news) (hb : (b, listOf ws.toArray n') ∈ news) (hz : vs.length + ws.length ≤ 1000)
    (h : ∀ D h', Fr h₀ L h' m → News h₀ L h' ((D, listOf (vs ++ ws).toArray 0) :: news) → (∀ p ∈ news, p.1 < D) → Q (.ref D) { s with heap := h' }) : wpAny (model prog w) A (binaryOp .Add (.ref a) (.ref b)) Q E s :=
  kmk_add_lit F N (N.isList ha) (N.isList hb) (by simp) h (by rw [PySem.sizeLine_eq]; simp; omega)
end

theorem lt_left {t : Addr} {a b c : Addr × Obj} {news₀ news : List (Addr × Obj)} (h : ∀ p ∈ a :: b :: c :: (news₀ ++ news), p.1 < t) : ∀ q ∈ news₀, q.1 < t := fun q hq => h q (.tail _ (.tail _ (.tail _ (List.mem_append_left _ hq))))
theorem fin_news {h₀ h : Heap} {L : Addr} {a : Addr × Obj} {news₀ news ts : List (Addr × Obj)} (N : News h₀ L h (a :: news)) (k : ∀ q ∈ news₀, q ∈ news) (k2 : ∀ q ∈ ts, q ∈ news) : News h₀ L h (a :: (news₀ ++ ts)) := fun p hp => by
  refine N p ?_
  rcases List.mem_cons.mp hp with rfl | hp
  · exact .head _
  exact .tail _ ((List.mem_append.mp hp).elim (k p) (k2 p))

theorem news_pick {h₀ h : Heap} {L : Addr} {news₀ news : List (Addr × Obj)} (N : News h₀ L h news) (k : news₀.Sublist news) : News h₀ L h news₀ := fun p hp => N p (k.subset hp)
end Mine
end
section
open PySem PySem.W PyProof.Rows PySem.Calls PyProof.V PySem.Spec
namespace Mine

/-- an exception object with a dict, whatever its fields -/
abbrev eo (cls : Value) (de : Addr) (vs : Array Value) : Obj := { cls := cls, dict := some de, data := .fields vs }

/-- it flies (or is held), with its dict -/
structure Air (base : Heap) (l : List Env) (e de : Addr) (cls a0 fl : Value) (h : Heap) : Prop where
  stays : base.StaysIn h
  new : base.get? e = none
  frames : h.FunFrames base l
  tr : ∃ vs T oT ts, h.get? e = some (eo cls de vs) ∧ vs[0]? = some a0 ∧ vs[1]? = some (.ref T) ∧ base.get? T = none ∧ T ≠ e ∧ h.get? T = some oT ∧ oT.data = .fields ts ∧ ts[3]? = some fl

section
variable {M : Model} {A : Around} {E : Value → Shared → Prop} {s : Shared} {base : Heap} {env : Env} {outer : List Env} {l : List Env} {L e de : Addr} {cls a0 fl : Value} {Q : Unit → Shared → Prop}

theorem air_entry {vs : Array Value} {head : Value} {had : Bool} (hfr : A.frames = some (env :: outer)) (hl : s.heap.FunFrames base (env :: outer)) (hf : env.frame = some L)
    (he : s.heap.get? e = some (eo cls de vs)) (hb : base.StaysIn s.heap) (hen : base.get? e = none) (hsz : 1 < vs.size) (h0 : vs[0]? = some a0)
    (h : ∀ h', Air base (env :: outer) e de cls a0 (rawInt L) h' → s.heap.UpToSlots h' → Q () { s with heap := h' }) :
    wpAny M A (do let a ← frameOf env; let pl ← entryPlaceOf L had; let b ← EntryCells.newEntry head a .none (rawInt L) .none pl; setField (.ref e) 1 b) Q E s := by
  have notFrame : e ∉ (env :: outer).filterMap (·.frame) := fun hm => by
    obtain ⟨_, o, ho, hnf⟩ := hl.mem hm
    rw [he] at ho
    cases ho
    exact hnf vs rfl
  refine wpAny_bind (wpAny_frameOf_fun hfr hl hf fun h₁ hs₁ => wpAny_bind (wpAny_entryPlaceOf fun pl hpl => ?_))
  unfold EntryCells.newEntry newFields
  refine wpAny_bind (wpAny_newObj_type ?_ (hpl.sizeOk5 _ _ _ _ _))
  generalize ho : ({ cls := .type "traceback", dict := none, data := .fields ([head, .ref L, .none, rawInt L, .none] ++ (if pl.isEmpty then List.replicate 6 Value.none else pl)).toArray } : Obj) = o
  have he₁ : h₁.get? e = some (eo cls de vs) := (hs₁.2.1 e notFrame).trans he
  have kb₁ : base.StaysIn h₁ := fun b o hbo => (hs₁.2.1 b fun hm => by rw [(hl.mem hm).1] at hbo; cases hbo).trans (hb b o hbo)
  refine wpAny_setField (Heap.get?_push_of_some (h := h₁) o he₁) rfl hsz (h _ ?_ ?_)
  all_goals
    have hT : h₁.objs.size ≠ e := Nat.ne_of_gt (Heap.lt_size he₁)
    have keep : ∀ b ob, b ≠ e → h₁.get? b = some ob → ((h₁.push o).update e (Obj.mapFields (·.setIfInBounds 1 (Value.ref h₁.objs.size)))).get? b = some ob := fun b ob hbe hq => by
      rw [Heap.get?_update_other _ _ (Ne.symm hbe)]
      exact Heap.get?_push_of_some _ hq
    have away : ∀ b ob, s.heap.get? b = some ob → (∀ vs, ob.data ≠ .fields vs) → b ≠ e := fun b ob hq hnf z => by
      rw [z, he] at hq
      cases hq
      exact hnf vs rfl
  · refine ⟨fun b ob hq => keep b ob (fun z => by rw [z, hen] at hq; cases hq) (kb₁ b ob hq), hen, hl.of_keeps fun b ob hq hnf => ?_, ?_⟩
    · obtain ⟨sl, hs⟩ := hs₁.2.2 b ob hq
      exact ⟨_, keep b _ (away b ob hq hnf) hs, rfl⟩
    · refine ⟨vs.setIfInBounds 1 (Value.ref h₁.objs.size), h₁.objs.size, o, ([head, .ref L, .none, rawInt L, .none] ++ (if pl.isEmpty then List.replicate 6 Value.none else pl)).toArray, ?_, ?_, by simp [hsz], kb₁.fresh, hT, ?_, by rw [← ho], ?_⟩
      · exact Heap.get?_update_self (Obj.mapFields (·.setIfInBounds 1 (Value.ref h₁.objs.size))) (Heap.get?_push_of_some (h := h₁) o he₁) rfl
      · rw [Array.getElem?_setIfInBounds_ne (by decide)]
        exact h0
      · rw [Heap.get?_update_other _ _ (Ne.symm hT)]
        exact Heap.get?_push_size h₁ (by rw [← ho]; rfl)
      · simp
  · intro b ob hq hnf
    obtain ⟨sl, hs⟩ := hs₁.2.2 b ob hq
    exact ⟨sl, keep b _ (away b ob hq hnf) hs⟩

/-- the flight's mark is taken off -/
theorem air_lands (x : Air base l e de cls a0 fl s.heap) (h : ∀ h', Air base l e de cls a0 .none h' → s.heap.UpToSlots h' → Q () { s with heap := h' }) : wpAny M A (setFlight (.ref e) none) Q E s := by
  obtain ⟨hb, hen, hl, vs, T, oT, ts, he, h0, h1, hnT, hTe, hT, hdT, h3⟩ := x
  have h3' : 3 < ts.size := (Array.getElem?_eq_some_iff.mp h3).1
  unfold setFlight
  refine wpAny_bind (wpAny_field he rfl h1 ?_)
  rw [if_pos (show (Value.ref T != Value.none) = true from by simp)]
  refine wpAny_setField hT hdT h3' (h _ ?_ ?_)
  all_goals
    have other : ∀ b, b ≠ T → (s.heap.update T (Obj.mapFields (·.setIfInBounds 3 ((none : Option Addr).elim Value.none fun f => rawInt f)))).get? b = s.heap.get? b := fun b hb => Heap.get?_update_other _ _ (Ne.symm hb)
    have away : ∀ b ob, s.heap.get? b = some ob → (∀ vs, ob.data ≠ .fields vs) → b ≠ T := fun b ob hq hnf z => by
      rw [z, hT] at hq
      cases hq
      exact hnf ts hdT
  · refine ⟨fun b ob hq => (other b fun z => by rw [z, hnT] at hq; cases hq).trans (hb b ob hq), hen, hl.of_keeps fun b ob hq hnf => ⟨ob, (other b (away b ob hq hnf)).trans hq, rfl⟩, vs, T, _, _, (other e (Ne.symm hTe)).trans he, h0, h1, hnT, hTe, Heap.get?_update_self _ hT (Obj.isFreed_of_fields (Obj.data_mapFields hdT _)), Obj.data_mapFields hdT _, by simp [h3']⟩
  · exact fun b ob hq hnf => ⟨ob.slots, (other b (away b ob hq hnf)).trans hq⟩

theorem air_notes (hfr : A.frames = some (env :: outer)) (hf : env.frame = some L) (x : Air base (env :: outer) e de cls a0 .none s.heap)
    (h : ∀ h', Air base (env :: outer) e de cls a0 (rawInt L) h' → s.heap.UpToSlots h' → Q () { s with heap := h' }) : wpAny M A (noteFrame (.ref e) env) Q E s := by
  obtain ⟨hb, hen, hl, vs, T, oT, ts, he, h0, h1, hnT, hTe, hT, hdT, h3⟩ := x
  unfold noteFrame
  simp only [hf]
  refine wpAny_bind (wpAny_field he rfl h1 ?_)
  rw [if_pos (show (Value.ref T != Value.none) = true from by simp)]
  refine wpAny_bind (wpAny_field hT hdT h3 ?_)
  rw [if_neg (show ¬ ((Value.none == rawInt L) = true) from by simp [rawInt])]
  refine wpAny_bind (wpAny_setField hT hdT (Array.getElem?_eq_some_iff.mp h3).1 ?_)
  have other : ∀ b, b ≠ T → (s.heap.update T (Obj.mapFields (·.setIfInBounds 3 Value.none))).get? b = s.heap.get? b := fun b hb => Heap.get?_update_other _ _ (Ne.symm hb)
  have away : ∀ b ob, s.heap.get? b = some ob → (∀ vs, ob.data ≠ .fields vs) → b ≠ T := fun b ob hq hnf z => by
    rw [z, hT] at hq
    cases hq
    exact hnf ts hdT
  exact air_entry hfr (hl.of_keeps fun b ob hq hnf => ⟨ob, (other b (away b ob hq hnf)).trans hq, rfl⟩) hf ((other e (Ne.symm hTe)).trans he)
    (fun b ob hq => (other b fun z => by rw [z, hnT] at hq; cases hq).trans (hb b ob hq)) hen (Array.getElem?_eq_some_iff.mp h1).1 h0
    fun h' x1 x2 => h h' x1 fun b ob hq hnf => x2 b ob ((other b (away b ob hq hnf)).trans hq) hnf

theorem Air.tail (x : Air base (env :: outer) e de cls a0 fl s.heap) : Air base outer e de cls a0 fl s.heap := ⟨x.stays, x.new, x.frames.2.2, x.tr⟩

/-- it leaves the frame in which it was raised -/
theorem air_first {vs : Array Value} (hfr : A.frames = some (env :: outer)) (hl : s.heap.FunFrames base (env :: outer)) (hf : env.frame = some L)
    (he : s.heap.get? e = some (eo cls de vs)) (hb : base.StaysIn s.heap) (hen : base.get? e = none) (h1 : vs[1]? = some .none) (h0 : vs[0]? = some a0)
    (h : ∀ h', Air base outer e de cls a0 .none h' → s.heap.UpToSlots h' → Q () { s with heap := h' }) : wpAny M A (leaving env (.ref e)) Q E s := by
  unfold leaving noteFrame
  simp only [hf]
  refine wpAny_bind (wpAny_bind (wpAny_field he rfl h1 ?_))
  rw [if_neg (by decide)]
  exact air_entry hfr hl hf he hb hen (Array.getElem?_eq_some_iff.mp h1).1 h0 fun h₁ x1 x2 => air_lands (s := { s with heap := h₁ }) x1.tail fun h' y1 y2 => h h' y1 (x2.trans y2)

/-- it leaves one frame more -/
theorem air_next (hfr : A.frames = some (env :: outer)) (hf : env.frame = some L) (x : Air base (env :: outer) e de cls a0 .none s.heap)
    (h : ∀ h', Air base outer e de cls a0 .none h' → s.heap.UpToSlots h' → Q () { s with heap := h' }) : wpAny M A (leaving env (.ref e)) Q E s := by
  unfold leaving
  exact wpAny_bind (air_notes hfr hf x fun h₁ x1 x2 => air_lands (s := { s with heap := h₁ }) x1.tail fun h' y1 y2 => h h' y1 (x2.trans y2))
end
end Mine
end
section
open PySem PySem.W PyProof.Rows PySem.Calls PyProof.V PySem.Spec
namespace Mine

theorem Air.flyingW {base : Heap} {l : List Env} {e de : Addr} {cls a0 : Value} {h : Heap} (x : Air base l e de cls a0 .none h) : Heap.FlyingW base l e cls a0 h := by
  obtain ⟨vs, T, oT, ts, he, h0, h1, hnT, hTe, hT, hdT, h3⟩ := x.tr
  exact ⟨x.stays, x.new, x.frames, _, vs, T, oT, ts, he, ⟨rfl, h0⟩, rfl, h1, hnT, hTe, hT, hdT, h3⟩

/-- raised, with its dict: what the frames' bottom keeps -/
def RaisedD (base G : Heap) (l : List Env) (e de : Addr) (C : Addr) (a0 : Value) (news : List (Addr × Obj)) (h : Heap) : Prop :=
  ∃ B, base.StaysIn B ∧ (∀ b o, G.get? b = some o → b ∉ l.filterMap (·.frame) → B.get? b = some o) ∧ (∀ q ∈ news, B.get? q.1 = some q.2 ∧ G.get? q.1 = none ∧ base.get? q.1 = none) ∧ Air B l e de (.ref C) a0 .none h

section
variable {M : Model} {A : Around} {E : Value → Shared → Prop} {s' : Shared} {base g g₂ : Heap} {outer : List Env} {L a e t de C : Addr} {a0 : Value} {m : Str → Option Value} {name : Str} {scope : Scope} {cd : Value} {Q : Unit → Shared → Prop} {news news₀ : List (Addr × Obj)}
theorem leave_raiseD (K : Below A base outer g) (F : Fr g L s'.heap m) (N : News g L s'.heap news₀) (he : (e, excO C t de) ∈ news₀) (hs : ∀ q ∈ news, q ∈ news₀ ∧ q.1 ≠ e)
    (hQ : ∀ h', RaisedD base g outer e de C (.ref t) news h' → g.UpToSlots h' → Q () { s' with heap := h' }) (hk : scope.kind = .function := by rfl) :
    wpAny M (A.deeper (envOf name scope L a cd)) (leaving (envOf name scope L a cd) (.ref e)) Q E s' := by
  have K' := K.push (name := name) (a := a) (cd := cd) F hk
  obtain ⟨he1, he2, he3⟩ := N _ he
  have eb : base.get? e = none := fresh_of_stays K.stays he3
  have notFrame : ∀ b ∈ (envOf name scope L a cd :: outer).filterMap (·.frame), b ≠ e := fun b hm z => by
    obtain ⟨_, o, ho, hnf⟩ := K'.frames.mem hm
    rw [z, he1] at ho
    cases ho
    exact hnf _ rfl
  have hin : ∀ env ∈ (envOf name scope L a cd :: outer), ∀ b, env.frame = some b → b ∈ e :: (envOf name scope L a cd :: outer).filterMap (·.frame) := fun env he b hb => .tail _ (List.mem_filterMap.mpr ⟨env, he, hb⟩)
  have st : base.StaysIn (hideAll s'.heap (e :: (envOf name scope L a cd :: outer).filterMap (·.frame))) := fun b o q => hideAll_get _ (K'.stays b o q) fun hm => by
    rcases List.mem_cons.mp hm with z | hm
    · rw [z, eb] at q; cases q
    · rw [(K'.frames.mem hm).1] at q; cases q
  have sg : ∀ b o, g.get? b = some o → b ∉ outer.filterMap (·.frame) → (hideAll s'.heap (e :: (envOf name scope L a cd :: outer).filterMap (·.frame))).get? b = some o := fun b o q nm => hideAll_get _ (F.keep b o q) fun hm => by
    rcases List.mem_cons.mp hm with z | hm
    · rw [z, he3] at q; cases q
    rcases kts_mem hm with z | z
    · rw [z, kts_self F] at q
      cases q
    · exact nm z
  have hl : ∀ q ∈ news, (hideAll s'.heap (e :: (envOf name scope L a cd :: outer).filterMap (·.frame))).get? q.1 = some q.2 ∧ g.get? q.1 = none ∧ base.get? q.1 = none := fun q hq => by
    have hq' := (hs q hq).1
    refine ⟨hideAll_get _ (N q hq').1 fun hm => ?_, (N q hq').2.2, fresh_of_stays K.stays (N q hq').2.2⟩
    rcases List.mem_cons.mp hm with z | hm
    · exact (hs q hq).2 z
    obtain ⟨env, he, hf⟩ := List.mem_filterMap.mp hm
    rcases List.mem_cons.mp he with rfl | he
    · exact (N q hq').2.1 (Option.some.inj hf).symm
    · obtain ⟨o, ho, _⟩ := (K.frames.mem (List.mem_filterMap.mpr ⟨env, he, hf⟩)).2
      rw [(N q hq').2.2] at ho; cases ho
  exact air_first K'.stack (funFrames_hide K'.frames hin) rfl he1 (fun b o q => of_hideAll _ q) (hideAll_none _ (.head _)) rfl rfl fun h' x1 x2 =>
    hQ h' ⟨_, st, sg, hl, x1⟩ ((Heap.UpToSlots.of_keeps F.keep).trans x2)

theorem leave_onD (K : Below A base outer g) (F : Fr g L g₂ m) (R : RaisedD base g₂ (envOf name scope L a cd :: outer) e de C a0 news s'.heap) (hsm : g₂.UpToSlots s'.heap)
    (hQ : ∀ h', RaisedD base g outer e de C a0 news h' → g.UpToSlots h' → Q () { s' with heap := h' }) :
    wpAny M (A.deeper (envOf name scope L a cd)) (leaving (envOf name scope L a cd) (.ref e)) Q E s' := by
  obtain ⟨B, hB, hBG, hl, hfl⟩ := R
  exact air_next (Around.frames_deeper K.stack) rfl hfl fun h' x1 x2 =>
    hQ h' ⟨B, hB, fun b o q nm => hBG b o (F.keep b o q) (fun hm => by
      rcases kts_mem hm with z | z
      · rw [z, kts_self F] at q
        cases q
      · exact nm z), fun q hq => ⟨(hl q hq).1, kts_none F.keep (hl q hq).2.1, (hl q hq).2.2⟩, x1⟩ ((Heap.UpToSlots.of_keeps F.keep).trans (hsm.trans x2))
end

section
variable {prog : Program} {w : World} {A₀ : Around} {E : Value → Shared → Prop} {s' : Shared} {base g g₀ G : Heap} {outer : List Env} {L a e de C : Addr} {a0 : Value} {m : Str → Option Value} {name : Str} {scope : Scope} {cd : Value}
  {n : Str} {b₀ : Stmt} {suite : List Stmt} {pos np : Pos} {rest : List ExceptHandler} {Q : Flow → Shared → Prop} {news : List (Addr × Obj)} {KF : Frag}
  {p : Program} {loose : List Str} {mean : ExcName → Option Value} {mg mb : Str → Option Value} {x : Str}

/-- what a handler starts from -/
theorem ground_D (K : Below A₀ base outer g) (F : Fr g L G m) {B h : Heap} (hBG : ∀ b o, G.get? b = some o → b ∉ (envOf name scope L a cd :: outer).filterMap (·.frame) → B.get? b = some o) (hl : ∀ q ∈ news, B.get? q.1 = some q.2 ∧ G.get? q.1 = none ∧ base.get? q.1 = none)
    (hfl : Air B (envOf name scope L a cd :: outer) e de (.ref C) a0 .none h) (hsm : G.UpToSlots h) :
    ∃ g' ws, KtsTurn (outer.filterMap (·.frame)) g g' ∧ Fr g' L h m ∧ Below A₀ base outer g' ∧ News g' L h ((e, eo (.ref C) de ws) :: news) := by
  obtain ⟨g', T, F', K'⟩ := kts_ground K F hBG hfl.stays hsm
  obtain ⟨ws, _, _, _, he, _⟩ := hfl.tr
  have hL : B.get? L = none := by
    obtain ⟨_, ⟨L', _, hf, hn', _⟩, _⟩ := hfl.frames
    obtain rfl : L = L' := Option.some.inj hf
    exact hn'
  have ne : g'.get? e = none := T.none_ _ (kts_fresh F hBG hfl.new fun o ho m => by
    obtain ⟨_, o', ho', hd⟩ := K.frames.mem m
    rw [ho] at ho'
    cases ho'
    obtain ⟨sl, hs⟩ := hsm _ _ (F.keep _ _ ho) hd
    have z := he.symm.trans hs
    injection z with z
    exact hd _ (congrArg Obj.data z).symm)
  have N : News g' L h [(e, eo (.ref C) de ws)] := News.more F' News.nil he (fun es n q => by cases q) ne
  refine ⟨g', ws, T, F', K', fun q hq => ?_⟩
  rcases List.mem_cons.mp hq with rfl | hq
  · exact N _ (.head _)
  · exact ⟨hfl.stays _ _ (hl q hq).1, (fun z => by have := (hl q hq).1; rw [z, hL] at this; cases this), T.none_ _ (kts_none F.keep (hl q hq).2.1)⟩

theorem caught_D0 (R : RaisedD base G (envOf name scope L a cd :: outer) e de C a0 news s'.heap) (F : Fr g L G m) (K : Below A₀ base outer g) (hsm : G.UpToSlots s'.heap) (XB : KF.In base) (TB : Top p loose mean mg mb base)
    (D : KtsDicts (outer.filterMap (·.frame)) g) (T0 : KtsTurn (outer.filterMap (·.frame)) g₀ g)
    (ex : nsIn KF mainGlobals x = some (some (.ref C))) (q : ktsIn KF C "BaseException" = true)
    (k : ∀ h' g' ws, KtsTurn (outer.filterMap (·.frame)) g₀ g' → Fr g' L h' m → News g' L h' ((e, eo (.ref C) de ws) :: news) → Below A₀ base outer g' → KF.In g' → Top p loose mean mg mb g' → KtsDicts (outer.filterMap (·.frame)) g' →
      wpAny (model prog w) ((A₀.deeper (envOf name scope L a cd)).mark (some (.ref e))) (execs (b₀ :: suite) (envOf name scope L a cd)) Q E { s' with heap := h' })
    (hk : scope.kind = .function := by rfl) (hx : (envOf name scope L a cd).kindOf x = some .globalImplicit := by rfl) (hd : (x == ("__debug__" : Str)) = false := by decide)
    (hE : PassesOwnAt (model prog w) ((A₀.deeper (envOf name scope L a cd)).mark (some (.ref e))) (A₀.deeper (envOf name scope L a cd)) (envOf name scope L a cd) E := by passes_own) :
    wpAny (model prog w) (A₀.deeper (envOf name scope L a cd)) (noteFrame (.ref e) (envOf name scope L a cd))
      (fun _ s₂ => wpAny (model prog w) (A₀.deeper (envOf name scope L a cd)) (setFlight (.ref e) none) (fun _ s₃ =>
        wpAny (model prog w) (A₀.deeper (envOf name scope L a cd)) (handleBy (.ref e) (envOf name scope L a cd) (.ExceptHandler (some (.Name x np)) none (b₀ :: suite) pos :: rest)) Q E s₃) E s₂) E s' := by
  obtain ⟨B, hB, hBG, hl, hfl⟩ := R
  refine air_notes (Around.frames_deeper K.stack) rfl hfl fun h₄ x₄ u₄ => ?_
  refine air_lands (s := { s' with heap := h₄ }) x₄ fun h₅ x₅ u₅ => ?_
  have hsm₅ := hsm.trans (u₄.trans u₅)
  obtain ⟨g₅, T₅, F₅, K₅⟩ := kts_ground K F hBG x₅.stays hsm₅
  have X₅ : KF.In g₅ := XB.keeps K₅.stays
  have P₅ : TopRead p loose mg mb g₅ := topRead_of (TB.keeps K₅.stays)
  obtain ⟨ob, hob, hobc⟩ := x₅.flyingW.there
  obtain ⟨nm, q', N, bs, bm, hdct, sn, sub, ab, col, dd, k0, k1, k2, k3, k5, newId, hC, hbase, hbT⟩ := kts_cls X₅ q
  have hC₅ := F₅.keep _ _ hC
  refine wpAny_handleBy_cons (codeAny_handlers_test (name_K F₅ X₅ P₅ ex ?_ hk hx hd)) (by intro q; cases q)
  refine wpAny_excMatches_sub_self hC₅ hob hobc hbase (codeAny_handlers_suite ?_)
  refine air_lands x₅ fun h₆ x₆ u₆ => ?_
  obtain ⟨g₆, ws, T₆, F₆, K₆, N₆⟩ := ground_D K F hBG hl x₆ (hsm₅.trans u₆)
  exact wpAny_passesOwnAt hE (k h₆ g₆ ws (T0.trans T₆) F₆ N₆ K₆ (XB.keeps K₆.stays) (TB.keeps K₆.stays) (D.turn T₆))

theorem caught_DB (R : RaisedD base G (envOf name scope L a cd :: outer) e de C a0 news s'.heap) (F : Fr g L G m) (K : Below A₀ base outer g) (hsm : G.UpToSlots s'.heap) (XB : KF.In base) (TB : Top p loose mean mg mb base)
    (D : KtsDicts (outer.filterMap (·.frame)) g) (T0 : KtsTurn (outer.filterMap (·.frame)) g₀ g)
    (ex : nsIn KF mainGlobals x = some (some (.ref C))) (q : ktsIn KF C "BaseException" = true)
    (k : ∀ h' g' ws tk, KtsTurn (outer.filterMap (·.frame)) g₀ g' → Fr g' L h' (fun y => if y = n then some (.ref e) else m y) → News g' L h' ((e, eo (.ref C) de ws) :: news) → Below A₀ base outer g' → KF.In g' → Top p loose mean mg mb g' → KtsDicts (outer.filterMap (·.frame)) g' →
      wpAny (model prog w) ((A₀.deeper (envOf name scope L a cd)).mark (some (.ref e))) (execs (b₀ :: suite) (envOf name scope L a cd))
        (fun f s₄ => wpAny (model prog w) (A₀.deeper (envOf name scope L a cd)) (do bindName (envOf name scope L a cd) n .none; unbindBehindTheSuite (envOf name scope L a cd) n pos) (fun _ s₅ => Q f s₅) E s₄)
        (AsSuiteRaised (model prog w) ((A₀.deeper (envOf name scope L a cd)).mark (some (.ref e))) (envOf name scope L a cd) n pos (notedBy (model prog w) ((A₀.deeper (envOf name scope L a cd)).mark (some (.ref e))) (envOf name scope L a cd) (cameBackBy (model prog w) (A₀.deeper (envOf name scope L a cd)) (envOf name scope L a cd) E)))
        { s' with heap := h', toks := tk })
    (hk : scope.kind = .function := by rfl) (hlo : (envOf name scope L a cd).kindOf n = some .local := by rfl) (hx : (envOf name scope L a cd).kindOf x = some .globalImplicit := by rfl) (hd : (x == ("__debug__" : Str)) = false := by decide) :
    wpAny (model prog w) (A₀.deeper (envOf name scope L a cd)) (noteFrame (.ref e) (envOf name scope L a cd))
      (fun _ s₂ => wpAny (model prog w) (A₀.deeper (envOf name scope L a cd)) (setFlight (.ref e) none) (fun _ s₃ =>
        wpAny (model prog w) (A₀.deeper (envOf name scope L a cd)) (handleBy (.ref e) (envOf name scope L a cd) (.ExceptHandler (some (.Name x np)) (some n) (b₀ :: suite) pos :: rest)) Q E s₃) E s₂) E s' := by
  obtain ⟨B, hB, hBG, hl, hfl⟩ := R
  refine air_notes (Around.frames_deeper K.stack) rfl hfl fun h₄ x₄ u₄ => ?_
  refine air_lands (s := { s' with heap := h₄ }) x₄ fun h₅ x₅ u₅ => ?_
  have hsm₅ := hsm.trans (u₄.trans u₅)
  obtain ⟨g₅, T₅, F₅, K₅⟩ := kts_ground K F hBG x₅.stays hsm₅
  have X₅ : KF.In g₅ := XB.keeps K₅.stays
  have P₅ : TopRead p loose mg mb g₅ := topRead_of (TB.keeps K₅.stays)
  obtain ⟨ob, hob, hobc⟩ := x₅.flyingW.there
  obtain ⟨nm, q', N, bs, bm, hdct, sn, sub, ab, col, dd, k0, k1, k2, k3, k5, newId, hC, hbase, hbT⟩ := kts_cls X₅ q
  have hC₅ := F₅.keep _ _ hC
  refine wpAny_handleBy_cons (codeAny_handlers_test (name_K F₅ X₅ P₅ ex ?_ hk hx hd)) (by intro q; cases q)
  refine wpAny_excMatches_sub_self hC₅ hob hobc hbase (codeAny_handlers_suite_as ?_)
  refine air_lands x₅ fun h₆ x₆ u₆ => ?_
  obtain ⟨g₆, ws, T₆, F₆, K₆, N₆⟩ := ground_D K F hBG hl x₆ (hsm₅.trans u₆)
  refine stN F₆ N₆ (fun h₇ F₇ N₇ => ?_) hk hlo
  exact k h₇ g₆ ws _ (T0.trans T₆) F₇ N₇ K₆ (XB.keeps K₆.stays) (TB.keeps K₆.stays) (D.turn T₆)
end

section
variable {M : Model} {A : Around} {E : Value → Shared → Prop} {env : Env} {KF : Frag}
/-- a made exception of an own class is raised -/
def RaiseQ (KF : Frag) (E : Value → Shared → Prop) (v : Value) (s₁ : Shared) : Prop :=
  ∃ e t de C, v = .ref e ∧ KF.In s₁.heap ∧ ktsIn KF C "BaseException" = true ∧ s₁.heap.get? e = some (excO C t de) ∧ E (.ref e) s₁

theorem raise_own {s : Shared} {x : Sem Value} {Q : Flow → Shared → Prop} (hh : A.handled = none) (h : wpAny M A x (RaiseQ KF E) E s) : wpAny M A (raiseStmt env (some x) none) Q E s := by
  unfold raiseStmt
  refine wpAny_bind (wpAny_mono h (fun v s₁ h₁ => ?_) fun _ _ x => x)
  obtain ⟨e, t, de, C, rfl, X, q, he, hE⟩ := h₁
  obtain ⟨nm, q', N, bs, bm, hdct, sn, sub, ab, col, dd, k0, k1, k2, k3, k5, newId, hC, hbase, hbT⟩ := kts_cls X q
  have hcB : (Value.ref C :: bm).contains (.type "BaseException") = true := by rw [List.contains_cons, hbase, Bool.or_true]
  obtain ⟨hp, g, d, tk, os⟩ := s₁
  repeat (first | with_reducible refine wpAny_loadPart_at he ?_ | with_reducible refine wpAny_loadPart_at hC ?_ | (with_reducible refine wpAny_isSubtype_exc hC ?_; rw [hcB]) | wp_step)
  exact wpAny_raiseNew_none hh hE

theorem Raise_own {h₀ : Heap} {s : Shared} {x : Expr} {pos : Pos} {Q : Flow → Shared → Prop} (_X : KF.In h₀) (hh : A.handled = none) (h : wpAny M A (eval x env) (RaiseQ KF E) E s) : wpAny M A (exec (.Raise (some x) none pos) env) Q E s := by
  rw [arm_exec_Raise]
  refine wpAny_bind (wpAny_standAt (raise_own hh (wpAny_bind (wpAny_mono h (fun v s₁ h₁ => wpAny_bind (wpAny_standAt (wpAny_pure h₁))) fun _ _ y => y))))
end
end Mine
end
section
open PySem PySem.W PySem.W.X PyProof.Rows PySem.Calls PyProof.V PySem.Spec
namespace Mine

/-- two places that are not one (omega does not look in) -/
structure Off (a b : Addr) : Prop where
  ne : a ≠ b
def OffAll (d : Addr) : List (Addr × Obj) → Prop
  | [] => True
  | p :: r => Off p.1 d ∧ OffAll d r
def Apart : List (Addr × Obj) → Prop
  | [] => True
  | p :: r => OffAll p.1 r ∧ Apart r
theorem offAll_of {d : Addr} : ∀ {l : List (Addr × Obj)}, (∀ p ∈ l, p.1 ≠ d) → OffAll d l
  | [], _ => trivial
  | p :: _, h => ⟨⟨h p (.head _)⟩, offAll_of fun q hq => h q (.tail _ hq)⟩
theorem OffAll.all {d : Addr} {l : List (Addr × Obj)} (h : OffAll d l) : ∀ p ∈ l, p.1 ≠ d := by
  induction l with
  | nil => exact fun _ q => nomatch q
  | cons p r ih =>
    intro q hq
    rcases List.mem_cons.mp hq with e | hq
    · rw [e]
      exact h.1.ne
    · exact ih h.2 q hq
theorem OffAll.notIn {d : Addr} {l : List (Addr × Obj)} (h : OffAll d l) : d ∉ l.map (·.1) := fun q => by
  obtain ⟨p, hp, e⟩ := List.mem_map.mp q
  exact h.all p hp e
theorem offAll_notIn {d : Addr} {l : List (Addr × Obj)} (h : d ∉ l.map (·.1)) : OffAll d l := offAll_of fun p hp e => h (List.mem_map.mpr ⟨p, hp, e⟩)
theorem in_keeps {K : Frag} {h₀ h : Heap} {L : Addr} {m : Str → Option Value} (F : Fr h₀ L h m) (X : K.In h₀) : K.In h := Frag.In.keeps X F.keep
theorem ltOff {d : Addr} {l : List (Addr × Obj)} (h : AllLt d l) : OffAll d l := by
  induction l with
  | nil => trivial
  | cons p r ih => exact ⟨⟨Nat.ne_of_lt h.1⟩, ih h.2⟩
theorem ltOff2 {d x : Addr} {l : List (Addr × Obj)} (hx : @LT.lt Nat _ d x) (h : AllLt d l) : OffAll x l := by
  induction l with
  | nil => trivial
  | cons p r ih => exact ⟨⟨Nat.ne_of_lt (Nat.lt_trans h.1 hx)⟩, ih h.2⟩
theorem off_sub {d : Addr} {big l : List (Addr × Obj)} (h : ∀ p ∈ big, p.1 < d) (k : ∀ p ∈ l, p ∈ big) : OffAll d l := offAll_of fun p hp => Nat.ne_of_lt (h p (k p hp))
theorem off_sub2 {d x : Addr} {big l : List (Addr × Obj)} (hx : @LT.lt Nat _ d x) (h : ∀ p ∈ big, p.1 < d) (k : ∀ p ∈ l, p ∈ big) : OffAll x l := offAll_of fun p hp => Nat.ne_of_lt (Nat.lt_trans (h p (k p hp)) hx)
theorem apart_of {l : List (Addr × Obj)} (h : (l.map (·.1)).Nodup) : Apart l := by
  induction l with
  | nil => trivial
  | cons p r ih =>
    rw [List.map_cons, List.nodup_cons] at h
    exact ⟨offAll_notIn h.1, ih h.2⟩

theorem weakH {α : Type} {M : Model} {A : Around} {t : Sem α} {Q : α → Shared → Prop} {E : Value → Shared → Prop} {s : Shared} (h : wpAny M { A1 with handled := A.handled } t Q E s) (hd : A.depth ≤ 600) (hu : A.units ≤ 1000) :
    wpAny M A t Q E s := fun Γ p hΓ => h Γ p ⟨hΓ.1, Nat.le_trans hΓ.2.1 hd, nofun, nofun, Nat.le_trans hΓ.2.2.2.2 hu⟩

section
variable {w : World} {A : Around} {E : Value → Shared → Prop} {s : Shared} {h₀ : Heap} {L : Addr} {m : Str → Option Value} {news : List (Addr × Obj)}

theorem thrown_K {v : Addr} {Q : Value → Shared → Prop} (F : Fr h₀ L s.heap m) (N : News h₀ L s.heap news) (X : (hd.heap_39 w.params).In h₀) (hh : A.handled = none) (hdp : A.depth ≤ 600) (hun : A.units ≤ 1000)
    (h : ∀ h' tk e t de k1 k2 k3 t1 t2 t3 mv, Fr h₀ L h' m → News h₀ L h' ((e, excO 71 t de) :: (de, dictOf [⟨k1, .str (Str.ofString "message") t1, mv⟩, ⟨k2, .str (Str.ofString "spot") t2, .none⟩, ⟨k3, .str (Str.ofString "value") t3, .ref v⟩] 3) :: news) →
      OffAll e news → OffAll de news → Off e de → Q (.ref e) { s with heap := h', toks := tk }) :
    wpAny (model Challenge.rw_pc0196_01.row.prog w) A (call (.ref 71) [.ref v]) Q E s := by
  refine weak (thrown_x (X.keeps F.keep) ?_) hh hdp hun
  intro h' tk e t de k1 k2 k3 t1 t2 t3 mv tv D
  have fresh : ∀ {b : Addr}, s.heap.get? b = none → h₀.get? b = none := fun q => kts_none F.keep q
  have notL : ∀ {b : Addr}, s.heap.get? b = none → b ≠ L := fun q z => by
    obtain ⟨o, es, ep, ho, _⟩ := F.ns
    rw [z, ho] at q
    cases q
  have off : ∀ {b : Addr}, s.heap.get? b = none → ∀ p ∈ news, p.1 ≠ b := fun q p hp z => by
    have := (N p hp).1
    rw [z, q] at this
    cases this
  refine h h' tk e t de k1 k2 k3 t1 t2 t3 mv (F.keptAll D.keeps) (fun q hq => ?_) (offAll_of (off D.ne)) (offAll_of (off D.nde)) ⟨D.d2⟩
  rcases List.mem_cons.mp hq with rfl | hq
  · exact ⟨D.he, notL D.ne, fresh D.ne⟩
  rcases List.mem_cons.mp hq with rfl | hq
  · exact ⟨D.hde, notL D.nde, fresh D.nde⟩
  · exact ⟨D.keeps _ _ (N q hq).1, (N q hq).2⟩

theorem fault_K {x : Str} {tx : Tok} {Q : Value → Shared → Prop} (F : Fr h₀ L s.heap m) (N : News h₀ L s.heap news) (X : (hd.heap_39 w.params).In h₀) (hh : A.handled = none) (hdp : A.depth ≤ 600) (hun : A.units ≤ 1000)
    (h : ∀ h' tk e t de, Fr h₀ L h' m → News h₀ L h' ((e, excO 52 t de) :: news) → OffAll e news → Q (.ref e) { s with heap := h', toks := tk }) :
    wpAny (model Challenge.rw_pc0196_01.row.prog w) A (call (.ref 52) [.str x tx]) Q E s := by
  refine weak (fault_x (X.keeps F.keep) ?_) hh hdp hun
  intro h' tk e t de k1 k2 t1 t2 mv tv D
  have fresh : ∀ {b : Addr}, s.heap.get? b = none → h₀.get? b = none := fun q => kts_none F.keep q
  have notL : ∀ {b : Addr}, s.heap.get? b = none → b ≠ L := fun q z => by
    obtain ⟨o, es, ep, ho, _⟩ := F.ns
    rw [z, ho] at q
    cases q
  have off : ∀ {b : Addr}, s.heap.get? b = none → ∀ p ∈ news, p.1 ≠ b := fun q p hp z => by
    have := (N p hp).1
    rw [z, q] at this
    cases this
  refine h h' tk e t de (F.keptAll D.keeps) (fun q hq => ?_) (offAll_of (off D.ne))
  rcases List.mem_cons.mp hq with rfl | hq
  · exact ⟨D.he, notL D.ne, fresh D.ne⟩
  · exact ⟨D.keeps _ _ (N q hq).1, (N q hq).2⟩

theorem value_K {e de v : Addr} {k1 k2 k3 : Int} {t1 t2 t3 : Tok} {mv : Value} {ws : Array Value} {n : Nat} {ex : Bool} {Q : Value → Shared → Prop} (F : Fr h₀ L s.heap m) (N : News h₀ L s.heap news) (X : (hd.heap_39 w.params).In h₀) (he : (e, eo (.ref 71) de ws) ∈ news)
    (hde : (de, dictOf [⟨k1, .str (Str.ofString "message") t1, mv⟩, ⟨k2, .str (Str.ofString "spot") t2, .none⟩, ⟨k3, .str (Str.ofString "value") t3, .ref v⟩] n) ∈ news) (hdp : A.depth ≤ 600) (hun : A.units ≤ 1000)
    (h : ∀ tk, Q (.ref v) { s with toks := tk }) : wpAny (model Challenge.rw_pc0196_01.row.prog w) A (getAttr (.ref e) (Str.ofString "value") ex) Q E s :=
  weakH (value_x (X.keeps F.keep) (N _ he).1 (N _ hde).1 h) hdp hun

theorem raiseQ_K {KF : Frag} {e t de C : Addr} {E : Value → Shared → Prop} (F : Fr h₀ L s.heap m) (N : News h₀ L s.heap news) (X : KF.In h₀) (q : ktsIn KF C "BaseException" = true) (he : (e, excO C t de) ∈ news) (h : E (.ref e) s) : RaiseQ KF E (.ref e) s :=
  ⟨e, t, de, C, rfl, X.keeps F.keep, q, (N _ he).1, h⟩

theorem off_e {e : Addr} {o : Obj} {news : List (Addr × Obj)} (h : OffAll e news) : ∀ q ∈ news, q ∈ (e, o) :: news ∧ q.1 ≠ e := fun q hq => ⟨.tail _ hq, h.all q hq⟩
end
end Mine
end
section
open PySem PySem.W PyProof.Rows PySem.Calls PyProof.V PySem.Spec
namespace Mine
section
variable {prog : Program} {w : World} {A₀ A : Around} {s : Shared} {base h₀ : Heap} {L a : Addr} {m : Str → Option Value} {cn : Str} {cs : Scope} {ccd : Value} {news : List (Addr × Obj)} {K : Frag} {p : Program} {loose : List Str} {mean : ExcName → Option Value} {mg mb : Str → Option Value}
    {R : Result → Shared → Prop} {name qual : Str} {params : Arguments} {body : List Stmt} {scope : Scope} {dV kV doc pm cdv ct oc : Value} {an od : Option Addr} {osl : Array (Option Value)} {f : Addr} {args : Args} {binds : List (Str × Value)}

/-- a def with cells of its own that catches what its callees raise -/
theorem code_cellsS0 (B : Below A₀ base [] h₀) (F : Fr h₀ L s.heap m) (X₀ : K.In h₀) (N : News h₀ L s.heap news) (T : Top p loose mean mg mb h₀) (hA : A.frames = some [envOf cn cs L a ccd])
    (ho : K.lookup f = some ⟨oc, od, .func (fnOf name qual params body scope dV kV doc pm an cdv ct), osl⟩) (hcd : codeIn K cdv qual = true) (hroom : A.depth < recursionLimit)
    (hbind : BindsTo s (fnOf name qual params body scope dV kV doc pm an cdv ct) args binds) (hkind : (binds.all fun y => scope.names.lookup y.1 == some .local || scope.names.lookup y.1 == some .cell) = true)
    (hnd : ((cellsFrom 0 scope.names []).map (·.1)).Nodup)
    (h : ∀ g L' h₁ tk cells, Fr h₀ L g m → Fr g L' h₁ (bindL (envOfC qual scope L' f cdv).kindOf binds fun _ => none) → News g L' h₁ (cells ++ news) →
      CellsAre (bindC (envOfC qual scope L' f cdv).kindOf binds fun _ => none) (cellsFrom (L' + 1) scope.names []) cells → Below A base [envOf cn cs L a ccd] g → K.In g → Top p loose mean mg mb g → KtsDicts ([envOf cn cs L a ccd].filterMap (·.frame)) g → (∀ p ∈ news, p.1 < L') →
      wpAny (model prog w) (A.deeper (envOfC qual scope L' f cdv)) (execs body (envOfC qual scope L' f cdv))
        (fun fl s' => LeaveS0 ([envOf cn cs L a ccd].filterMap (·.frame)) h₀ L m g R (match fl with | .ret v => v | _ => .none) s')
        (fun e s' => wpAny (model prog w) (A.deeper (envOfC qual scope L' f cdv)) (leaving (envOfC qual scope L' f cdv) e) (fun _ s'' => R (.error e) s'') (fun e' s'' => R (.error e') s'') s')
        { s with heap := h₁, toks := tk })
    (hck : cs.kind = .function) (hco : scope.isCoroutine = false) (hgen : scope.isGenerator = false) (hk : scope.kind = .function) : codeAny (model prog w) A (.call (.ref f) args) R s := by
  have X := X₀.keeps F.keep
  obtain ⟨oL, es, ep, hLg, hLd, hN, hNs, st, B₂⟩ := kts_enter B F N hA hck
  refine codeAny_call_function (fd := fnOf name qual params body scope dV kV doc pm an cdv ct) hroom (X _ _ ho) rfl hco hgen rfl (codeRec_of X hcd) (hbind _ _ _ _ ?_)
  refine wpAny_newFunctionEnv_cells hk (kindsX hkind _) fun env' he s' x => ?_
  subst he
  refine ⟨(T.nolimit.keeps F.keep).keeps x.toInCall.keep, codeAny_func ?_⟩
  obtain ⟨h₁, tk, rfl, _⟩ := x.done
  have hk₁ := x.toInCall.keep
  obtain ⟨cells, NC, Y⟩ := Cl.news (h₀ := s.heap) (Nat.le_refl _) fun n c hm => ⟨x.cell n c (lookup_of_mem_nodup (cellsFrom_names scope.names 0 (s.heap.objs.size + 1) [] [] rfl ▸ hnd) hm), x.above n c hm⟩
  refine wpAny_mono (h _ s.heap.objs.size h₁ tk cells ⟨hN _ hLg, st, F.above⟩ ⟨x.toInCall.ns, fun b o e => hk₁ b o (of_hideAll _ e), Nat.le_of_eq (hideAll_size _ _)⟩ (fun p hp => ?_) Y B₂ (X₀.keeps st) (T.keeps st) (fun b hb => by
      rcases kts_mem hb with rfl | z
      · exact ⟨oL, es, ep, hLg, hLd⟩
      · simp at z) (fun p hp => Heap.lt_size (N p hp).1)) (fun fl s' hl => ?_) fun _ _ y => y
  · rcases List.mem_append.mp hp with hp | hp
    · refine ⟨(NC p hp).1, (NC p hp).2.1, ?_⟩
      cases q : (hideAll s.heap (news.map (·.1))).get? p.1 with
      | none => rfl
      | some o => have := of_hideAll _ q; rw [(NC p hp).2.2] at this; cases this
    · exact ⟨hk₁ _ _ (N p hp).1, Nat.ne_of_lt (Heap.lt_size (N p hp).1), hideAll_none _ (List.mem_map_of_mem hp)⟩
  obtain ⟨g', L', m', news', T', F', N', k⟩ := hl
  have nL₀ : h₀.get? L = none := kts_self F
  obtain ⟨sl, hs⟩ := T'.up hLg
  refine k ⟨hNs sl _ (F'.keep _ _ hs), fun b o e => F'.keep b o (T'.other b o (st b o e) (fun q => by
    rcases kts_mem q with z | z
    · rw [z, nL₀] at e
      cases e
    · simp at z)), F.above⟩ fun p hp => ⟨(N' p hp).1, fun q => ?_, ?_⟩
  · have := (N' p hp).2.2; rw [q, hs] at this; cases this
  · cases q : h₀.get? p.1 with
    | none => rfl
    | some o =>
      obtain ⟨sl', hs'⟩ := T'.up (st _ _ q)
      have := (N' p hp).2.2
      rw [hs'] at this
      cases this
end

section
variable {prog : Program} {w : World} {A₀ : Around} {E : Value → Shared → Prop} {s' : Shared} {base g g₀ G : Heap} {outer : List Env} {L a e de C : Addr} {a0 : Value} {m : Str → Option Value} {name : Str} {scope : Scope} {cd : Value}
  {n : Str} {b₀ : Stmt} {suite : List Stmt} {pos np : Pos} {rest : List ExceptHandler} {Q : Flow → Shared → Prop} {news : List (Addr × Obj)} {KF : Frag}
  {p : Program} {loose : List Str} {mean : ExcName → Option Value} {mg mb : Str → Option Value} {x : Str}
/-- as caught_D0, in a frame with cells -/
theorem caught_D0C (R : RaisedD base G (envOfC name scope L a cd :: outer) e de C a0 news s'.heap) (F : Fr g L G m) (K : Below A₀ base outer g) (hsm : G.UpToSlots s'.heap) (XB : KF.In base) (TB : Top p loose mean mg mb base)
    (D : KtsDicts (outer.filterMap (·.frame)) g) (T0 : KtsTurn (outer.filterMap (·.frame)) g₀ g)
    (ex : nsIn KF mainGlobals x = some (some (.ref C))) (q : ktsIn KF C "BaseException" = true)
    (k : ∀ h' g' ws, KtsTurn (outer.filterMap (·.frame)) g₀ g' → Fr g' L h' m → News g' L h' ((e, eo (.ref C) de ws) :: news) → Below A₀ base outer g' → KF.In g' → Top p loose mean mg mb g' → KtsDicts (outer.filterMap (·.frame)) g' →
      wpAny (model prog w) ((A₀.deeper (envOfC name scope L a cd)).mark (some (.ref e))) (execs (b₀ :: suite) (envOfC name scope L a cd)) Q E { s' with heap := h' })
    (hk : scope.kind = .function := by rfl) (hx : (envOfC name scope L a cd).kindOf x = some .globalImplicit := by rfl) (hd : (x == ("__debug__" : Str)) = false := by decide)
    (hE : PassesOwnAt (model prog w) ((A₀.deeper (envOfC name scope L a cd)).mark (some (.ref e))) (A₀.deeper (envOfC name scope L a cd)) (envOfC name scope L a cd) E := by passes_own) :
    wpAny (model prog w) (A₀.deeper (envOfC name scope L a cd)) (noteFrame (.ref e) (envOfC name scope L a cd))
      (fun _ s₂ => wpAny (model prog w) (A₀.deeper (envOfC name scope L a cd)) (setFlight (.ref e) none) (fun _ s₃ =>
        wpAny (model prog w) (A₀.deeper (envOfC name scope L a cd)) (handleBy (.ref e) (envOfC name scope L a cd) (.ExceptHandler (some (.Name x np)) none (b₀ :: suite) pos :: rest)) Q E s₃) E s₂) E s' := by
  obtain ⟨B, hB, hBG, hl, hfl⟩ := R
  refine air_notes (Around.frames_deeper K.stack) rfl hfl fun h₄ x₄ u₄ => ?_
  refine air_lands (s := { s' with heap := h₄ }) x₄ fun h₅ x₅ u₅ => ?_
  have hsm₅ := hsm.trans (u₄.trans u₅)
  obtain ⟨g₅, T₅, F₅, K₅⟩ := kts_ground (name := name) (scope := scope) (a := a) (cd := cd) K F hBG x₅.stays hsm₅
  have X₅ : KF.In g₅ := XB.keeps K₅.stays
  have P₅ : TopRead p loose mg mb g₅ := topRead_of (TB.keeps K₅.stays)
  obtain ⟨ob, hob, hobc⟩ := x₅.flyingW.there
  obtain ⟨nm, q', N, bs, bm, hdct, sn, sub, ab, col, dd, k0, k1, k2, k3, k5, newId, hC, hbase, hbT⟩ := kts_cls X₅ q
  have hC₅ := F₅.keep _ _ hC
  refine wpAny_handleBy_cons (codeAny_handlers_test (nameG_K F₅ X₅ P₅ ex ?_ rfl hk hx hd)) (by intro q; cases q)
  refine wpAny_excMatches_sub_self hC₅ hob hobc hbase (codeAny_handlers_suite ?_)
  refine air_lands x₅ fun h₆ x₆ u₆ => ?_
  obtain ⟨g₆, ws, T₆, F₆, K₆, N₆⟩ := ground_D (name := name) (scope := scope) (a := a) (cd := cd) K F hBG hl ⟨x₆.stays, x₆.new, x₆.frames, x₆.tr⟩ (hsm₅.trans u₆)
  exact wpAny_passesOwnAt hE (k h₆ g₆ ws (T0.trans T₆) F₆ N₆ K₆ (XB.keeps K₆.stays) (TB.keeps K₆.stays) (D.turn T₆))
end
theorem ks_size {vs : List Value} {k : Int} (h : IntsAre vs (rangeKs 0 (k - 0).toNat)) (hk : k ≤ 3) : vs.toArray.size ≤ sizeLine := by
  have e := h.length
  rw [rangeKs_length] at e
  rw [PySem.sizeLine_eq, List.size_toArray]
  omega
end Mine
end
section
open PySem PySem.W PyProof.Rows PySem.Calls PyProof.V PySem.Spec
namespace Mine
theorem get_mid {xs ys : List Value} {x : Value} {k : Int} (h : (xs.length : Int) = k) : (xs ++ x :: ys)[k.toNat]? = some x := by
  rw [show k.toNat = xs.length by omega]
  simp
theorem get_in {ps : List Tup} {l : List Value} {i : Nat} {p : Tup} (h : ps[i]? = some p) : (refs ps ++ l)[(i : Int).toNat]? = some (.ref p.1) := by
  have hi : i < ps.length := (List.getElem?_eq_some_iff.mp h).1
  rw [Int.toNat_natCast, List.getElem?_append_left (by rw [refs, List.length_map]; exact hi), refs, List.getElem?_map, h]
  rfl
theorem ks_at {vs : List Value} {n i : Nat} {v : Value} (h : IntsAre vs (rangeKs 0 n)) (hv : vs.toArray[i]? = some v) : ∃ t, v = Value.int (i : Int) t := by
  have go : ∀ {vs : List Value} {ns : List Int}, IntsAre vs ns → ∀ (i : Nat) (v : Value), vs[i]? = some v → ∃ (k : Int) (t : Tok), ns[i]? = some k ∧ v = Value.int k t := by
    intro vs ns h
    induction h with
    | nil => intro i v hv; simp at hv
    | cons k t r ih =>
      intro i v hv
      cases i with
      | zero =>
        simp at hv
        exact ⟨k, t, rfl, hv.symm⟩
      | succ i => exact ih i v (by simpa using hv)
  obtain ⟨k, t, hk, rfl⟩ := go h i v (by simpa using hv)
  unfold rangeKs at hk
  rw [List.getElem?_map] at hk
  cases hr : (List.range n)[i]? with
  | none => rw [hr] at hk; cases hk
  | some j =>
    rw [hr] at hk
    obtain ⟨_, hj⟩ := List.getElem?_eq_some_iff.mp hr
    rw [List.getElem_range] at hj
    subst hj
    cases hk
    exact ⟨t, by simp⟩
section
variable {prog : Program} {w : World} {A : Around} {E : Value → Shared → Prop} {s : Shared} {h₀ : Heap} {L : Addr} {m : Str → Option Value} {news news' : List (Addr × Obj)} {value slice : Expr} {a b : Addr} {xs ys l : List Value} {n n' : Nat} {u : Tok} {x v : Value} {k : Int}
theorem item_at {Q : Value → Shared → Prop} (N : News h₀ L s.heap news) (hm : (a, listOf l.toArray n) ∈ news) (h0 : 0 ≤ k) (hfit : k ≤ 1000) (hx : l[k.toNat]? = some x) (h : Q x s)
    (hs : subscripted slice false (.ref a) (.int k u) = operate [.ref a, .int k u] (getItem (.ref a) (.int k u)) := by with_unfolding_all rfl) (hg : ∀ r, letTemporaryGo value (.ref a) r = pure () := by intro _; with_unfolding_all rfl) :
    wpAny (model prog w) A (subscriptTail value slice (.ref a) (.int k u)) Q E s := kim_list N hm rfl rfl h0 (by omega) hx h hs hg
theorem setL_mid (x v : Value) (ys : List Value) : ∀ l : List Value, ki_setL (l ++ x :: ys) l.length v = some (l ++ v :: ys)
  | [] => rfl
  | y :: r => by
    show (match ki_setL (r ++ x :: ys) r.length v with | some q => some (y :: q) | none => none) = _
    rw [setL_mid x v ys r]
    rfl
theorem set_mid {Q : Unit → Shared → Prop} (F : Fr h₀ L s.heap m) (N : News h₀ L s.heap news) (_hm : (a, listOf (xs ++ x :: ys).toArray n) ∈ news) (U : Upd a (listOf (xs ++ x :: ys).toArray n) (listOf (xs ++ v :: ys).toArray n) news news') (hk : (xs.length : Int) = k) (hfit : k ≤ 1000)
    (h : ∀ h', Fr h₀ L h' m → News h₀ L h' news' → Q () { s with heap := h' }) : wpAny (model prog w) A (setItem (.ref a) (.int k u) v) Q E s := by
  refine ki_set F N (by omega) (by omega) ?_ U h
  rw [show k.toNat = xs.length by omega]
  simpa using setL_mid x v ys xs
theorem slice_from {Q : Value → Shared → Prop} {t : Tok} (F : Fr h₀ L s.heap m) (N : News h₀ L s.heap news) (hm : (a, listOf (xs ++ ys).toArray n) ∈ news) (hk : (xs.length : Int) = k) (hfit : xs.length + ys.length ≤ 1000)
    (h : ∀ D h', Fr h₀ L h' m → News h₀ L h' ((D, listOf ys.toArray 0) :: news) → (∀ p ∈ news, p.1 < D) → Q (.ref D) { s with heap := h' })
    (hs : subscripted slice false (.ref a) (.ref s.heap.objs.size) = operate [.ref s.heap.objs.size, .ref a] (getItem (.ref a) (.ref s.heap.objs.size))) (ht : ∀ r, letTemporaryGo value (.ref a) r = pure ()) :
    wpAny (model prog w) A (subscriptTail value slice (.ref a) (.ref s.heap.objs.size)) Q E { s with heap := s.heap.push { cls := .type "slice", data := .fields #[.int k t, .none, .none] } } := by
  refine kms_slice_lit F N (N.isList hm) (IsPart.int _ _) IsPart.none (zs := ys) ?_ h hs ht (by rw [PySem.sizeLine_eq]; simp; omega)
  subst hk
  unfold kms_pick kms_lo kms_hi
  simp only [List.toList_toArray, List.length_append]
  rw [if_neg (by omega), show min (xs.length : Int).toNat (xs.length + ys.length) = xs.length by omega, List.drop_left, List.take_of_length_le (by omega)]

theorem compEnd_none {I C D : Addr} {s₁ : Shared} {oI oC oD : Obj} {S : List (Addr × Obj) → Prop} {rest : Value → List (Addr × Obj) → Prop} {y : Value} {h' : Heap} {tk : Nat}
    (F : Fr h₀ L h' m) (N : News h₀ L h' ((I, oI) :: (C, oC) :: (D, oD) :: news)) (off : LCg.Off3 I C D news) (hS : S news) (r : rest y news) :
    LCg.CompEnd h₀ L m s₁ I oI C oC D oD S rest y { s₁ with heap := h', toks := tk } := LCg.CompEnd.intro F N news (fun _ hp => hp) off hS r

/-- the turns of [self.get(r) for r in ..] -/
def GetTurn (ps : List Tup) (news₀ : List (Addr × Obj)) (i : Nat) (ys : List Value) (news : List (Addr × Obj)) : Prop := ys = (refs ps).take i ∧ ∀ q ∈ news₀, q ∈ news
theorem GetTurn.zero (ps : List Tup) (news : List (Addr × Obj)) : GetTurn ps news 0 [] news := ⟨rfl, fun _ h => h⟩
theorem GetTurn.next {ps : List Tup} {news₀ news : List (Addr × Obj)} {i : Nat} {ys : List Value} {p : Tup} (h : GetTurn ps news₀ i ys news) (hp : ps[i]? = some p) : GetTurn ps news₀ (i + 1) (ys ++ [.ref p.1]) (news₀ ++ news) := by
  obtain ⟨rfl, hs⟩ := h
  have : (refs ps)[i]? = some (.ref p.1) := by rw [refs, List.getElem?_map, hp]; rfl
  refine ⟨?_, fun q hq => List.mem_append_left _ hq⟩
  rw [List.take_succ, this]
  rfl

/-- what such tuples are, as data -/
def tupData (b : Int) : Int → Nat → List PyData
  | _, 0 => []
  | i, n + 1 => .tuple [.str (Str.ofString "int"), .str (Str.ofString "Int64"), .int (b + i)] :: tupData b (i + 1) n
theorem tup_reads {h : Heap} {b : Int} : ∀ {ps : List Tup} {i : Int}, (∀ q ∈ tupObjs b i ps, h.get? q.1 = some q.2) → ∃ as, ReadsAll h (refs ps) (tupData b i ps.length) as
  | [], _, _ => ⟨_, ReadsAll.nil⟩
  | (p, y, z, u) :: r, i, hq => by
    obtain ⟨as, q⟩ := tup_reads (ps := r) (i := i + 1) fun q hm => hq q (.tail _ hm)
    exact ⟨_, ReadsAll.cons (reads_tuple_at (hq _ (.head _)) rfl rfl (by simpa using ReadsAll.cons (Reads.str _ _) (.cons (Reads.str _ _) (.cons (Reads.int _ _) .nil)))) q⟩
theorem tup_eqv (b : Int) : ∀ (n : Nat) (i : Int), PyData.eqvAll (tupData b i n) (tupData b i n) = true
  | 0, _ => rfl
  | n + 1, i => by simp [tupData, PyData.eqvAll, PyData.eqv, tup_eqv b n (i + 1)]
theorem tup_shape (b : Int) : ∀ (n : Nat) (i : Int), PyData.canLayAll0 (tupData b i n) = true ∧ PyData.depthAll (tupData b i n) ≤ 1
  | 0, _ => ⟨rfl, Nat.zero_le _⟩
  | n + 1, i => by
    obtain ⟨h1, h2⟩ := tup_shape b n (i + 1)
    have e : PyData.canLay0 (.tuple [.str (Str.ofString "int"), .str (Str.ofString "Int64"), .int (b + i)]) = true := by
      simp only [PyData.canLay0, PyData.canLayAll0, Bool.and_true, Bool.and_eq_true]
      exact ⟨by decide +kernel, by decide +kernel⟩
    refine ⟨by simp only [tupData, PyData.canLayAll0, e, h1, Bool.and_self], ?_⟩
    simp only [tupData, PyData.depthAll, PyData.depth]
    omega
theorem ne_tups {ps qs : List Tup} {b' : Int} {Q : Value → Shared → Prop} (N : News h₀ L s.heap news) (ha : (a, listOf (refs ps).toArray n) ∈ news) (hb : (b, listOf (refs qs).toArray n') ∈ news)
    (ka : ∀ q ∈ tupObjs b' 0 ps, q ∈ news) (kb : ∀ q ∈ tupObjs b' 0 qs, q ∈ news) (hl : ps.length = qs.length) (hu : A.units + 64 < cLine) (h : Q (.bool false) s) : wpAny (model prog w) A (compareOp .NotEq (.ref a) (.ref b)) Q E s := by
  obtain ⟨as, ra⟩ := tup_reads (h := s.heap) fun q hq => (N _ (ka q hq)).1
  obtain ⟨bs, rb⟩ := tup_reads (h := s.heap) fun q hq => (N _ (kb q hq)).1
  have sh : ∀ n : Nat, SeqAt.shaped (.list (tupData b' 0 n)) = true := fun n => by
    obtain ⟨h1, h2⟩ := tup_shape b' n 0
    unfold SeqAt.shaped
    rw [show PyData.canLay0 (.list (tupData b' 0 n)) = true from by rw [PyData.canLay0]; exact h1, Bool.true_and]
    refine decide_eq_true ?_
    rw [PyData.depth]
    omega
  refine ne_dataH (reads_list_at (N _ ha).1 rfl rfl (by simpa using ra)) (reads_list_at (N _ hb).1 rfl rfl (by simpa using rb)) (sh _) (sh _) hu ?_
  rw [PyData.eqv, hl, tup_eqv]
  exact h
end
theorem ks_lt {vs : List Value} {n i : Nat} (h : IntsAre vs (rangeKs 0 n)) (hi : i < vs.toArray.size) : i < n := by
  have e := h.length
  rw [rangeKs_length] at e
  rw [List.size_toArray] at hi
  omega
theorem ks_take {vs : List Value} {n : Nat} {ps : List Tup} (h : IntsAre vs (rangeKs 0 n)) (hp : ps.length = n) : (refs ps).take vs.toArray.size = refs ps := by
  have e := h.length
  rw [rangeKs_length] at e
  rw [List.size_toArray, e, ← hp]
  exact List.take_of_length_le (by rw [refs, List.length_map]; exact Nat.le_refl _)
theorem off_app {d : Addr} {x y : List (Addr × Obj)} (hx : OffAll d x) (hy : OffAll d y) : OffAll d (x ++ y) := offAll_of fun p hp => (List.mem_append.mp hp).elim (hx.all p) (hy.all p)
theorem off_tup {d : Addr} {b : Int} : ∀ {ps : List Tup} {i : Int}, (∀ p ∈ ps, p.1 ≠ d) → OffAll d (tupObjs b i ps)
  | [], _, _ => trivial
  | (p, y, z, u) :: r, i, h => ⟨⟨h _ (.head _)⟩, off_tup (ps := r) (i := i + 1) fun q hq => h q (.tail _ hq)⟩
theorem off1_mem {D : Addr} {p : Addr × Obj} {l : List (Addr × Obj)} (h : LCg.Off1 D l) (hp : p ∈ l) : Off p.1 D := by
  induction l with
  | nil => nomatch hp
  | cons q r ih =>
    rcases List.mem_cons.mp hp with e | hp
    · rw [e]
      exact ⟨h.1⟩
    · exact ih h.2 hp
theorem tuple_same_N {prog : Program} {w : World} {A : Around} {E : Value → Shared → Prop} {s : Shared} {h₀ : Heap} {L t : Addr} {news : List (Addr × Obj)} {items : Array Value} {n : Nat} {d : Option Addr} {sl : Array (Option Value)} {Q : Value → Shared → Prop} (N : News h₀ L s.heap news) (hm : (t, { cls := .type "tuple", dict := d, data := .seq items n, slots := sl }) ∈ news) (h : Q (.ref t) s) :
    wpAny (model prog w) A (call (.type "tuple") [.ref t]) Q E s := call_tuple_same (N.isTup hm) h
end Mine
end
section
open PySem PySem.W PyProof.Rows PySem.Calls PyProof.V PySem.Spec PySem.SeqAt
namespace Mine
mutual
/-- two values that Python finds equal, as the ledger shows -/
inductive SameV (news : List (Addr × Obj)) : Nat → Value → Value → Prop
  | same (n : Nat) (v : Value) : SameV news n v v
  | int (n : Nat) (i : Int) (t u : Tok) : SameV news n (.int i t) (.int i u)
  | str (n : Nat) (x : Str) (t u : Tok) : SameV news n (.str x t) (.str x u)
  | bytes (n : Nat) (b : Array UInt8) (t u : Tok) : SameV news n (.bytes b t) (.bytes b u)
  | tuple {n : Nat} {a b : Addr} {xs ys : List Value} {k1 k2 : Nat} : (a, ({ cls := .type "tuple", data := .seq xs.toArray k1 } : Obj)) ∈ news → (b, ({ cls := .type "tuple", data := .seq ys.toArray k2 } : Obj)) ∈ news → SameL news n xs ys → SameV news (n + 1) (.ref a) (.ref b)
  | list {n : Nat} {a b : Addr} {xs ys : List Value} {k1 k2 : Nat} : (a, listOf xs.toArray k1) ∈ news → (b, listOf ys.toArray k2) ∈ news → SameL news n xs ys → SameV news (n + 1) (.ref a) (.ref b)
inductive SameL (news : List (Addr × Obj)) : Nat → List Value → List Value → Prop
  | nil (n : Nat) : SameL news n [] []
  | cons {n : Nat} {x y : Value} {xs ys : List Value} : SameV news n x y → SameL news n xs ys → SameL news n (x :: xs) (y :: ys)
end
theorem SameL.length {news : List (Addr × Obj)} {n : Nat} : ∀ {xs ys : List Value}, SameL news n xs ys → xs.length = ys.length
  | _, _, .nil _ => rfl
  | _, _, .cons _ r => congrArg (· + 1) (SameL.length r)
theorem eqAt_bytes {A : Around} {s : Shared} (b : Array UInt8) (t u : Tok) : EqAt A s (.bytes b t) (.bytes b u) true := fun prog w E Q hq => by
  unfold eqBool
  refine wpAny_holding ?_
  refine wpAny_ite_split (fun _ => wpAny_bind (wpAny_rule (wpAny_pure hq))) (fun _ => wpAny_bind ?_)
  show wpAny _ _ (compareOp .Eq (.bytes b t) (.bytes b u)) _ _ _
  refine eq_bytes ?_
  rw [beq_self_eq_true]
  exact wpAny_truthy_bool hq
section
variable {h₀ : Heap} {L : Addr} {s : Shared} {news : List (Addr × Obj)}
theorem all_true {n : Nat} : (List.range n).all (fun _ => true) = true := by simp
theorem rc_tuples {A : Around} {a b : Addr} {xs ys : List Value} {k1 k2 : Nat} (N : News h₀ L s.heap news) (ha : (a, ({ cls := .type "tuple", data := .seq xs.toArray k1 } : Obj)) ∈ news) (hb : (b, ({ cls := .type "tuple", data := .seq ys.toArray k2 } : Obj)) ∈ news)
    (hu : A.units < cLine) (hl : xs.length = ys.length) (he : ∀ j (h1 : j < xs.length) (h2 : j < ys.length), EqAt A.in1 s xs[j] ys[j] true) : RcAt A s (.ref a) (.ref b) true := by
  have h := RcAt.tuples (A := A) (e := fun _ => true) (N.isTup ha) (N.isTup hb) hu fun j j1 j2 => he j (by simpa using j1) (by simpa using j2)
  rw [all_true, List.size_toArray, List.size_toArray, hl, beq_self_eq_true] at h
  exact h
theorem rc_lists {A : Around} {a b : Addr} {xs ys : List Value} {k1 k2 : Nat} (N : News h₀ L s.heap news) (ha : (a, listOf xs.toArray k1) ∈ news) (hb : (b, listOf ys.toArray k2) ∈ news)
    (hu : A.units < cLine) (hl : xs.length = ys.length) (he : ∀ j (h1 : j < xs.length) (h2 : j < ys.length), EqAt A.in1 s xs[j] ys[j] true) : RcAt A s (.ref a) (.ref b) true := by
  have h := RcAt.lists (A := A) (e := fun _ => true) (N.isList ha) (N.isList hb) (by simpa using hl) hu fun j j1 j2 => he j (by simpa using j1) (by simpa using j2)
  rw [all_true] at h
  exact h
mutual
theorem SameV.at (N : News h₀ L s.heap news) : ∀ {n : Nat} {a b : Value}, SameV news n a b → ∀ {A : Around}, A.units + n < cLine → EqAt A s a b true
  | _, _, _, .same _ _, _, _ => EqAt.same _
  | _, _, _, .int _ i t u, _, _ => by
    have := EqAt.int_int (A := ‹Around›) (s := s) i t i u
    rwa [beq_self_eq_true] at this
  | _, _, _, .str _ x t u, _, _ => by
    have := EqAt.str_str (A := ‹Around›) (s := s) x t x u
    rwa [beq_self_eq_true] at this
  | _, _, _, .bytes _ b t u, _, _ => eqAt_bytes b t u
  | _, _, _, .tuple (n := n) (a := a) (b := b) ha hb hl, A, hu => by
    by_cases e : a = b
    · subst e
      exact EqAt.same _
    · refine EqAt.of_refs e ?_
      exact (rc_tuples N ha hb (by omega) hl.length fun j j1 j2 => SameL.at N hl (A := A.in1) (by rw [units_in1]; omega) j j1 j2)
  | _, _, _, .list (n := n) (a := a) (b := b) ha hb hl, A, hu => by
    by_cases e : a = b
    · subst e
      exact EqAt.same _
    · refine EqAt.of_refs e ?_
      exact (rc_lists N ha hb (by omega) hl.length fun j j1 j2 => SameL.at N hl (A := A.in1) (by rw [units_in1]; omega) j j1 j2)
theorem SameL.at (N : News h₀ L s.heap news) : ∀ {n : Nat} {xs ys : List Value}, SameL news n xs ys → ∀ {A : Around}, A.units + n < cLine → ∀ j (h1 : j < xs.length) (h2 : j < ys.length), EqAt A s xs[j] ys[j] true
  | _, _, _, .nil _, _, _, _, h1, _ => absurd h1 (Nat.not_lt_zero _)
  | _, _, _, .cons hv hl, _, hu, 0, _, _ => SameV.at N hv hu
  | _, _, _, .cons hv hl, _, hu, j + 1, h1, h2 => SameL.at N hl hu j (Nat.lt_of_succ_lt_succ h1) (Nat.lt_of_succ_lt_succ h2)
end
variable {prog : Program} {w : World} {A : Around} {E : Value → Shared → Prop} {Q : Value → Shared → Prop} {a b : Addr} {xs ys : List Value} {k1 k2 n : Nat}
theorem eq_same_tup (N : News h₀ L s.heap news) (ha : (a, ({ cls := .type "tuple", data := .seq xs.toArray k1 } : Obj)) ∈ news) (hb : (b, ({ cls := .type "tuple", data := .seq ys.toArray k2 } : Obj)) ∈ news) (hl : SameL news 8 xs ys)
    (hu : A.units + 64 < cLine) (h : Q (.bool true) s) : wpAny (model prog w) A (compareOp .Eq (.ref a) (.ref b)) Q E s :=
  rc_tuples N ha hb (by omega) hl.length (fun j j1 j2 => hl.at N (A := A.in1) (by rw [units_in1]; omega) j j1 j2) prog w E Q h
theorem ne_same_list (N : News h₀ L s.heap news) (ha : (a, listOf xs.toArray k1) ∈ news) (hb : (b, listOf ys.toArray k2) ∈ news) (hl : SameL news 8 xs ys)
    (hu : A.units + 64 < cLine) (h : Q (.bool false) s) : wpAny (model prog w) A (compareOp .NotEq (.ref a) (.ref b)) Q E s := by
  have r := RcNeAt.lists (A := A) (e := fun _ => true) (N.isList ha) (N.isList hb) (by simpa using hl.length) (by omega) fun j j1 j2 => hl.at N (A := A.in1) (by rw [units_in1]; omega) j (by simpa using j1) (by simpa using j2)
  rw [all_true] at r
  exact r prog w E Q h
theorem ne_same_tup (N : News h₀ L s.heap news) (ha : (a, ({ cls := .type "tuple", data := .seq xs.toArray k1 } : Obj)) ∈ news) (hb : (b, ({ cls := .type "tuple", data := .seq ys.toArray k2 } : Obj)) ∈ news) (hl : SameL news 8 xs ys)
    (hu : A.units + 64 < cLine) (h : Q (.bool false) s) : wpAny (model prog w) A (compareOp .NotEq (.ref a) (.ref b)) Q E s := by
  have r := RcNeAt.tuples (A := A) (e := fun _ => true) (N.isTup ha) (N.isTup hb) (by omega) fun j j1 j2 => hl.at N (A := A.in1) (by rw [units_in1]; omega) j (by simpa using j1) (by simpa using j2)
  rw [all_true, List.size_toArray, List.size_toArray, hl.length, beq_self_eq_true] at r
  exact r prog w E Q h
end
end Mine
end
section
open PySem PySem.W PyProof.Rows PySem.Calls PyProof.V PySem.Spec
namespace Mine
/-- a frame of calls and its row -/
structure Cell where
  (f d h t l c r st : Addr)
  (u1 u2 u3 u4 u5 u6 u7 u8 ta tw x : Tok)
  (at_ wo : Int)
  v : Value
  (hs ls : List Value)
  ns : List Int
  (n1 n4 : Nat)
abbrev frD (w : World) (u1 u2 u3 u4 u5 u6 u7 u8 ta tw : Tok) (c r st h : Addr) (at_ wo : Int) (v : Value) : Obj :=
  dictOf [⟨PyData.keyHash w.params "code", .str "code" u1, .ref c⟩, ⟨PyData.keyHash w.params "registers", .str "registers" u2, .ref r⟩, ⟨PyData.keyHash w.params "at", .str "at" u3, .int at_ ta⟩, ⟨PyData.keyHash w.params "world", .str "world" u4, .int wo tw⟩, ⟨PyData.keyHash w.params "statics", .str "statics" u5, .ref st⟩, ⟨PyData.keyHash w.params "goal", .str "goal" u6, .none⟩, ⟨PyData.keyHash w.params "handlers", .str "handlers" u7, .ref h⟩, ⟨PyData.keyHash w.params "caught", .str "caught" u8, v⟩] 8
def Cell.objs (w : World) (c : Cell) : List (Addr × Obj) :=
  [(c.f, instObj 172 c.d), (c.d, frD w c.u1 c.u2 c.u3 c.u4 c.u5 c.u6 c.u7 c.u8 c.ta c.tw c.c c.r c.st c.h c.at_ c.wo c.v), (c.h, listOf c.hs.toArray c.n1), (c.t, { cls := .type "tuple", data := .seq #[.ref c.l, .int c.at_ c.x, c.v] }), (c.l, listOf c.ls.toArray c.n4)]
structure Cell.Ok (c : Cell) : Prop where
  hs : IntsAre c.hs c.ns
  ls : IntsAre c.ls c.ns
def refF (cs : List Cell) : List Value := cs.map fun c => .ref c.f
def refT (cs : List Cell) : List Value := cs.map fun c => .ref c.t
section
variable {prog : Program} {w : World} {A : Around} {E : Value → Shared → Prop} {s : Shared} {h₀ : Heap} {L a : Addr} {news : List (Addr × Obj)} {xs : List Value} {x : Value} {n : Nat} {Q : Value → Shared → Prop}
theorem len_snoc (N : News h₀ L s.heap news) (hm : (a, listOf (xs ++ [x]).toArray n) ∈ news) (hfit : xs.length ≤ 999)
    (h : Q (.int ((xs.length : Int) + 1) (s.toks + 1)) { s with toks := s.toks + 1 + 1 }) : wpAny (model prog w) A (call (.builtin "len") [.ref a]) Q E s := by
  refine len_news N hm (by simp; omega) ?_
  rw [show (((xs ++ [x]).toArray.size : Nat) : Int) = (xs.length : Int) + 1 by simp]
  exact h
theorem len_list' (N : News h₀ L s.heap news) (hm : (a, listOf xs.toArray n) ∈ news) (hfit : xs.length ≤ 999)
    (h : Q (.int (xs.length : Int) (s.toks + 1)) { s with toks := s.toks + 1 + 1 }) : wpAny (model prog w) A (call (.builtin "len") [.ref a]) Q E s := by
  refine len_news N hm (by simp; omega) ?_
  rw [show ((xs.toArray.size : Nat) : Int) = (xs.length : Int) by simp]
  exact h
end

theorem Cell.Ok.nil {c : Cell} (h : c.Ok) (e : c.ns = []) : c.hs = [] ∧ c.ls = [] := by
  have h1 := h.hs.length
  have h2 := h.ls.length
  rw [e] at h1 h2
  exact ⟨List.eq_nil_of_length_eq_zero h1, List.eq_nil_of_length_eq_zero h2⟩
theorem refT_cons (e : Cell) (es : List Cell) (ys : List Value) : ys ++ (refT (e :: es)).reverse = (ys ++ (refT es).reverse) ++ [.ref e.t] := by simp [refT]
theorem refF_cons (e : Cell) (es : List Cell) (ys : List Value) : ys ++ (refF (e :: es)).reverse = (ys ++ (refF es).reverse) ++ [.ref e.f] := by simp [refF]
theorem refT_len (es : List Cell) (ys : List Value) : (ys ++ (refT es).reverse).length = ys.length + es.length := by simp [refT]
theorem refF_len (es : List Cell) (ys : List Value) : (ys ++ (refF es).reverse).length = ys.length + es.length := by simp [refF]
theorem news_in {g h : Heap} {L : Addr} {a b c d : Addr × Obj} {ex tl : List (Addr × Obj)} (N : News g L h (a :: b :: c :: d :: tl)) (k : ∀ q ∈ ex, q ∈ tl) : News g L h (a :: b :: c :: d :: (ex ++ tl)) := fun p hp => by
  refine N p ?_
  rcases List.mem_cons.mp hp with rfl | hp
  · exact .head _
  rcases List.mem_cons.mp hp with rfl | hp
  · exact .tail _ (.head _)
  rcases List.mem_cons.mp hp with rfl | hp
  · exact .tail _ (.tail _ (.head _))
  rcases List.mem_cons.mp hp with rfl | hp
  · exact .tail _ (.tail _ (.tail _ (.head _)))
  exact .tail _ (.tail _ (.tail _ (.tail _ ((List.mem_append.mp hp).elim (k p) id))))
/-- the empty frames of a ledger's tail -/
def Idle (w : World) (tl : List (Addr × Obj)) (es : List Cell) : Prop := ∀ c ∈ es, c.ns = [] ∧ c.Ok ∧ ∀ p ∈ c.objs w, p ∈ tl
theorem Idle.head {w : World} {tl : List (Addr × Obj)} {e : Cell} {es : List Cell} (h : Idle w tl (e :: es)) : ∀ p ∈ [(e.t, ({ cls := .type "tuple", data := .seq #[.ref e.l, .int e.at_ e.x, e.v] } : Obj)), (e.l, listOf #[] e.n4)], p ∈ tl := by
  obtain ⟨h1, h2, h3⟩ := h e (.head _)
  intro p hp
  refine h3 p ?_
  unfold Cell.objs
  rw [(h2.nil h1).2]
  rcases List.mem_cons.mp hp with rfl | hp
  · exact .tail _ (.tail _ (.tail _ (.head _)))
  · rw [List.mem_singleton.mp hp]
    exact .tail _ (.tail _ (.tail _ (.tail _ (.head _))))
theorem Idle.headF {w : World} {tl : List (Addr × Obj)} {e : Cell} {es : List Cell} (h : Idle w tl (e :: es)) : ∀ p ∈ [(e.f, instObj 172 e.d), (e.d, frD w e.u1 e.u2 e.u3 e.u4 e.u5 e.u6 e.u7 e.u8 e.ta e.tw e.c e.r e.st e.h e.at_ e.wo e.v), (e.h, listOf #[] e.n1)], p ∈ tl := by
  obtain ⟨h1, h2, h3⟩ := h e (.head _)
  intro p hp
  refine h3 p ?_
  unfold Cell.objs
  rw [(h2.nil h1).1]
  rcases List.mem_cons.mp hp with rfl | hp
  · exact .head _
  rcases List.mem_cons.mp hp with rfl | hp
  · exact .tail _ (.head _)
  · rw [List.mem_singleton.mp hp]
    exact .tail _ (.tail _ (.head _))
theorem Idle.tail {w : World} {tl : List (Addr × Obj)} {e : Cell} {es : List Cell} (h : Idle w tl (e :: es)) : Idle w tl es := fun c hc => h c (.tail _ hc)
/-- a while that takes such frames off -/
def PopLoop (w : World) (g : Heap) (L' : Addr) (M : Str → Option Value) (s : Shared) (led : Nat → List Cell → List (Addr × Obj)) (tl : List (Addr × Obj)) (n : Nat) (s₁ : Shared) : Prop :=
  ∃ (h₁ : Heap) (k₁ n₁ : Nat) (es₁ : List Cell), es₁.length = n ∧ es₁.length ≤ 9 ∧ s₁ = { s with heap := h₁, toks := k₁ } ∧ Fr g L' h₁ M ∧ News g L' h₁ (led n₁ es₁) ∧ Idle w tl es₁

/-- the ledger in unwound: the exception, its dict, the frames' object, the two lists -/
abbrev PopLed (w : World) (e de : Addr) (o1 o2 : Obj) (FO dF FL RO : Addr) (tm : Tok) (fx : List Value) (ro : Obj) (tl : List (Addr × Obj)) (n₁ : Nat) (es₁ : List Cell) : List (Addr × Obj) :=
  (e, o1) :: (de, o2) :: (FO, instObj 242 dF) :: (dF, dictOf [⟨PyData.keyHash w.params "rows", .str "rows" tm, .ref FL⟩] 1) :: (FL, listOf (fx ++ (refF es₁).reverse).toArray n₁) :: (RO, ro) :: tl
theorem news_in6 {g h : Heap} {L : Addr} {a b c d e f : Addr × Obj} {ex tl : List (Addr × Obj)} (N : News g L h (a :: b :: c :: d :: e :: f :: tl)) (k : ∀ q ∈ ex, q ∈ tl) : News g L h (a :: b :: c :: d :: e :: f :: (ex ++ tl)) := fun p hp => by
  refine N p ?_
  iterate 6
    rcases List.mem_cons.mp hp with rfl | hp
    · simp
  simp only [List.mem_cons]
  exact .inr (.inr (.inr (.inr (.inr (.inr ((List.mem_append.mp hp).elim (k p) id))))))

theorem SameL.refl (news : List (Addr × Obj)) (n : Nat) : ∀ xs : List Value, SameL news n xs xs
  | [] => .nil n
  | x :: xs => .cons (.same n x) (SameL.refl news n xs)

theorem ints_snoc {vs : List Value} {ns : List Int} {k : Int} {t : Tok} (h : IntsAre vs ns) : IntsAre (vs ++ [.int k t]) (ns ++ [k]) := by
  induction h with
  | nil => exact .cons k t .nil
  | cons i u _ ih => exact .cons i u ih
theorem ints_last {vs : List Value} {ns : List Int} {n0 : List Int} {k : Int} (h : IntsAre vs ns) (e : ns = n0 ++ [k]) : ∃ v0 t, vs = v0 ++ [.int k t] ∧ IntsAre v0 n0 := by
  have hl := h.length
  subst e
  obtain ⟨y, t, h1, h2, h3⟩ := kpa_ints h (by rw [hl]; simp)
  refine ⟨vs.dropLast, t, ?_, ?_⟩
  · rw [h1, h2]
    simp
  · simpa using h3
theorem Cell.Ok.last {c : Cell} (h : c.Ok) (e : c.ns ≠ []) : ∃ n0 K hs0 ls0 t1 t2, c.ns = n0 ++ [K] ∧ c.hs = hs0 ++ [.int K t1] ∧ c.ls = ls0 ++ [.int K t2] ∧ IntsAre hs0 n0 ∧ IntsAre ls0 n0 := by
  have e1 : c.ns = c.ns.dropLast ++ [c.ns.getLast e] := (List.dropLast_concat_getLast e).symm
  obtain ⟨hs0, t1, h1, h2⟩ := ints_last h.hs e1
  obtain ⟨ls0, t2, h3, h4⟩ := ints_last h.ls e1
  exact ⟨_, _, hs0, ls0, t1, t2, e1, h1, h3, h2, h4⟩

abbrev PopLed2 (w : World) (e de t' l' z : Addr) (o1 o2 o3 o4 o5 : Obj) (FO dF FL RO : Addr) (tm : Tok) (fx : List Value) (ro : Obj) (tl : List (Addr × Obj)) (n₁ : Nat) (es₁ : List Cell) : List (Addr × Obj) :=
  (e, o1) :: (de, o2) :: (t', o3) :: (l', o4) :: (z, o5) :: (FO, instObj 242 dF) :: (dF, dictOf [⟨PyData.keyHash w.params "rows", .str "rows" tm, .ref FL⟩] 1) :: (FL, listOf (fx ++ (refF es₁).reverse).toArray n₁) :: (RO, ro) :: tl
theorem news_in9 {g h : Heap} {L : Addr} {a b c d e f a' b' c' : Addr × Obj} {ex tl : List (Addr × Obj)} (N : News g L h (a :: b :: c :: d :: e :: f :: a' :: b' :: c' :: tl)) (k : ∀ q ∈ ex, q ∈ tl) : News g L h (a :: b :: c :: d :: e :: f :: a' :: b' :: c' :: (ex ++ tl)) := fun p hp => by
  refine N p ?_
  iterate 9
    rcases List.mem_cons.mp hp with rfl | hp
    · simp
  simp only [List.mem_cons]
  exact .inr (.inr (.inr (.inr (.inr (.inr (.inr (.inr (.inr ((List.mem_append.mp hp).elim (k p) id)))))))))
end Mine
end
section
open PySem PySem.W PyProof.Rows PySem.Calls PyProof.V PySem.Spec
namespace Mine
/-- a goal that is put aside: what is taken to pieces meanwhile does not carry it -/
theorem hide {P : Prop} (h : ∀ G : Prop, (P → G) → G) : P := h P id
/-- between the turns of a while that takes empty frames off a list -/
def PopI (w : World) (g : Heap) (L' : Addr) (M : Str → Option Value) (sg : Array GenState) (sd : Drawn) (so : OsState) (led : Nat → List Value → List (Addr × Obj)) (tl : List (Addr × Obj)) (base : List Value) (ref : List Cell → List Value) (n : Nat) (s₁ : Shared) : Prop :=
  ∃ h k n₁ es, es.length = n ∧ es.length ≤ 9 ∧ s₁ = ⟨h, sg, sd, k, so⟩ ∧ Fr g L' h M ∧ News g L' h (led n₁ (base ++ (ref es).reverse)) ∧ Idle w tl es
theorem PopI.mk {w : World} {g : Heap} {L' : Addr} {M : Str → Option Value} {sg : Array GenState} {sd : Drawn} {so : OsState} {led : Nat → List Value → List (Addr × Obj)} {tl : List (Addr × Obj)} {base X : List Value} {ref : List Cell → List Value} {n₁ k : Nat} {h : Heap} {e : Cell} {es : List Cell}
    (h9 : es.length ≤ 8) (hX : X = base ++ (ref es).reverse) (hes : Idle w tl (e :: es)) (F : Fr g L' h M) (N : News g L' h (led n₁ X)) : PopI w g L' M sg sd so led tl base ref es.length ⟨h, sg, sd, k, so⟩ :=
  ⟨h, k, n₁, es, rfl, Nat.le_trans h9 (by decide), rfl, F, hX ▸ N, hes.tail⟩
theorem while_pop {prog : Program} {w : World} {A : Around} {env : Env} {test : Expr} {body orelse : List Stmt} {pos : Pos} {Q : Flow → Shared → Prop} {E : Value → Shared → Prop} {g : Heap} {L' : Addr} {M : Str → Option Value} {h : Heap} {sg : Array GenState} {sd : Drawn} {k : Nat} {so : OsState} {n₀ : Nat} {es : List Cell}
    (led : Nat → List Value → List (Addr × Obj)) (tl : List (Addr × Obj)) (base : List Value) (ref : List Cell → List Value) (f : Cell → Addr)
    (hc : ∀ e es, (ref (e :: es)).reverse = (ref es).reverse ++ [.ref (f e)]) (h0 : (ref []).reverse = []) (hl : ∀ es, (ref es).length = es.length)
    (he : es.length ≤ 9) (F : Fr g L' h M) (N : News g L' h (led n₀ (base ++ (ref es).reverse))) (hes : Idle w tl es)
    (cons : ∀ n h₁ k₁ n₁ e es₂ X, es₂.length < n → es₂.length ≤ 8 → X.length = base.length + es₂.length → X = base ++ (ref es₂).reverse → Fr g L' h₁ M → News g L' h₁ (led n₁ (X ++ [.ref (f e)])) → Idle w tl (e :: es₂) →
      wpAny (model prog w) A (isTrue test env (eval test env)) (fun b s₂ =>
        if b then wpAny (model prog w) A (execs body env) (fun f s₃ => match f with
            | .next | .cont => ∃ m, m < n ∧ PopI w g L' M sg sd so led tl base ref m s₃
            | .brk => Q .next s₃
            | .ret v => Q (.ret v) s₃) (notedBy (model prog w) A env fun e s' => cameBackBy (model prog w) A env E e s') s₂
        else wpAny (model prog w) A (execs orelse env) (fun f s₃ => Q f s₃) (notedBy (model prog w) A env fun e s' => cameBackBy (model prog w) A env E e s') s₂)
        (notedBy (model prog w) A env fun e s' => cameBackBy (model prog w) A env E e s') ⟨h₁, sg, sd, k₁, so⟩)
    (nil : ∀ h₁ k₁ n₁, Fr g L' h₁ M → News g L' h₁ (led n₁ base) →
      wpAny (model prog w) A (isTrue test env (eval test env)) (fun b s₂ =>
        if b then wpAny (model prog w) A (execs body env) (fun f s₃ => match f with
            | .next | .cont => ∃ m, m < 0 ∧ PopI w g L' M sg sd so led tl base ref m s₃
            | .brk => Q .next s₃
            | .ret v => Q (.ret v) s₃) (notedBy (model prog w) A env fun e s' => cameBackBy (model prog w) A env E e s') s₂
        else wpAny (model prog w) A (execs orelse env) (fun f s₃ => Q f s₃) (notedBy (model prog w) A env fun e s' => cameBackBy (model prog w) A env E e s') s₂)
        (notedBy (model prog w) A env fun e s' => cameBackBy (model prog w) A env E e s') ⟨h₁, sg, sd, k₁, so⟩) :
    wpAny (model prog w) A (exec (.While test body orelse pos) env) Q E ⟨h, sg, sd, k, so⟩ := by
  refine wpAny_While (codeAny_whileLoop (PopI w g L' M sg sd so led tl base ref) ?_ es.length ⟨h, k, n₀, es, rfl, he, rfl, F, N, hes⟩)
  rintro n s₁ ⟨h₁, k₁, n₁, es₁, hn, h9, rfl, F₁, N₁, hin⟩
  cases es₁ with
  | nil =>
    subst hn
    rw [h0, List.append_nil] at N₁
    exact nil h₁ k₁ n₁ F₁ N₁
  | cons e es₂ =>
    have hlt : es₂.length < n := by rw [← hn]; exact Nat.lt_succ_self _
    have h8 : es₂.length ≤ 8 := Nat.le_of_succ_le_succ h9
    rw [hc, ← List.append_assoc] at N₁
    exact cons n h₁ k₁ n₁ e es₂ _ hlt h8 (by rw [List.length_append, List.length_reverse, hl]) rfl F₁ N₁ hin
abbrev PopT (w : World) (FO dF FL RO : Addr) (tm : Tok) (fo : Obj) (tl : List (Addr × Obj)) (n : Nat) (l : List Value) : List (Addr × Obj) :=
  (FO, instObj 242 dF) :: (dF, dictOf [⟨PyData.keyHash w.params "rows", .str "rows" tm, .ref FL⟩] 1) :: (FL, fo) :: (RO, listOf l.toArray n) :: tl
abbrev PopF (w : World) (e de : Addr) (o1 o2 : Obj) (FO dF FL RO : Addr) (tm : Tok) (ro : Obj) (tl : List (Addr × Obj)) (n : Nat) (l : List Value) : List (Addr × Obj) :=
  (e, o1) :: (de, o2) :: (FO, instObj 242 dF) :: (dF, dictOf [⟨PyData.keyHash w.params "rows", .str "rows" tm, .ref FL⟩] 1) :: (FL, listOf l.toArray n) :: (RO, ro) :: tl
abbrev PopF2 (w : World) (e de t' l' z : Addr) (o1 o2 o3 o4 o5 : Obj) (FO dF FL RO : Addr) (tm : Tok) (ro : Obj) (tl : List (Addr × Obj)) (n : Nat) (l : List Value) : List (Addr × Obj) :=
  (e, o1) :: (de, o2) :: (t', o3) :: (l', o4) :: (z, o5) :: (FO, instObj 242 dF) :: (dF, dictOf [⟨PyData.keyHash w.params "rows", .str "rows" tm, .ref FL⟩] 1) :: (FL, listOf l.toArray n) :: (RO, ro) :: tl
theorem refT_one (e : Cell) (es : List Cell) : (refT (e :: es)).reverse = (refT es).reverse ++ [.ref e.t] := by simp [refT]
theorem refF_one (e : Cell) (es : List Cell) : (refF (e :: es)).reverse = (refF es).reverse ++ [.ref e.f] := by simp [refF]
theorem refT_lens (es : List Cell) : (refT es).length = es.length := by simp [refT]
theorem refF_lens (es : List Cell) : (refF es).length = es.length := by simp [refF]
end Mine
end
section
open PySem PySem.W PyProof.Rows PySem.Calls PyProof.V PySem.Spec
namespace Mine
section
variable {prog : Program} {w : World} {A : Around} {E : Value → Shared → Prop} {s : Shared} {env : Env} {h₀ : Heap} {x : Str} {body : List Stmt} {Q : Flow → Shared → Prop}
/-- a loop over a list of the ledger that folds one int -/
theorem iter_ledP {l : Addr} {vs : List Value} {ns : List Int} {k : Nat} {m₀ : Str → Option Value} {news : List (Addr × Obj)} {y : Str} {c₀ : Int} {tc : Tok} (Inv : Int → Prop)
    (hh : A.handled = none) (F : Fr h₀ env.locals s.heap m₀) (N : News h₀ env.locals s.heap ((l, listOf vs.toArray k) :: news)) (hi : IntsAre vs ns) (hoff : ∀ p ∈ news, p.1 ≠ l) (hy : m₀ y = some (.int c₀ tc)) (h0 : Inv c₀)
    (turn : ∀ i t a ta h tk own, Inv a → OwnOff own (news.map (·.1)) → Fr h₀ env.locals h (fun z => if z = x then some (.int i t) else if z = y then some (.int a ta) else m₀ z) → News h₀ env.locals h (news ++ own) →
      wpAny (model prog w) A (execs body env) (InvPostN h₀ env.locals (fun m' nx => nx = news ∧ (∃ a' t', m' y = some (.int a' t') ∧ Inv a') ∧ ∀ z, z ≠ x → z ≠ y → m' z = m₀ z) own (news.map (·.1)) { s with heap := h, toks := tk } Q) E { s with heap := h, toks := tk })
    (done : ∀ (u : Str → Option Value) a t h tk, Inv a → Fr h₀ env.locals h (fun z => if z = x then u z else if z = y then some (.int a t) else m₀ z) → News h₀ env.locals h news → Q .next { s with heap := h, toks := tk }) :
    wpAny (model prog w) A (pyIter (.ref l)) (fun it s₂ => LoopAtV prog w A h₀ env x body Q E it s₂) E s := by
  have hls : s.heap.IsList l vs.toArray := N.isList (.head _)
  obtain ⟨ol, hol, _⟩ := id hls
  have hlt : l < s.heap.objs.size := Heap.lt_size hol
  have hne : l ≠ s.heap.objs.size := Nat.ne_of_lt hlt
  have N0 : News h₀ env.locals s.heap news := fun p hp => N p (.tail _ hp)
  refine wpAny_pyIter_list hls ?_
  have W := Walks.list (prog := prog) (w := w) hh s.heap.objs.size l hne vs.toArray
  refine loop_invN (fun _ m nx => nx = news ∧ (∃ a t, m y = some (.int a t) ∧ Inv a) ∧ ∀ z, z ≠ x → z ≠ y → m z = m₀ z) W ?_ ?_ ?_ ?_ ⟨⟨_, Heap.get?_push_size _ rfl, rfl, rfl⟩, hls.at fun o e => Heap.get?_push_of_some _ e⟩ (F.push _) (fun p hp => ⟨Heap.get?_push_of_some _ (N0 p hp).1, (N0 p hp).2⟩) ⟨rfl, ⟨c₀, tc, hy, h0⟩, fun _ _ _ => rfl⟩ ?_ ?_
  · intro hm
    rcases List.mem_cons.mp hm with e | hm
    · exact absurd F.ns.lt (e ▸ Nat.lt_irrefl _)
    · exact (N _ (.head _)).2.1 (List.mem_singleton.mp hm).symm
  · intro b hb
    rw [List.mem_singleton.mp hb]
    exact next_is_new F
  · intro p hp hI
    exact absurd (Heap.lt_size (N0 p hp).1) ((List.mem_singleton.mp hI) ▸ Nat.lt_irrefl _)
  · intro p hp hI
    rcases List.mem_cons.mp hI with e | hm
    · exact absurd (Heap.lt_size (N0 p hp).1) (e ▸ Nat.lt_irrefl _)
    · exact hoff p hp (List.mem_singleton.mp hm)
  · rintro i v m₁ news₁ h tk own hin hP _ hsep ⟨rfl, ⟨a, ta, ha, hI⟩, hm⟩ F₁ N₁
    obtain ⟨k', t, rfl⟩ : ∃ k' t, v = Value.int k' t := by
      have hP' : vs[i]? = some v := by simpa using hP
      have go : ∀ {vs : List Value} {ns : List Int}, IntsAre vs ns → ∀ (i : Nat) (v : Value), vs[i]? = some v → ∃ k' t, v = Value.int k' t := by
        intro vs ns h
        induction h with
        | nil => intro i v q; simp at q
        | cons k t _ ih =>
          intro i v q
          cases i with
          | zero => simp at q; exact ⟨_, _, q.symm⟩
          | succ i => exact ih i v (by simpa using q)
      exact go hi i v hP'
    rw [map_one ha hm] at F₁
    exact turn k' t a ta h tk own hI hsep F₁ N₁
  · rintro m₁ nx h tk ⟨rfl, ⟨a, t, ha, hI⟩, hm⟩ F₁ N₁
    refine done m₁ a t h tk hI ?_ N₁
    rw [done_one ha hm]; exact F₁
end

mutual
theorem SameV.mono {l l' : List (Addr × Obj)} (k : ∀ q ∈ l, q ∈ l') : ∀ {n : Nat} {a b : Value}, SameV l n a b → SameV l' n a b
  | _, _, _, .same n v => .same n v
  | _, _, _, .int n i t u => .int n i t u
  | _, _, _, .str n x t u => .str n x t u
  | _, _, _, .bytes n b t u => .bytes n b t u
  | _, _, _, .tuple ha hb hl => .tuple (k _ ha) (k _ hb) (SameL.mono k hl)
  | _, _, _, .list ha hb hl => .list (k _ ha) (k _ hb) (SameL.mono k hl)
theorem SameL.mono {l l' : List (Addr × Obj)} (k : ∀ q ∈ l, q ∈ l') : ∀ {n : Nat} {a b : List Value}, SameL l n a b → SameL l' n a b
  | _, _, _, .nil n => .nil n
  | _, _, _, .cons hv hl => .cons (SameV.mono k hv) (SameL.mono k hl)
end
theorem SameL.snoc {l : List (Addr × Obj)} {n : Nat} {x y : Value} (h : SameV l n x y) : ∀ {xs ys : List Value}, SameL l n xs ys → SameL l n (xs ++ [x]) (ys ++ [y])
  | _, _, .nil _ => .cons h (.nil _)
  | _, _, .cons hv hl => .cons hv (SameL.snoc h hl)
theorem sameL_ints {l : List (Addr × Obj)} {n : Nat} : ∀ {xs ys : List Value} {ns : List Int}, IntsAre xs ns → IntsAre ys ns → SameL l n xs ys
  | _, _, _, .nil, .nil => .nil n
  | _, _, _, .cons k t h, .cons _ u h' => .cons (.int n k t u) (sameL_ints h h')
/-- the turns of the frames' comprehension -/
def SeenTurn (cells : List Cell) (news₀ : List (Addr × Obj)) (i : Nat) (ys : List Value) (news : List (Addr × Obj)) : Prop := (∀ q ∈ news₀, q ∈ news) ∧ SameL news 8 ys ((refT cells).take i)
theorem SeenTurn.zero (cells : List Cell) (news : List (Addr × Obj)) : SeenTurn cells news 0 [] news := ⟨fun _ h => h, .nil _⟩
theorem SeenTurn.next {w : World} {cells : List Cell} {news₀ news big : List (Addr × Obj)} {i : Nat} {ys : List Value} {c : Cell} {t l : Addr} {z : Tok} {v : Value} {k1 k2 : Nat} (hv : c.v = v) (h : SeenTurn cells news₀ i ys news) (hc : cells[i]? = some c) (hok : c.Ok) (ho : ∀ p ∈ c.objs w, p ∈ news₀)
    (hs : ∀ q ∈ news, q ∈ big) (ht : (t, ({ cls := .type "tuple", data := .seq #[.ref l, .int c.at_ z, v] k1 } : Obj)) ∈ big) (hl : (l, listOf c.hs.toArray k2) ∈ big) : SeenTurn cells news₀ (i + 1) (ys ++ [.ref t]) big := by
  subst hv
  obtain ⟨h1, h2⟩ := h
  refine ⟨fun q hq => hs q (h1 q hq), ?_⟩
  have e : (refT cells)[i]? = some (.ref c.t) := by rw [refT, List.getElem?_map, hc]; rfl
  rw [List.take_add_one, e]
  have o1 : (c.t, ({ cls := .type "tuple", data := .seq #[.ref c.l, .int c.at_ c.x, c.v] } : Obj)) ∈ big := hs _ (h1 _ (ho _ (.tail _ (.tail _ (.tail _ (.head _))))))
  have o2 : (c.l, listOf c.ls.toArray c.n4) ∈ big := hs _ (h1 _ (ho _ (.tail _ (.tail _ (.tail _ (.tail _ (.head _)))))))
  exact SameL.snoc (.tuple (xs := [.ref l, .int c.at_ z, c.v]) (ys := [.ref c.l, .int c.at_ c.x, c.v]) ht o1 (.cons (.list hl o2 (sameL_ints hok.hs hok.ls)) (.cons (.int _ _ _ _) (.cons (.same _ _) (.nil _))))) (h2.mono hs)
theorem cell_at {cells : List Cell} {i : Nat} {v : Value} (h : (refF cells).toArray[i]? = some v) : ∃ c, cells[i]? = some c ∧ v = .ref c.f := by
  have h' : (refF cells)[i]? = some v := by simpa using h
  rw [refF, List.getElem?_map] at h'
  cases e : cells[i]? with
  | none => rw [e] at h'; cases h'
  | some c => rw [e] at h'; exact ⟨c, rfl, (Option.some.inj h').symm⟩
theorem compEnd_two {h₀ : Heap} {L I C D t l : Addr} {m : Str → Option Value} {s₁ : Shared} {o o2 oI oC oD : Obj} {S : List (Addr × Obj) → Prop} {rest : Value → List (Addr × Obj) → Prop} {y : Value} {h' : Heap} {tk : Nat} {news : List (Addr × Obj)}
    (F : Fr h₀ L h' m) (N : News h₀ L h' ((t, o) :: (l, o2) :: (I, oI) :: (C, oC) :: (D, oD) :: news)) (off : LCg.Off3 I C D news) (h1 : OffAll t [(I, oI), (C, oC), (D, oD)]) (h2 : OffAll l [(I, oI), (C, oC), (D, oD)]) (hS : S ((t, o) :: (l, o2) :: news)) (r : rest y ((t, o) :: (l, o2) :: news)) :
    LCg.CompEnd h₀ L m s₁ I oI C oC D oD S rest y { s₁ with heap := h', toks := tk } := by
  refine LCg.CompEnd.intro F N ((t, o) :: (l, o2) :: news) (fun p hp => ?_) ⟨⟨h1.1.ne.symm, h1.2.1.ne.symm, h1.2.2.1.ne.symm⟩, ⟨h2.1.ne.symm, h2.2.1.ne.symm, h2.2.2.1.ne.symm⟩, off⟩ hS r
  rcases List.mem_cons.mp hp with rfl | hp
  · exact .tail _ (.tail _ (.head _))
  rcases List.mem_cons.mp hp with rfl | hp
  · exact .tail _ (.tail _ (.tail _ (.head _)))
  rcases List.mem_cons.mp hp with rfl | hp
  · exact .tail _ (.tail _ (.tail _ (.tail _ (.head _))))
  rcases List.mem_cons.mp hp with rfl | hp
  · exact .head _
  rcases List.mem_cons.mp hp with rfl | hp
  · exact .tail _ (.head _)
  · exact .tail _ (.tail _ (.tail _ (.tail _ (.tail _ hp))))

theorem mul_rep {prog : Program} {w : World} {A : Around} {E : Value → Shared → Prop} {s : Shared} {h₀ : Heap} {L : Addr} {m : Str → Option Value} {news : List (Addr × Obj)} {l : Addr} {v : Value} {c : Nat} {x : Int} {u : Tok} {Q : Value → Shared → Prop}
    (F : Fr h₀ L s.heap m) (N : News h₀ L s.heap news) (hm : (l, listOf #[v] c) ∈ news) (hx : x = 199)
    (h : ∀ (X : List Value) D h', X.length = 199 → X.take 2 = [v, v] → Fr h₀ L h' m → News h₀ L h' ((D, listOf X.toArray 0) :: news) → (∀ p ∈ news, p.1 < D) → Q (.ref D) { s with heap := h' }) : wpAny (model prog w) A (binaryOp .Mult (.ref l) (.int x u)) Q E s := by
  subst hx
  exact KMa.mul (vs := [v]) (ws := List.replicate 199 v) F N (N.isList hm) (by decide) (by decide) (Nat.le_of_ble_eq_true rfl) rfl fun D h' F' N' l1 => h _ D h' List.length_replicate rfl F' N' l1
theorem slice_to {prog : Program} {w : World} {A : Around} {E : Value → Shared → Prop} {s : Shared} {h₀ : Heap} {L : Addr} {m : Str → Option Value} {news : List (Addr × Obj)} {value slice : Expr} {a : Addr} {xs ys : List Value} {n : Nat} {k : Int} {Q : Value → Shared → Prop} {t : Tok} (F : Fr h₀ L s.heap m) (N : News h₀ L s.heap news) (hm : (a, listOf xs.toArray n) ∈ news) (hk : 0 ≤ k) (e : xs.take k.toNat = ys) (hz : xs.length ≤ 1000)
    (h : ∀ D h', Fr h₀ L h' m → News h₀ L h' ((D, listOf ys.toArray 0) :: news) → (∀ p ∈ news, p.1 < D) → Q (.ref D) { s with heap := h' })
    (hs : subscripted slice false (.ref a) (.ref s.heap.objs.size) = operate [.ref s.heap.objs.size, .ref a] (getItem (.ref a) (.ref s.heap.objs.size))) (ht : ∀ r, letTemporaryGo value (.ref a) r = pure ()) :
    wpAny (model prog w) A (subscriptTail value slice (.ref a) (.ref s.heap.objs.size)) Q E { s with heap := s.heap.push { cls := .type "slice", data := .fields #[.none, .int k t, .none] } } := by
  refine kms_slice_lit F N (N.isList hm) IsPart.none (IsPart.int _ _) (zs := ys) ?_ h hs ht (by rw [PySem.sizeLine_eq]; simp; omega)
  rw [← e]
  unfold kms_pick kms_lo kms_hi
  dsimp only
  rw [if_neg (by omega)]
  simp
end Mine
end
section
open PySem PySem.W PyProof.Rows PySem.Calls PyProof.V PySem.Spec
namespace Mine
/-- a frame, its row, and the value that it caught -/
structure Box where
  c : Cell
  ex : List (Addr × Obj)
def Box.all (w : World) (b : Box) : List (Addr × Obj) := b.c.objs w ++ b.ex
def cellsOf (bs : List Box) : List Cell := bs.map Box.c
def boxTl (w : World) (bs : List Box) : List (Addr × Obj) := bs.flatMap (Box.all w)
abbrev fsOf (bs : List Box) : List Value := (refF (cellsOf bs)).reverse
abbrev tsOf (bs : List Box) : List Value := (refT (cellsOf bs)).reverse
structure Box.Good (k : Nat) (b : Box) : Prop where
  ok : b.c.Ok
  len : b.c.ns.length ≤ k
  val : (b.c.v = .none ∧ b.ex = []) ∨ ∃ va x1 bb x2, b.c.v = .ref va ∧ b.ex = [(va, ({ cls := .type "tuple", data := .seq #[.str "text" x1, .bytes bb x2] } : Obj))]
theorem Box.Good.mono {k k' : Nat} {b : Box} (h : b.Good k) (e : k ≤ k') : b.Good k' := ⟨h.ok, Nat.le_trans h.len e, h.val⟩
theorem Box.Good.val' {k : Nat} {b : Box} (h : b.Good k) : b.c.v = .none ∨ ∃ va, b.c.v = .ref va := h.val.imp And.left fun ⟨va, _, _, _, e, _⟩ => ⟨va, e⟩
abbrev rowsD (w : World) (tm : Tok) (FL : Addr) : Obj := dictOf [⟨PyData.keyHash w.params "rows", .str "rows" tm, .ref FL⟩] 1
abbrev Led (w : World) (S : Addr) (o : Obj) (FO dF : Addr) (tm : Tok) (FL RO : Addr) (n2 n3 : Nat) (bs : List Box) : List (Addr × Obj) :=
  (S, o) :: (FO, instObj 242 dF) :: (dF, rowsD w tm FL) :: (FL, listOf (fsOf bs).toArray n2) :: (RO, listOf (tsOf bs).toArray n3) :: boxTl w bs
theorem fs_cons (b : Box) (bs : List Box) : fsOf (b :: bs) = fsOf bs ++ [.ref b.c.f] := by simp [fsOf, refF, cellsOf]
theorem ts_cons (b : Box) (bs : List Box) : tsOf (b :: bs) = tsOf bs ++ [.ref b.c.t] := by simp [tsOf, refT, cellsOf]
theorem fs_len (bs : List Box) : (fsOf bs).length = bs.length := by simp [fsOf, refF, cellsOf]
theorem ts_len (bs : List Box) : (tsOf bs).length = bs.length := by simp [tsOf, refT, cellsOf]
theorem fs_app (es bs : List Box) : fsOf (es ++ bs) = fsOf bs ++ (refF (cellsOf es)).reverse := by simp [fsOf, refF, cellsOf]
theorem ts_app (es bs : List Box) : tsOf (es ++ bs) = tsOf bs ++ (refT (cellsOf es)).reverse := by simp [tsOf, refT, cellsOf]
theorem tl_cons (w : World) (b : Box) (bs : List Box) : boxTl w (b :: bs) = b.all w ++ boxTl w bs := rfl
theorem tl_app (w : World) (es bs : List Box) : boxTl w (es ++ bs) = boxTl w es ++ boxTl w bs := by simp [boxTl]
/-- the keys of a ledger -/
abbrev keys (l : List (Addr × Obj)) : List Addr := l.map (·.1)
theorem Apart.nodup : ∀ {l : List (Addr × Obj)}, Apart l → (keys l).Nodup
  | [], _ => List.nodup_nil
  | p :: r, h => List.nodup_cons.mpr ⟨fun q => by
      obtain ⟨x, hx, e⟩ := List.mem_map.mp q
      exact h.1.all x hx e, h.2.nodup⟩
/-- a part of the keys is changed for new ones -/
theorem Apart.swap {l l' : List (Addr × Obj)} {pre mid new post : List Addr} (h : Apart l) (e : keys l = pre ++ mid ++ post) (e' : keys l' = pre ++ new ++ post) (hn : new.Nodup) (ho : ∀ a ∈ new, a ∉ pre ++ post) : Apart l' := by
  refine apart_of ?_
  have hk := h.nodup
  rw [e] at hk
  show (keys l').Nodup
  rw [e']
  rw [List.append_assoc, List.nodup_append] at hk ⊢
  obtain ⟨h1, h2, h3⟩ := hk
  rw [List.nodup_append] at h2 ⊢
  obtain ⟨h4, h5, h6⟩ := h2
  refine ⟨h1, ⟨hn, h5, fun a ha b hb q => ho a ha (List.mem_append_right _ (q ▸ hb))⟩, fun a ha b hb q => ?_⟩
  rcases List.mem_append.mp hb with hb | hb
  · exact ho b hb (List.mem_append_left _ (q ▸ ha))
  · exact h3 a ha b (List.mem_append_right _ hb) q
theorem Apart.sub {l l' : List (Addr × Obj)} (h : Apart l) (k : (keys l').Sublist (keys l)) : Apart l' := apart_of (h.nodup.sublist k)
theorem Apart.perm {l l' : List (Addr × Obj)} (h : Apart l) (k : (keys l).Perm (keys l')) : Apart l' := apart_of (k.nodup h.nodup)
theorem offAll_keys {d : Addr} {l : List (Addr × Obj)} (h : OffAll d l) : d ∉ keys l := h.notIn
theorem offAll_of_keys {d : Addr} {l : List (Addr × Obj)} (h : d ∉ keys l) : OffAll d l := offAll_notIn h
/-- the frames that a throw leaves -/
theorem split_idle (k : Nat) : ∀ bs : List Box, k ≤ bs.length → ∃ es bs', bs = es ++ bs' ∧ k ≤ bs'.length ∧ (∀ b ∈ es, b.c.ns = []) ∧ (bs'.length = k ∨ ∃ b r, bs' = b :: r ∧ b.c.ns ≠ [] ∧ k ≤ r.length)
  | [], h => ⟨[], [], rfl, h, by simp, .inl (by simp at h ⊢; omega)⟩
  | b :: r, h => by
    by_cases hl : (b :: r).length = k
    · exact ⟨[], b :: r, rfl, h, by simp, .inl hl⟩
    have hr : k ≤ r.length := by simp at h hl; omega
    by_cases hb : b.c.ns = []
    · obtain ⟨es, bs', e, h1, h2, h3⟩ := split_idle k r hr
      exact ⟨b :: es, bs', by rw [e]; rfl, h1, fun x hx => by
        rcases List.mem_cons.mp hx with rfl | hx
        · exact hb
        · exact h2 x hx, h3⟩
    · exact ⟨[], b :: r, rfl, h, by simp, .inr ⟨b, r, rfl, hb, hr⟩⟩

/-- the law's names: three refs that stay -/
abbrev lawM (S FO RO : Addr) (u : Str → Option Value) (ti : Option Value) : Str → Option Value := fun z =>
  if z = Str.ofString "turn" then ti else if z = Str.ofString "shaft" then some (.ref S) else if z = Str.ofString "frames" then some (.ref FO) else if z = Str.ofString "rows" then some (.ref RO) else u z
theorem lawM_of {S FO RO : Addr} {m : Str → Option Value} (ti : Option Value) (h1 : m (Str.ofString "shaft") = some (.ref S)) (h2 : m (Str.ofString "frames") = some (.ref FO)) (h3 : m (Str.ofString "rows") = some (.ref RO)) :
    (fun z => if z = Str.ofString "turn" then ti else m z) = lawM S FO RO m ti := by
  funext z
  unfold lawM
  by_cases e : z = Str.ofString "turn"
  · rw [if_pos e, if_pos e]
  rw [if_neg e, if_neg e]
  by_cases e1 : z = Str.ofString "shaft"
  · rw [if_pos e1, e1, h1]
  rw [if_neg e1]
  by_cases e2 : z = Str.ofString "frames"
  · rw [if_pos e2, e2, h2]
  rw [if_neg e2]
  by_cases e3 : z = Str.ofString "rows"
  · rw [if_pos e3, e3, h3]
  rw [if_neg e3]
/-- between the law's turns -/
structure LawSt (w : World) (S FO dF : Addr) (tm : Tok) (FL RO : Addr) (a : Int) (ta : Tok) (b : Int) (tb : Tok) (n n2 n3 : Nat) (bs : List Box) (i : Nat) (nx : List (Addr × Obj)) : Prop where
  led : nx = Led w S (listOf #[.int a ta, .int b tb] n) FO dF tm FL RO n2 n3 bs
  a0 : 0 ≤ a
  b0 : 0 ≤ b
  b1 : b < 2147483629
  len : bs.length ≤ i
  good : ∀ x ∈ bs, x.Good i
  apart : Apart nx
def LawJ (w : World) (S FO dF : Addr) (tm : Tok) (FL RO : Addr) (i : Nat) (m : Str → Option Value) (nx : List (Addr × Obj)) : Prop :=
  (∃ a ta b tb n n2 n3 bs, LawSt w S FO dF tm FL RO a ta b tb n n2 n3 bs i nx) ∧ m (Str.ofString "shaft") = some (.ref S) ∧ m (Str.ofString "frames") = some (.ref FO) ∧ m (Str.ofString "rows") = some (.ref RO)
/-- a turn's end -/
def TurnEnd (h₀ : Heap) (L I : Addr) (oI : Obj) (J : (Str → Option Value) → List (Addr × Obj) → Prop) (s₁ s₂ : Shared) : Prop :=
  ∃ h' tk m' nx', s₂ = { s₁ with heap := h', toks := tk } ∧ Fr h₀ L h' m' ∧ News h₀ L h' ((I, oI) :: nx') ∧ (∀ q ∈ nx', q.1 ≠ I) ∧ J m' nx'
section
variable {prog : Program} {w : World} {A : Around} {E : Value → Shared → Prop} {s : Shared} {env : Env} {h₀ : Heap} {x : Str} {body : List Stmt} {Q : Flow → Shared → Prop}
theorem execs_cut {M : Model} {st : Stmt} {rest : List Stmt} (P : Shared → Prop) (h1 : wpAny M A (exec st env) (fun f s' => f = .next ∧ P s') E s) (h2 : ∀ s', P s' → wpAny M A (execs rest env) Q E s') : wpAny M A (execs (st :: rest) env) Q E s :=
  wpAny_execs_cons (wpAny_mono h1 (fun f s' h => by
    obtain ⟨rfl, h⟩ := h
    exact h2 s' h) fun _ _ e => e)
theorem range_inv {r : Addr} {a₀ b₀ : Int} {t₀ u₀ v₀ : Tok} {n : Nat} {m₀ : Str → Option Value} {news : List (Addr × Obj)} (J : Nat → (Str → Option Value) → List (Addr × Obj) → Prop)
    (hh : A.handled = none) (hr : IsRange s.heap r a₀ b₀ 1 t₀ u₀ v₀) (hsmall : Builtin.Range.small a₀ b₀ 1 = true) (hn : Builtin.Range.rangeSize a₀ b₀ 1 = (n : Int)) (F : Fr h₀ env.locals s.heap m₀) (N : News h₀ env.locals s.heap news) (hj : J 0 m₀ news)
    (turn : ∀ i t m₁ nx h tk I oI, i < n → (∀ q ∈ nx, q.1 ≠ I) → J i m₁ nx → Fr h₀ env.locals h (fun y => if y = x then some (.int (a₀ + (i : Int)) t) else m₁ y) → News h₀ env.locals h ((I, oI) :: nx) →
      wpAny (model prog w) A (execs body env) (fun f s' => f = .next ∧ TurnEnd h₀ env.locals I oI (J (i + 1)) { s with heap := h, toks := tk } s') E { s with heap := h, toks := tk })
    (done : ∀ m₁ nx h tk, J n m₁ nx → Fr h₀ env.locals h m₁ → News h₀ env.locals h nx → Q .next { s with heap := h, toks := tk }) :
    wpAny (model prog w) A (pyIter (.ref r)) (fun it s₂ => LoopAtV prog w A h₀ env x body Q E it s₂) E s := by
  refine wpAny_pyIter_range hr hsmall ?_
  have W : Walks prog w A s.heap.objs.size [s.heap.objs.size] [s.heap.objs.size] n (fun i v => i < n ∧ ∃ t, v = .int (a₀ + i * 1) t)
      (fun i h => IsRangeIter h s.heap.objs.size (a₀ + (i : Nat) * 1) ((n : Int) - (i : Nat)) 1) := (Walks.range hh _ a₀ 1 n).bound
  refine ⟨_, _, _, n, _, _, m₀, news, J, rfl, W, ?_, ?_, ?_, (by show IsRangeIter _ _ _ _ _; rw [hn]; simpa using Heap.get?_push_size _ rfl), F.push _, (fun p hp => ⟨Heap.get?_push_of_some _ (N p hp).1, (N p hp).2⟩), hj, ?_, ?_⟩
  · intro hm
    exact absurd F.ns.lt ((List.mem_singleton.mp hm) ▸ Nat.lt_irrefl _)
  · intro b hb
    rw [List.mem_singleton.mp hb]
    exact next_is_new F
  · intro p hp hI
    exact absurd (Heap.lt_size (N p hp).1) ((List.mem_singleton.mp hI) ▸ Nat.lt_irrefl _)
  · rintro i v m₁ nx s₁ own ⟨hh', tk', rfl⟩ hin ⟨_, t, rfl⟩ hJ hoff hown hget hall hst F₁ N₁
    have hnew := next_is_new F
    obtain ⟨oI, hI⟩ : ∃ o, hh'.get? s.heap.objs.size = some o := ⟨_, hst⟩
    have hmem : (s.heap.objs.size, oI) ∈ own := hall s.heap.objs.size (List.mem_singleton.mpr rfl) hnew _ hI
    have N₂ : News h₀ env.locals hh' ((s.heap.objs.size, oI) :: nx) := fun p hp => by
      rcases List.mem_cons.mp hp with rfl | hp
      · exact N₁ _ (List.mem_append_left _ hmem)
      · exact N₁ _ (List.mem_append_right _ hp)
    have e1 : a₀ + (i : Int) * 1 = a₀ + (i : Int) := by omega
    rw [e1] at F₁
    refine wpAny_mono (turn i t m₁ nx hh' tk' s.heap.objs.size oI hin (fun q hq e => hoff q hq (List.mem_singleton.mpr e)) hJ F₁ N₂) (fun f s₂ p => ?_) fun _ _ e => e
    obtain ⟨rfl, h', tk, m', nx', rfl, F', N', ho, hJ'⟩ := p
    refine .next ⟨rfl, h', tk, m', nx', rfl, F', fun p hp => ?_, fun p hp hq => ho p hp (List.mem_singleton.mp hq), hJ'⟩
    rcases List.mem_append.mp hp with hp | hp
    · have h1 : p.1 = s.heap.objs.size := List.mem_singleton.mp (hown p hp)
      have h2 : hh'.get? p.1 = some p.2 := hget p hp
      have h3 : p = (s.heap.objs.size, oI) := by
        rw [h1, hI] at h2
        exact Prod.ext h1 (Option.some.inj h2).symm
      rw [h3]; exact N' _ (List.mem_cons_self ..)
    · exact N' _ (List.mem_cons_of_mem _ hp)
  · rintro h' tk m' news' F' N' _ hJ
    exact done m' news' h' tk hJ F' N'
end
theorem news_head {g h : Heap} {L : Addr} {x : Addr × Obj} {pre : List (Addr × Obj)} (N : News g L h (pre ++ [x])) : News g L h (x :: pre) := fun p hp => N p (by
  rcases List.mem_cons.mp hp with rfl | hp
  · exact List.mem_append_right _ (.head _)
  · exact List.mem_append_left _ hp)
theorem Apart.ins {x y : Addr × Obj} {l : List (Addr × Obj)} (h : Apart (x :: l)) (k : ∀ q ∈ x :: l, q.1 ≠ y.1) : Apart (x :: y :: l) := by
  obtain ⟨h1, h2⟩ := h
  exact ⟨⟨⟨fun e => k x (.head _) e.symm⟩, h1⟩, offAll_of fun p hp => k p (.tail _ hp), h2⟩
section
variable {prog : Program} {w : World} {A : Around} {E : Value → Shared → Prop} {s : Shared} {env : Env} {h₀ : Heap} {x : Str} {body : List Stmt} {Q : Flow → Shared → Prop}
theorem range_law {S FO dF FL RO r : Addr} {tm : Tok} {a b b₀ : Int} {ta tb t₀ u₀ v₀ : Tok} {n k k2 k3 : Nat} {m₀ : Str → Option Value}
    (hh : A.handled = none) (hr : IsRange s.heap r 0 b₀ 1 t₀ u₀ v₀) (hsmall : Builtin.Range.small 0 b₀ 1 = true) (hn : Builtin.Range.rangeSize 0 b₀ 1 = (n : Int)) (F : Fr h₀ env.locals s.heap m₀)
    (N : News h₀ env.locals s.heap (Led w S (listOf #[.int a ta, .int b tb] k) FO dF tm FL RO k2 k3 []))
    (hj : (0 ≤ a ∧ 0 ≤ b ∧ b < 2147483629 ∧ Apart (Led w S (listOf #[.int a ta, .int b tb] k) FO dF tm FL RO k2 k3 [])) ∧ m₀ (Str.ofString "shaft") = some (.ref S) ∧ m₀ (Str.ofString "frames") = some (.ref FO) ∧ m₀ (Str.ofString "rows") = some (.ref RO))
    (both : ∀ (S FO dF : Addr) (tm : Tok) (FL RO : Addr), (∀ (i : Nat) (t : Tok) (m₁ : Str → Option Value) (h : Heap) (tk : Nat) (I : Addr) (oI : Obj) (a : Int) (ta : Tok) (b : Int) (tb : Tok) (k k2 k3 : Nat) (bs : List Box), i < n → (∀ q ∈ Led w S (listOf #[.int a ta, .int b tb] k) FO dF tm FL RO k2 k3 bs, q.1 ≠ I) → LawSt w S FO dF tm FL RO a ta b tb k k2 k3 bs i (Led w S (listOf #[.int a ta, .int b tb] k) FO dF tm FL RO k2 k3 bs) →
        Fr h₀ env.locals h (fun y => if y = x then some (.int (i : Int) t) else m₁ y) → News h₀ env.locals h ((I, oI) :: Led w S (listOf #[.int a ta, .int b tb] k) FO dF tm FL RO k2 k3 bs) →
        m₁ (Str.ofString "shaft") = some (.ref S) → m₁ (Str.ofString "frames") = some (.ref FO) → m₁ (Str.ofString "rows") = some (.ref RO) →
        wpAny (model prog w) A (execs body env) (fun f s' => f = .next ∧ TurnEnd h₀ env.locals I oI (LawJ w S FO dF tm FL RO (i + 1)) { s with heap := h, toks := tk } s') E { s with heap := h, toks := tk }) ∧
      (∀ (m₁ : Str → Option Value) (h : Heap) (tk : Nat) (a : Int) (ta : Tok) (b : Int) (tb : Tok) (k k2 k3 : Nat) (bs : List Box), LawSt w S FO dF tm FL RO a ta b tb k k2 k3 bs n (Led w S (listOf #[.int a ta, .int b tb] k) FO dF tm FL RO k2 k3 bs) → Fr h₀ env.locals h m₁ → News h₀ env.locals h (Led w S (listOf #[.int a ta, .int b tb] k) FO dF tm FL RO k2 k3 bs) →
        m₁ (Str.ofString "shaft") = some (.ref S) → m₁ (Str.ofString "frames") = some (.ref FO) → m₁ (Str.ofString "rows") = some (.ref RO) → Q .next { s with heap := h, toks := tk })) :
    wpAny (model prog w) A (pyIter (.ref r)) (fun it s₂ => LoopAtV prog w A h₀ env x body Q E it s₂) E s := by
  obtain ⟨⟨a0, b0, b1, ap⟩, hm⟩ := hj
  refine range_inv (fun i => LawJ w S FO dF tm FL RO i) hh hr hsmall hn F N ⟨⟨a, ta, b, tb, k, k2, k3, [], rfl, a0, b0, b1, Nat.le_refl _, fun x hx => (nomatch hx), ap⟩, hm⟩ ?_ ?_
  · rintro i t m₁ nx h tk I oI hi hI ⟨⟨a, ta, b, tb, k, k2, k3, bs, hS⟩, h1, h2, h3⟩ F N
    have e := hS.led
    subst e
    rw [Int.zero_add] at F
    exact (both S FO dF tm FL RO).1 i t m₁ h tk I oI a ta b tb k k2 k3 bs hi hI hS F N h1 h2 h3
  · rintro m₁ nx h tk ⟨⟨a, ta, b, tb, k, k2, k3, bs, hS⟩, h1, h2, h3⟩ F N
    have e := hS.led
    subst e
    exact (both S FO dF tm FL RO).2 m₁ h tk a ta b tb k k2 k3 bs hS F N h1 h2 h3
end
/-- after the turn's first statement -/
def WayEnd (h₀ : Heap) (L : Addr) (w : World) (S FO dF : Addr) (tm : Tok) (FL RO I : Addr) (oI : Obj) (u : Str → Option Value) (ti : Option Value) (k2 k3 : Nat) (bs : List Box) (s₁ s₂ : Shared) : Prop :=
  ∃ h' tk r t a ta b tb k, s₂ = { s₁ with heap := h', toks := tk } ∧ Fr h₀ L h' (fun z => if z = Str.ofString "way" then some (.int r t) else lawM S FO RO u ti z) ∧ News h₀ L h' ((S, listOf #[.int a ta, .int b tb] k) :: (I, oI) :: (FO, instObj 242 dF) :: (dF, rowsD w tm FL) :: (FL, listOf (fsOf bs).toArray k2) :: (RO, listOf (tsOf bs).toArray k3) :: boxTl w bs) ∧ (0 ≤ r ∧ r < 8 ∧ (r < 2 ∨ bs ≠ [])) ∧ 0 ≤ a ∧ 0 ≤ b ∧ b < 2147483629
def NextTo (P : Shared → Prop) (f : Flow) (s : Shared) : Prop := f = .next ∧ P s
theorem way_cut {M : Model} {A : Around} {E : Value → Shared → Prop} {s : Shared} {env : Env} {Q : Flow → Shared → Prop} {st : Stmt} {rest : List Stmt} {h₀ hp : Heap} {w : World} {S FO dF FL RO I : Addr} {tm : Tok} {oI o : Obj} {u : Str → Option Value} {ti : Option Value} {k2 k3 : Nat} {bs : List Box}
    (_F : Fr h₀ env.locals hp (lawM S FO RO u ti)) (_N : News h₀ env.locals hp ((I, oI) :: Led w S o FO dF tm FL RO k2 k3 bs))
    (h1 : wpAny M A (exec st env) (NextTo (WayEnd h₀ env.locals w S FO dF tm FL RO I oI u ti k2 k3 bs s)) E s)
    (h2 : ∀ h' tk r t a ta b tb k, Fr h₀ env.locals h' (fun z => if z = Str.ofString "way" then some (.int r t) else lawM S FO RO u ti z) → News h₀ env.locals h' ((S, listOf #[.int a ta, .int b tb] k) :: (I, oI) :: (FO, instObj 242 dF) :: (dF, rowsD w tm FL) :: (FL, listOf (fsOf bs).toArray k2) :: (RO, listOf (tsOf bs).toArray k3) :: boxTl w bs) → 0 ≤ r → r < 8 → (r < 2 ∨ bs ≠ []) → 0 ≤ a → 0 ≤ b → b < 2147483629 →
      wpAny M A (execs rest env) Q E { s with heap := h', toks := tk }) : wpAny M A (execs (st :: rest) env) Q E s :=
  wpAny_execs_cons (wpAny_mono h1 (fun f s' h => by
    obtain ⟨rfl, h', tk, r, t, a, ta, b, tb, k, rfl, F, N, ⟨r0, r1, r2⟩, a0, b0, b1⟩ := h
    exact h2 h' tk r t a ta b tb k F N r0 r1 r2 a0 b0 b1) fun _ _ e => e)
theorem news_swap {g h : Heap} {L : Addr} {a b : Addr × Obj} {l : List (Addr × Obj)} (N : News g L h (a :: b :: l)) : News g L h (b :: a :: l) := fun p hp => N p (by
  rcases List.mem_cons.mp hp with rfl | hp
  · exact .tail _ (.head _)
  rcases List.mem_cons.mp hp with rfl | hp
  · exact .head _
  · exact .tail _ (.tail _ hp))
theorem Apart.objs {x y : Addr × Obj} {l : List (Addr × Obj)} (h : Apart (x :: l)) (e : x.1 = y.1) : Apart (y :: l) := by
  obtain ⟨h1, h2⟩ := h
  rw [e] at h1
  exact ⟨h1, h2⟩
theorem ne_nil {prog : Program} {w : World} {A : Around} {E : Value → Shared → Prop} {s : Shared} {h₀ : Heap} {L : Addr} {news : List (Addr × Obj)} {a b : Addr} {xs : List Value} {x : Value} {k1 k2 : Nat} {Q : Value → Shared → Prop} (N : News h₀ L s.heap news) (ha : (a, listOf (xs ++ [x]).toArray k1) ∈ news) (hb : (b, listOf #[] k2) ∈ news) (hu : A.units + 64 < cLine) (h : Q (.bool true) s) :
    wpAny (model prog w) A (compareOp .NotEq (.ref a) (.ref b)) Q E s := SeqAt.RcNeAt.lists_lengths (A := A) (N.isList ha) (N.isList hb) (by simp) (by omega) prog w E Q h
theorem led_nil {w : World} {S FO dF FL RO L : Addr} {o : Obj} {tm : Tok} {n2 n3 : Nat} {g h : Heap} (N : News g L h [(S, o), (FO, instObj 242 dF), (dF, rowsD w tm FL), (FL, W.listOf #[] n2), (RO, W.listOf #[] n3)]) : News g L h (Led w S o FO dF tm FL RO n2 n3 []) := N
theorem apart_nil {w : World} {S FO dF FL RO : Addr} {o : Obj} {tm : Tok} {n2 n3 : Nat} (N : Apart [(S, o), (FO, instObj 242 dF), (dF, rowsD w tm FL), (FL, W.listOf #[] n2), (RO, W.listOf #[] n3)]) : Apart (Led w S o FO dF tm FL RO n2 n3 []) := N
theorem mem5 {a b c d e : Addr × Obj} {l : List (Addr × Obj)} (h1 : a ∈ l) (h2 : b ∈ l) (h3 : c ∈ l) (h4 : d ∈ l) (h5 : e ∈ l) : ∀ q ∈ [a, b, c, d, e], q ∈ l := by
  simp only [List.forall_mem_cons]
  exact ⟨h1, h2, h3, h4, h5, List.forall_mem_nil _⟩
theorem way_nil {w : World} {FO dF FL RO L : Addr} {x y : Addr × Obj} {tm : Tok} {n2 n3 : Nat} {g h : Heap} (N : News g L h [x, y, (FO, instObj 242 dF), (dF, rowsD w tm FL), (FL, W.listOf #[] n2), (RO, W.listOf #[] n3)]) : News g L h (x :: y :: (FO, instObj 242 dF) :: (dF, rowsD w tm FL) :: (FL, W.listOf (fsOf []).toArray n2) :: (RO, W.listOf (tsOf []).toArray n3) :: boxTl w []) := N
theorem way_nil' {w : World} {FO dF FL RO L : Addr} {x y : Addr × Obj} {tm : Tok} {n2 n3 : Nat} {g h : Heap} (N : News g L h (x :: y :: (FO, instObj 242 dF) :: (dF, rowsD w tm FL) :: (FL, W.listOf (fsOf []).toArray n2) :: (RO, W.listOf (tsOf []).toArray n3) :: boxTl w [])) : News g L h [x, y, (FO, instObj 242 dF), (dF, rowsD w tm FL), (FL, W.listOf #[] n2), (RO, W.listOf #[] n3)] := N
theorem way_cons {w : World} {FO dF FL RO L : Addr} {x y : Addr × Obj} {tm : Tok} {n2 n3 : Nat} {g h : Heap} {b : Box} {r : List Box} {tl : List (Addr × Obj)} (N : News g L h (x :: y :: (FO, instObj 242 dF) :: (dF, rowsD w tm FL) :: (FL, W.listOf (fsOf (b :: r)).toArray n2) :: (RO, W.listOf (tsOf (b :: r)).toArray n3) :: tl)) : News g L h (x :: y :: (FO, instObj 242 dF) :: (dF, rowsD w tm FL) :: (FL, W.listOf (fsOf r ++ [Value.ref b.c.f]).toArray n2) :: (RO, W.listOf (tsOf r ++ [Value.ref b.c.t]).toArray n3) :: tl) := by
  rw [← fs_cons, ← ts_cons]
  exact N
theorem news_tl {g h : Heap} {L : Addr} {a : Addr × Obj} {l : List (Addr × Obj)} (N : News g L h (a :: l)) : News g L h l := fun p hp => N p (.tail _ hp)
theorem turn_cut {M : Model} {A : Around} {E : Value → Shared → Prop} {s : Shared} {env : Env} {Q : Flow → Shared → Prop} {st : Stmt} {rest : List Stmt} {h₀ hp : Heap} {w : World} {S FO dF FL RO I : Addr} {tm : Tok} {oI o o2 o3 : Obj} {tl : List (Addr × Obj)} (n : Nat)
    (_N : News h₀ env.locals hp ((S, o) :: (I, oI) :: (FO, instObj 242 dF) :: (dF, rowsD w tm FL) :: (FL, o2) :: (RO, o3) :: tl))
    (h1 : wpAny M A (exec st env) (NextTo (TurnEnd h₀ env.locals I oI (LawJ w S FO dF tm FL RO n) s)) E s)
    (h2 : ∀ h' tk m a ta b tb k k2 k3 bs, LawSt w S FO dF tm FL RO a ta b tb k k2 k3 bs n (Led w S (listOf #[.int a ta, .int b tb] k) FO dF tm FL RO k2 k3 bs) → Fr h₀ env.locals h' m → News h₀ env.locals h' ((S, listOf #[.int a ta, .int b tb] k) :: (I, oI) :: (FO, instObj 242 dF) :: (dF, rowsD w tm FL) :: (FL, listOf (fsOf bs).toArray k2) :: (RO, listOf (tsOf bs).toArray k3) :: boxTl w bs) → (∀ q ∈ Led w S (listOf #[.int a ta, .int b tb] k) FO dF tm FL RO k2 k3 bs, q.1 ≠ I) →
      m (Str.ofString "shaft") = some (.ref S) → m (Str.ofString "frames") = some (.ref FO) → m (Str.ofString "rows") = some (.ref RO) → wpAny M A (execs rest env) Q E { s with heap := h', toks := tk }) :
    wpAny M A (execs (st :: rest) env) Q E s :=
  wpAny_execs_cons (wpAny_mono h1 (fun f s' h => by
    obtain ⟨rfl, h', tk, m', nx', rfl, F, N, ho, ⟨a, ta, b, tb, k, k2, k3, bs, hS⟩, e1, e2, e3⟩ := h
    have e := hS.led
    subst e
    exact h2 h' tk m' a ta b tb k k2 k3 bs hS F (news_swap N) ho e1 e2 e3) fun _ _ e => e)
theorem TurnEnd.of {h₀ h' : Heap} {L : Addr} {tk : Nat} {s : Shared} {w : World} {S FO dF FL RO I : Addr} {tm : Tok} {oI : Obj} {m : Str → Option Value} {a b : Int} {ta tb : Tok} {k k2 k3 n : Nat} (bs : List Box)
    (F : Fr h₀ L h' m) (N : News h₀ L h' ((S, listOf #[.int a ta, .int b tb] k) :: (I, oI) :: (FO, instObj 242 dF) :: (dF, rowsD w tm FL) :: (FL, listOf (fsOf bs).toArray k2) :: (RO, listOf (tsOf bs).toArray k3) :: boxTl w bs))
    (a0 : 0 ≤ a) (b0 : 0 ≤ b) (b1 : b < 2147483629) (hl : bs.length ≤ n) (hg : ∀ x ∈ bs, x.Good n) (ap : Apart ((S, listOf #[.int a ta, .int b tb] k) :: (I, oI) :: (FO, instObj 242 dF) :: (dF, rowsD w tm FL) :: (FL, listOf (fsOf bs).toArray k2) :: (RO, listOf (tsOf bs).toArray k3) :: boxTl w bs))
    (h1 : m (Str.ofString "shaft") = some (.ref S)) (h2 : m (Str.ofString "frames") = some (.ref FO)) (h3 : m (Str.ofString "rows") = some (.ref RO)) :
    NextTo (TurnEnd h₀ L I oI (LawJ w S FO dF tm FL RO n) s) .next { s with heap := h', toks := tk } := by
  refine ⟨rfl, h', tk, m, Led w S (listOf #[.int a ta, .int b tb] k) FO dF tm FL RO k2 k3 bs, rfl, F, news_swap N, ?_, ⟨a, ta, b, tb, k, k2, k3, bs, rfl, a0, b0, b1, hl, hg, ?_⟩, h1, h2, h3⟩
  · obtain ⟨h1, h2, h3⟩ := ap
    obtain ⟨hx, _⟩ := h1
    intro q hq
    rcases List.mem_cons.mp hq with rfl | hq
    · exact hx.ne.symm
    · exact (h2.all q hq)
  · exact ap.sub (.cons_cons _ (.cons _ (List.Sublist.refl _)))
end Mine
end
section
open PySem PySem.W PyProof.Rows PySem.Calls PyProof.V PySem.Spec
namespace Mine
theorem News.rot {g h : Heap} {L : Addr} {a b : Addr × Obj} {l : List (Addr × Obj)} (N : News g L h (a :: b :: l)) : News g L h (l ++ [a, b]) := fun p hp => N p (by
  rcases List.mem_append.mp hp with hp | hp
  · exact .tail _ (.tail _ hp)
  · rcases List.mem_cons.mp hp with rfl | hp
    · exact .head _
    · exact .tail _ (List.mem_cons.mpr (.inl (List.mem_singleton.mp hp))))
theorem News.back {g h : Heap} {L : Addr} {a b : Addr × Obj} {l : List (Addr × Obj)} (N : News g L h (l ++ [a, b])) : News g L h (a :: b :: l) := fun p hp => N p (by
  rcases List.mem_cons.mp hp with rfl | hp
  · simp
  · rcases List.mem_cons.mp hp with rfl | hp
    · simp
    · exact List.mem_append_left _ hp)
theorem Apart.rot {a b : Addr × Obj} {l : List (Addr × Obj)} (h : Apart (a :: b :: l)) : Apart (l ++ [a, b]) := h.perm (by
  simp only [keys, List.map_append]
  exact List.perm_append_comm (l₁ := [a.1, b.1]))
theorem Apart.back {a b : Addr × Obj} {l : List (Addr × Obj)} (h : Apart (l ++ [a, b])) : Apart (a :: b :: l) := h.perm (by
  simp only [keys, List.map_append]
  exact List.perm_append_comm (l₂ := [a.1, b.1]))
theorem News.rot4 {g h : Heap} {L : Addr} {a b p q r t : Addr × Obj} {l : List (Addr × Obj)} (N : News g L h (a :: b :: p :: q :: r :: t :: l)) : News g L h (p :: q :: r :: t :: (l ++ [a, b])) := News.rot N
theorem Apart.rot4 {a b p q r t : Addr × Obj} {l : List (Addr × Obj)} (h : Apart (a :: b :: p :: q :: r :: t :: l)) : Apart (p :: q :: r :: t :: (l ++ [a, b])) := Apart.rot h
theorem lt_keys {D : Addr} {l : List (Addr × Obj)} (h : ∀ p ∈ l, p.1 < D) : ∀ k ∈ keys l, k ≠ D := fun k hk e => by
  obtain ⟨p, hp, rfl⟩ := List.mem_map.mp hk
  exact absurd (h p hp) (e ▸ Nat.lt_irrefl _)
/-- a handler is entered -/
theorem enter_end {h₀ h' : Heap} {L : Addr} {tk : Nat} {s : Shared} {w : World} {S FO dF FL RO I D D1 l' : Addr} {tm : Tok} {oI o1 o2 o3 o4 z1 z2 z3 p0 p1 p2 p3 p4 p5 p6 p7 p8 p9 p10 q0 q1 q2 q3 q4 q5 q6 q7 q8 q9 q10 : Obj} {m : Str → Option Value} {a b K : Int} {ta tb t1 t2 : Tok} {k k2 k3 k2' k3' i : Nat} (x : Box) {br : List Box}
    (F : Fr h₀ L h' m) (N : News h₀ L h' ((D, { cls := .type "tuple", data := .seq #[Value.ref D1, Value.int x.c.at_ x.c.x, x.c.v] }) :: (D1, W.listOf (x.c.ls ++ [Value.int K t1]).toArray 0) :: (l', o1) :: (S, W.listOf #[Value.int a ta, Value.int b tb] k) :: (I, oI) :: (FO, instObj 242 dF) :: (dF, rowsD w tm FL) :: (FL, W.listOf (fsOf br ++ [Value.ref x.c.f]).toArray k2) :: (RO, W.listOf (tsOf br ++ [Value.ref D]).toArray k3) :: (x.c.f, instObj 172 x.c.d) :: (x.c.d, frD w x.c.u1 x.c.u2 x.c.u3 x.c.u4 x.c.u5 x.c.u6 x.c.u7 x.c.u8 x.c.ta x.c.tw x.c.c x.c.r x.c.st x.c.h x.c.at_ x.c.wo x.c.v) :: (x.c.h, W.listOf (x.c.hs ++ [Value.int K t2]).toArray (x.c.n1 + 1)) :: (x.c.t, o2) :: (x.c.l, o3) :: (x.ex ++ boxTl w br)))
    (a0 : 0 ≤ a) (b0 : 0 ≤ b) (b1 : b < 2147483629) (hl : br.length + 1 ≤ i) (hg : ∀ y ∈ x :: br, y.Good i)
    (AP : Apart ((S, o4) :: (I, oI) :: (FO, instObj 242 dF) :: (dF, rowsD w tm FL) :: (FL, W.listOf (fsOf (x :: br)).toArray k2') :: (RO, W.listOf (tsOf (x :: br)).toArray k3') :: boxTl w (x :: br)))
    (hD : ∀ z ∈ (D1, z1) :: (l', z2) :: (S, p0) :: (I, p1) :: (FO, p2) :: (dF, p3) :: (FL, p4) :: (RO, p5) :: (x.c.f, p6) :: (x.c.d, p7) :: (x.c.h, p8) :: (x.c.t, p9) :: (x.c.l, p10) :: (x.ex ++ boxTl w br), z.1 < D) (hE : ∀ z ∈ (l', z3) :: (S, q0) :: (I, q1) :: (FO, q2) :: (dF, q3) :: (FL, q4) :: (RO, q5) :: (x.c.f, q6) :: (x.c.d, q7) :: (x.c.h, q8) :: (x.c.t, q9) :: (x.c.l, q10) :: (x.ex ++ boxTl w br), z.1 < D1)
    (h1 : m (Str.ofString "shaft") = some (.ref S)) (h2 : m (Str.ofString "frames") = some (.ref FO)) (h3 : m (Str.ofString "rows") = some (.ref RO)) :
    NextTo (TurnEnd h₀ L I oI (LawJ w S FO dF tm FL RO (i + 1)) s) .next { s with heap := h', toks := tk } := by
  have gx := hg x (.head _)
  let y : Box := ⟨{ x.c with t := D, l := D1, hs := x.c.hs ++ [.int K t2], ls := x.c.ls ++ [.int K t1], ns := x.c.ns ++ [K], n1 := x.c.n1 + 1, n4 := 0 }, x.ex⟩
  have gy : y.Good (i + 1) := ⟨⟨ints_snoc gx.ok.hs, ints_snoc gx.ok.ls⟩, by have := gx.len; simp [y]; omega, gx.val⟩
  refine TurnEnd.of (ta := ta) (tb := tb) (k := k) (k2 := k2) (k3 := k3) (y :: br) F ?_ a0 b0 b1 (by simp; omega) (fun z hz => ?_) ?_ h1 h2 h3
  · rw [fs_cons, ts_cons, tl_cons]
    simp only [y, Box.all, Cell.objs, List.cons_append, List.nil_append]
    refine fun p hp => N p ?_
    simp only [List.mem_cons] at hp ⊢
    grind
  · rcases List.mem_cons.mp hz with rfl | hz
    · exact gy
    · exact (hg z (.tail _ hz)).mono (by omega)
  · refine AP.swap (pre := [S, I, FO, dF, FL, RO, x.c.f, x.c.d, x.c.h]) (mid := [x.c.t, x.c.l]) (new := [D, D1]) (post := keys (x.ex ++ boxTl w br)) ?_ ?_ ?_ ?_
    · rw [tl_cons]; simp [keys, Box.all, Cell.objs]
    · rw [tl_cons]; simp [y, keys, Box.all, Cell.objs]
    · have := lt_keys hD D1 (.head _)
      simp [Ne.symm this]
    · intro q hq
      rcases List.mem_cons.mp hq with rfl | hq
      · intro hm
        refine lt_keys hD q ?_ rfl
        simp only [keys, List.map_cons, List.mem_cons]
        rcases List.mem_append.mp hm with hm | hm
        · simp at hm
          grind
        · simp only [hm, or_true]
      · rw [List.mem_singleton] at hq
        subst hq
        intro hm
        refine lt_keys hE q ?_ rfl
        simp only [keys, List.map_cons, List.mem_cons]
        rcases List.mem_append.mp hm with hm | hm
        · simp at hm
          grind
        · simp only [hm, or_true]
/-- a deed's end: the frames are these -/
theorem deed_end {h₀ h' : Heap} {L : Addr} {tk : Nat} {s : Shared} {w : World} {S FO dF FL RO I : Addr} {tm : Tok} {oI : Obj} {m : Str → Option Value} {a b : Int} {ta tb : Tok} {k k2 k3 i : Nat} {bs bs' : List Box} (P : Box → Prop) (hP : ∀ x, P x → ∀ b0 ∈ bs, x.c.Ok → x.c.ns.length ≤ b0.c.ns.length → b0.Good i → x.Good (i + 1))
    (F : Fr h₀ L h' m) (N : News h₀ L h' ((FO, instObj 242 dF) :: (dF, rowsD w tm FL) :: (FL, W.listOf (fsOf bs').toArray k2) :: (RO, W.listOf (tsOf bs').toArray k3) :: (boxTl w bs' ++ [(S, W.listOf #[Value.int a ta, Value.int b tb] k), (I, oI)])))
    (a0 : 0 ≤ a) (b0 : 0 ≤ b) (b1 : b < 2147483629) (hl : bs.length ≤ i) (hg : ∀ y ∈ bs, y.Good i)
    (AP : Apart ((FO, instObj 242 dF) :: (dF, rowsD w tm FL) :: (FL, W.listOf (fsOf bs').toArray k2) :: (RO, W.listOf (tsOf bs').toArray k3) :: (boxTl w bs' ++ [(S, W.listOf #[Value.int a ta, Value.int b tb] k), (I, oI)]))) (hb : bs'.length ≤ bs.length)
    (rel : ∀ x ∈ bs', x ∈ bs ∨ (x.c.Ok ∧ (∃ b0 ∈ bs, x.c.ns.length ≤ b0.c.ns.length) ∧ P x))
    (h1 : m (Str.ofString "shaft") = some (.ref S)) (h2 : m (Str.ofString "frames") = some (.ref FO)) (h3 : m (Str.ofString "rows") = some (.ref RO)) :
    NextTo (TurnEnd h₀ L I oI (LawJ w S FO dF tm FL RO (i + 1)) s) .next { s with heap := h', toks := tk } := by
  refine TurnEnd.of (ta := ta) (tb := tb) (k := k) (k2 := k2) (k3 := k3) bs' F ?_ a0 b0 b1 (by omega) (fun z hz => ?_) ?_ h1 h2 h3
  · exact News.back (l := _ :: _ :: _ :: _ :: boxTl w bs') N
  · rcases rel z hz with h | ⟨k1, ⟨y, hy, k2⟩, k3⟩
    · exact (hg z h).mono (by omega)
    · exact hP z k3 y hy k1 k2 (hg y hy)
  · exact Apart.back (l := _ :: _ :: _ :: _ :: boxTl w bs') AP
theorem thrown_good {i : Nat} {va : Addr} {x1 x2 : Tok} {bb : Array UInt8} {bs : List Box} : ∀ x : Box, (x.c.v = .ref va ∧ x.ex = [(va, ({ cls := .type "tuple", data := .seq #[Value.str "text" x1, Value.bytes bb x2] } : Obj))]) → ∀ b0 ∈ bs, x.c.Ok → x.c.ns.length ≤ b0.c.ns.length → b0.Good i → x.Good (i + 1) :=
  fun _ h _ _ ok len g => ⟨ok, Nat.le_trans len (Nat.le_trans g.len (by omega)), .inr ⟨va, x1, bb, x2, h.1, h.2⟩⟩
/-- some were left: the new frame's value is the old one's -/
def Left (bs : List Box) (x : Box) : Prop := ∃ b0 ∈ bs, x.c.v = b0.c.v ∧ x.ex = b0.ex
theorem left_good {i : Nat} {bs : List Box} (hg : ∀ y ∈ bs, y.Good i) : ∀ x : Box, Left bs x → ∀ b0 ∈ bs, x.c.Ok → x.c.ns.length ≤ b0.c.ns.length → b0.Good i → x.Good (i + 1) :=
  fun _ h _ _ ok len g => by
    obtain ⟨y, hy, e1, e2⟩ := h
    refine ⟨ok, Nat.le_trans len (Nat.le_trans g.len (by omega)), ?_⟩
    rw [e1, e2]
    exact (hg y hy).val
theorem box_in {g h : Heap} {L : Addr} {p1 p2 p3 p4 : Addr × Obj} {w : World} {x : Box} {r : List Box} {tl : List (Addr × Obj)} (N : News g L h (p1 :: p2 :: p3 :: p4 :: (boxTl w (x :: r) ++ tl))) : News g L h (p1 :: p2 :: p3 :: p4 :: (x.c.objs w ++ (x.ex ++ boxTl w r ++ tl))) := by
  rw [tl_cons] at N
  simpa [Box.all] using N
theorem min_bd {q : Int} (h : 0 ≤ q) (n : Nat) : 0 ≤ (if (n : Int) < q then (n : Int) else q) ∧ (if (n : Int) < q then (n : Int) else q) ≤ n := by split <;> omega
theorem thrown_in {g h : Heap} {L : Addr} {d l a b p q r t : Addr × Obj} {tl : List (Addr × Obj)} (N : News g L h (d :: l :: a :: b :: p :: q :: r :: t :: tl)) : News g L h (p :: q :: r :: t :: (tl ++ d :: [a, b])) := fun x hx => N x (by
  simp only [List.mem_cons, List.mem_append, List.not_mem_nil, or_false] at hx ⊢
  grind)
theorem thrown_ap {d a b p q r t : Addr × Obj} {l : Addr} {o z1 z2 z3 z4 z5 z6 : Obj} {tl : List (Addr × Obj)} (AP : Apart (a :: b :: p :: q :: r :: t :: tl)) (hD : ∀ z ∈ (l, o) :: (a.1, z1) :: (b.1, z2) :: (p.1, z3) :: (q.1, z4) :: (r.1, z5) :: (t.1, z6) :: tl, z.1 < d.1) : Apart (p :: q :: r :: t :: (tl ++ d :: [a, b])) := by
  refine (Apart.rot4 AP).swap (pre := keys (p :: q :: r :: t :: tl)) (mid := []) (new := [d.1]) (post := [a.1, b.1]) ?_ ?_ (by simp) ?_
  · simp
  · simp
  · intro x hx
    rw [List.mem_singleton] at hx
    subst hx
    intro hm
    refine lt_keys hD d.1 ?_ rfl
    simp only [keys, List.map_cons, List.mem_cons, List.mem_append, List.not_mem_nil, or_false] at hm ⊢
    grind
theorem off_regs {x D l g S I FO dF FL RO : Addr} {s1 s2 s3 s4 s5 s6 t1 t2 t3 t4 t5 t6 t7 t8 t9 : Obj} {B T : List (Addr × Obj)} (h : OffAll x ((((S, s1) :: (I, s2) :: (FO, s3) :: (dF, s4) :: (FL, s5) :: (RO, s6) :: B) ++ T))) (hg : g ≠ x) (hl : x < l) (hD : x < D) : OffAll x (T ++ ((D, t1) :: (l, t2) :: (g, t3) :: (S, t4) :: (I, t5) :: (FO, t6) :: (dF, t7) :: (FL, t8) :: (RO, t9) :: B)) := by
  have k := h.all
  simp only [List.cons_append, List.forall_mem_cons, List.forall_mem_append] at k
  obtain ⟨kS, kI, kO, kd, kL, kR, kB, kT⟩ := k
  refine offAll_of fun p hp => ?_
  simp only [List.mem_append, List.mem_cons] at hp
  rcases hp with hp | rfl | rfl | rfl | rfl | rfl | rfl | rfl | rfl | rfl | hp
  · exact kT p hp
  · exact Ne.symm (Nat.ne_of_lt hD)
  · exact Ne.symm (Nat.ne_of_lt hl)
  · exact hg
  · exact kS
  · exact kI
  · exact kO
  · exact kd
  · exact kL
  · exact kR
  · exact kB p hp
theorem push_off {f d g r l D S I FO dF FL RO : Addr} {s1 s2 s3 s4 s5 s6 t1 t2 t3 t4 t5 t6 t7 t8 t9 o1 o2 o3 o4 v1 v2 v3 v4 v5 w1 w2 w3 w4 : Obj} {B T R1 R2 : List (Addr × Obj)} (of : OffAll f ((((S, s1) :: (I, s2) :: (FO, s3) :: (dF, s4) :: (FL, s5) :: (RO, s6) :: B) ++ T))) (od : OffAll d ((((S, s1) :: (I, s2) :: (FO, s3) :: (dF, s4) :: (FL, s5) :: (RO, s6) :: B) ++ T))) (or : OffAll r ((((S, s1) :: (I, s2) :: (FO, s3) :: (dF, s4) :: (FL, s5) :: (RO, s6) :: B) ++ T))) (A : Apart [(f, o1), (d, o2), (g, o3), (r, o4)])
    (hl : ∀ z ∈ (f, v1) :: (d, v2) :: (g, v3) :: (r, v4) :: R1, z.1 < l) (hD : ∀ z ∈ (l, v5) :: (f, w1) :: (d, w2) :: (g, w3) :: (r, w4) :: R2, z.1 < D) :
    Apart [(f, o1), (d, o2), (r, o4)] ∧ OffAll f (T ++ ((D, t1) :: (l, t2) :: (g, t3) :: (S, t4) :: (I, t5) :: (FO, t6) :: (dF, t7) :: (FL, t8) :: (RO, t9) :: B)) ∧ OffAll d (T ++ ((D, t1) :: (l, t2) :: (g, t3) :: (S, t4) :: (I, t5) :: (FO, t6) :: (dF, t7) :: (FL, t8) :: (RO, t9) :: B)) ∧ OffAll r (T ++ ((D, t1) :: (l, t2) :: (g, t3) :: (S, t4) :: (I, t5) :: (FO, t6) :: (dF, t7) :: (FL, t8) :: (RO, t9) :: B)) := by
  simp only [List.forall_mem_cons] at hl hD
  obtain ⟨l1, l2, l3, l4, _⟩ := hl
  obtain ⟨_, d1, d2, d3, d4, _⟩ := hD
  simp only [Apart, OffAll, and_true] at A
  obtain ⟨⟨qa, qb, qc⟩, ⟨qd, qe⟩, qf⟩ := A
  refine ⟨⟨⟨qa, qc, trivial⟩, ⟨qe, trivial⟩, trivial, trivial⟩, off_regs of qb.ne l1 d1, off_regs od qd.ne l2 d2, off_regs or (Ne.symm qf.ne) l4 d4⟩
theorem regs_in {g h : Heap} {L : Addr} {D l f d e r a b p q x t : Addr × Obj} {B T : List (Addr × Obj)} (N : News g L h (D :: l :: f :: d :: e :: r :: a :: b :: p :: q :: x :: t :: (B ++ T))) : News g L h (f :: d :: r :: (T ++ (D :: l :: e :: a :: b :: p :: q :: x :: t :: B))) := fun z hz => N z (by
  simp only [List.mem_cons, List.mem_append] at hz ⊢
  grind)
theorem lt_all {D : Addr} {l : List (Addr × Obj)} (h : ∀ p ∈ l, p.1 < D) : ∀ p ∈ l, p.1 ≠ D := fun z hz => Nat.ne_of_lt (h z hz)
/-- a frame was put on -/
theorem push_end {h₀ h' : Heap} {L : Addr} {tk : Nat} {s : Shared} {w : World} {S FO dF FL RO I f d g l D c r st : Addr} {tm u1 u2 u3 u4 u5 u6 u7 u8 ta1 tw1 x : Tok} {wo : Int} {oI so o1 o2 o3 o4 s1 s2 s3 s4 s5 s6 v1 v2 v3 v4 v5 p1 p2 p3 p4 p5 p6 : Obj} {m : Str → Option Value} {a b : Int} {ta tb : Tok} {k k2 k3 k2' k3' i : Nat} {bs : List Box} {T : List (Addr × Obj)}
    (F : Fr h₀ L h' m) (N : News h₀ L h' ((f, instObj 172 d) :: (d, frD w u1 u2 u3 u4 u5 u6 u7 u8 ta1 tw1 c r st g 0 wo .none) :: (D, { cls := .type "tuple", data := .seq #[Value.ref l, Value.int 0 x, Value.none] }) :: (l, W.listOf #[] 0) :: (g, W.listOf #[] 0) :: (S, W.listOf #[Value.int a ta, Value.int b tb] k) :: (I, oI) :: (FO, instObj 242 dF) :: (dF, rowsD w tm FL) :: (FL, W.listOf (fsOf bs ++ [Value.ref f]).toArray k2) :: (RO, W.listOf (tsOf bs ++ [Value.ref D]).toArray k3) :: boxTl w bs))
    (a0 : 0 ≤ a) (b0 : 0 ≤ b) (b1 : b < 2147483629) (hl : bs.length ≤ i) (hg : ∀ y ∈ bs, y.Good i)
    (AP : Apart ((S, so) :: (I, oI) :: (FO, instObj 242 dF) :: (dF, rowsD w tm FL) :: (FL, W.listOf (fsOf bs).toArray k2') :: (RO, W.listOf (tsOf bs).toArray k3') :: boxTl w bs))
    (of : OffAll f ((((S, s1) :: (I, s2) :: (FO, s3) :: (dF, s4) :: (FL, s5) :: (RO, s6) :: boxTl w bs) ++ T))) (od : OffAll d ((((S, s1) :: (I, s2) :: (FO, s3) :: (dF, s4) :: (FL, s5) :: (RO, s6) :: boxTl w bs) ++ T))) (og : OffAll g ((((S, s1) :: (I, s2) :: (FO, s3) :: (dF, s4) :: (FL, s5) :: (RO, s6) :: boxTl w bs) ++ T))) (A : Apart [(f, o1), (d, o2), (g, o3), (r, o4)])
    (kl : ∀ z ∈ (f, v1) :: (d, v2) :: (g, v3) :: (r, v4) :: ((((S, p1) :: (I, p2) :: (FO, p3) :: (dF, p4) :: (FL, p5) :: (RO, p6) :: boxTl w bs) ++ T)), z.1 < l) (kD : ∀ z ∈ (l, v5) :: (f, v1) :: (d, v2) :: (g, v3) :: (r, v4) :: ((((S, p1) :: (I, p2) :: (FO, p3) :: (dF, p4) :: (FL, p5) :: (RO, p6) :: boxTl w bs) ++ T)), z.1 < D)
    (h1 : m (Str.ofString "shaft") = some (.ref S)) (h2 : m (Str.ofString "frames") = some (.ref FO)) (h3 : m (Str.ofString "rows") = some (.ref RO)) :
    NextTo (TurnEnd h₀ L I oI (LawJ w S FO dF tm FL RO (i + 1)) s) .next { s with heap := h', toks := tk } := by
  let y : Box := ⟨⟨f, d, g, D, l, c, r, st, u1, u2, u3, u4, u5, u6, u7, u8, ta1, tw1, x, 0, wo, .none, [], [], [], 0, 0⟩, []⟩
  refine TurnEnd.of (ta := ta) (tb := tb) (k := k) (k2 := k2) (k3 := k3) (y :: bs) F ?_ a0 b0 b1 (by simp; omega) (fun z hz => ?_) ?_ h1 h2 h3
  · rw [fs_cons, ts_cons, tl_cons]
    simp only [y, Box.all, Cell.objs, List.cons_append, List.nil_append]
    refine fun p hp => N p ?_
    simp only [List.mem_cons] at hp ⊢
    grind
  · rcases List.mem_cons.mp hz with rfl | hz
    · exact ⟨⟨.nil, .nil⟩, Nat.zero_le _, .inl ⟨rfl, rfl⟩⟩
    · exact (hg z hz).mono (by omega)
  · have kf := of.all
    have kd := od.all
    have kg := og.all
    have kl := lt_all kl
    have kD := lt_all kD
    simp only [List.cons_append, List.forall_mem_cons, List.forall_mem_append] at kf kd kg kl kD
    simp only [Apart, OffAll, and_true] at A
    obtain ⟨⟨qa, qb, qc⟩, ⟨qd, qe⟩, qf⟩ := A
    have qa := qa.ne
    have qb := qb.ne
    have qd := qd.ne
    obtain ⟨f1, f2, f3, f4, f5, f6, f7, _⟩ := kf
    obtain ⟨d1, d2, d3, d4, d5, d6, d7, _⟩ := kd
    obtain ⟨g1, g2, g3, g4, g5, g6, g7, _⟩ := kg
    obtain ⟨a1, a2, a3, _, a4, a5, a6, a7, a8, a9, a10, _⟩ := kl
    obtain ⟨b1, b2, b3, b4, _, b5, b6, b7, b8, b9, b10, b11, _⟩ := kD
    refine AP.swap (pre := [S, I, FO, dF, FL, RO]) (mid := []) (new := [f, d, g, D, l]) (post := keys (boxTl w bs)) ?_ ?_ ?_ ?_
    · simp [keys]
    · rw [tl_cons]; simp [y, keys, Box.all, Cell.objs]
    · simp only [List.nodup_cons, List.mem_cons, List.not_mem_nil, or_false, not_or, not_false_eq_true, List.nodup_nil, and_true]
      exact ⟨⟨Ne.symm qa, Ne.symm qb, b2, a1⟩, ⟨Ne.symm qd, b3, a2⟩, ⟨b4, a3⟩, Ne.symm b1⟩
    · have hz : ∀ q, (∀ p ∈ boxTl w bs, p.1 ≠ q) → q ∉ keys (boxTl w bs) := fun q h hm => by
        obtain ⟨p, hp, e⟩ := List.mem_map.mp hm
        exact h p hp e
      refine List.forall_mem_cons.mpr ⟨?_, List.forall_mem_cons.mpr ⟨?_, List.forall_mem_cons.mpr ⟨?_, List.forall_mem_cons.mpr ⟨?_, List.forall_mem_cons.mpr ⟨?_, List.forall_mem_nil _⟩⟩⟩⟩⟩
      all_goals simp only [List.mem_append, not_or, List.mem_cons, List.not_mem_nil, or_false]
      · exact ⟨⟨Ne.symm f1, Ne.symm f2, Ne.symm f3, Ne.symm f4, Ne.symm f5, Ne.symm f6⟩, hz _ f7⟩
      · exact ⟨⟨Ne.symm d1, Ne.symm d2, Ne.symm d3, Ne.symm d4, Ne.symm d5, Ne.symm d6⟩, hz _ d7⟩
      · exact ⟨⟨Ne.symm g1, Ne.symm g2, Ne.symm g3, Ne.symm g4, Ne.symm g5, Ne.symm g6⟩, hz _ g7⟩
      · exact ⟨⟨Ne.symm b5, Ne.symm b6, Ne.symm b7, Ne.symm b8, Ne.symm b9, Ne.symm b10⟩, hz _ b11⟩
      · exact ⟨⟨Ne.symm a4, Ne.symm a5, Ne.symm a6, Ne.symm a7, Ne.symm a8, Ne.symm a9⟩, hz _ a10⟩
end Mine
end
open PySem PySem.W PyProof.Rows
set_option maxHeartbeats 4000000
namespace Mine
local macro_rules | `(tactic| walk_at $s:str) => `(tactic| k_extra $s)
local macro_rules | `(tactic| k_lt $h:ident) => `(tactic| ((have hAll := $h); (replace $h := allLt_of $h); (simp only [AllLt, and_true] at $h:ident)))
local macro_rules | `(tactic| k_all) => `(tactic| first | assumption | exact OffAll.all (by assumption))
local macro_rules | `(tactic| k_ne) => `(tactic| first | exact Off.ne (by assumption) | exact Ne.symm (Off.ne (by assumption)))
local macro_rules | `(tactic| k_mem) => `(tactic| assumption)
theorem one (w : World) (h : Heap) : Challenge.rw_pc0196_01.row.prog = Challenge.rw_pc0196_01.row.prog ∧ ((hd.heap_39 w.params).In h → (hd.heap_39 w.params).In h) := by
  k_fill
  exact ⟨rfl, id⟩
section
theorem words1 : True := by
  w_top off
  k_with_none
  k_with "callWith ref" =>
    (k_here; (with_reducible show wpAny _ _ (callWith _ _ _ (backTo _ (starEach [] _)) []) _ _ _); k_dflt (refine' callWith_K0 ?k1_w ?k2_w ?_; (case k1_w => (refine' in_keeps ?F_w ?X_w; (case F_w => with_reducible assumption); (case X_w => with_reducible assumption))); (case k2_w => k_is); k_whole; (try dsimp only [List.nil_append, List.cons_append])))
  k_with "call ref nil" =>
    (k_here; dsimp only [List.cons_append, List.nil_append])
  k_with "call type:tuple" =>
    (k_here; (with_reducible show wpAny _ _ (call (Value.type _) [Value.ref _]) _ _ _); k_dflt (first | (refine' tuple_same_N ?N_w ?m_w ?_; (case N_w => k_asm); (case m_w => k_mem); k_whole) | (refine' tuple_same_K ?F_w ?X_w ?l_w ?_; (case F_w => k_asm); (case X_w => k_asm); (case l_w => k_is); k_whole)))
  k_with "CompSrc" =>
    (k_here; k_dflt (first
  | refine LCg.CompSrc.range (by rfl) (by k_asm) (by k_asm) (by assumption) (by first | exact small_one (by omega) (by omega) (by omega) (by omega) | decide) (by first | exact rangeSize_nat _ _ | rfl) (by rw [PySem.sizeLine_eq]; omega) ?_
  | refine LCg.CompSrc.ledger (by rfl) (by k_asm) (by k_asm) (by k_mem) (by first | exact ks_size (by assumption) (by omega) | (rw [PySem.sizeLine_eq]; (simp only [List.size_toArray, List.length_append, List.length_cons, List.length_nil]); omega)) ?_); intro g'w; refine StopAt.go ?_)
  k_with "CompEnd" =>
    (k_here; k_dflt (first | refine compEnd_none (by k_asm) (by k_asm) (by assumption) (by first | exact True.intro | lcg_src) ?_ | refine compEnd_one (by k_asm) (by k_asm) (by assumption) (by k_ne) (by k_ne) (by k_ne) (by first | exact True.intro | lcg_src) ?_); refine StopAt.go ?_)
  k_with "binaryOp Mult ref int" =>
    (k_here; (with_reducible show wpAny _ _ (binaryOp Operator.Mult (Value.ref _) (Value.int _ _)) _ _ _); k_dflt (refine' mul_two ?F_w ?N_w ?m_w ?e_w ?_; (case F_w => k_asm); (case N_w => k_asm); (case m_w => k_mem); (case e_w => first | rfl | exact room_is _ | ((try simp only [List.size_toArray]); split <;> omega)); k_whole); intro D'w h'w F'w N'w l1w; (try k_lt l1w); (try k_sweep))
  k_with "subscriptTail" =>
    (k_here; (with_reducible show wpAny _ _ (subscriptTail _ _ (Value.ref _) (Value.int (-1) _)) _ _ _); (with_unfolding_all refine item_last (by assumption) (by k_mem) (by omega) ?_))
  k_with "setItem ref int" =>
    (k_here; (with_reducible show wpAny _ _ (setItem (Value.ref _) (Value.int (-1) _) _) _ _ _); k_dflt (refine' set_last ?F_w ?N_w ?m_w ?U_w ?z_w ?_; (case F_w => k_asm); (case N_w => k_asm); (case m_w => k_mem); (case U_w => k_upd); (case z_w => omega)); (intro h'w F'w N'w; (try dsimp only [List.nil_append, List.cons_append] at N'w)))
  k_with "call builtin:list.pop" =>
    (k_here; (with_reducible show wpAny _ _ (call (Value.builtin _) [Value.ref _]) _ _ _); k_dflt (refine' pop_last ?F_w ?N_w ?m_w ?U_w ?z_w ?_; (case F_w => k_asm); (case N_w => k_asm); (case m_w => k_mem); (case U_w => k_upd); (case z_w => omega)); (intro h'w F'w N'w; (try dsimp only [List.nil_append, List.cons_append] at N'w)))
  k_with "call ref" =>
    (k_here; (show wpAny _ _ (call (Value.ref 52) [Value.str _ _]) _ _ _); k_dflt (refine' fault_K ?F_w ?N_w ?X_w ?hh_w ?d_w ?u_w ?_; (case F_w => k_asm); (case N_w => k_asm); (case X_w => k_asm); (case hh_w => rfl); (case d_w => (simp only [depth_deeper, depth_caller]; decide)); (case u_w => (simp only [units_deeper, units_caller]; decide)); intro h'w tk'w e'w t'w de'w F'w N'w l1w; (have l2 := l1w); (try simp only [OffAll, and_true] at l2); (repeat (rcases l2 with ⟨_, l2⟩)); (try k_sweep)))
  k_with "call ref" =>
    (k_here; (show wpAny _ _ (call (Value.ref 71) [Value.ref _]) _ _ _); k_dflt (refine' thrown_K ?F_w ?N_w ?X_w ?hh_w ?d_w ?u_w ?_; (case F_w => k_asm); (case N_w => k_asm); (case X_w => k_asm); (case hh_w => rfl); (case d_w => (simp only [depth_deeper, depth_caller]; decide)); (case u_w => (simp only [units_deeper, units_caller]; decide)); intro h'w tk'w e'w t'w de'w k1'w k2'w k3'w t1'w t2'w t3'w mv'w F'w N'w l1w l2w l3w; (try simp only [OffAll, and_true] at l1w l2w); (repeat (rcases l1w with ⟨_, l1w⟩)); (repeat (rcases l2w with ⟨_, l2w⟩)); (try k_sweep)))
  k_with "exec Raise some none" =>
    (k_here; k_dflt (refine' Raise_own ?X_w ?hh_w ?_; (case X_w => k_asm); (case hh_w => rfl)))
  k_with "RaiseQ" =>
    (k_here; k_dflt (refine' raiseQ_K ?F_w ?N_w ?X_w ?q_w ?m_w ?_; (case F_w => k_asm); (case N_w => k_asm); (case X_w => k_asm); (case m_w => k_mem); (case q_w => kts_isx); k_whole))
  k_with "leaving ref" =>
    (k_here; k_dflt (first
  | (refine' leave_raiseD ?K_w ?F_w ?N_w ?m_w ?s_w ?_; (case F_w => k_asm); (case N_w => k_asm); (case K_w => k_asm); (case m_w => k_mem); (case s_w => first | exact off_e (by assumption) | exact off_e (by (simp only [OffAll]; (repeat' (first | assumption | exact True.intro | exact ⟨by k_ne⟩ | refine And.intro ?_ ?_)); done))); k_whole)
  | (refine' leave_onD ?K_w ?F_w ?R_w ?U_w ?_; (case R_w => k_asm); (case F_w => k_asm); (case K_w => k_asm); (case U_w => k_asm); k_whole)); intro h'w R'w U'w; (try dsimp only at R'w U'w ⊢))
  k_with "noteFrame ref" =>
    (k_here; k_dflt (first
  | ((with_reducible show wpAny _ _ (noteFrame _ _) (fun _ s₂ => wpAny _ _ (setFlight _ none) (fun _ s₃ => wpAny _ _ (handleBy _ _ (ExceptHandler.ExceptHandler (some (Expr.Name _ _)) (some _) _ _ :: _)) _ _ s₃) _ s₂) _ _); refine' caught_DB ?R_w ?F_w ?K_w ?U_w ?XB_w ?TB_w ?D_w ?T0_w ?ex_w ?q_w ?_; (case R_w => k_asm); (case F_w => k_asm); (case K_w => k_asm); (case U_w => k_asm); (case XB_w => k_asm); (case TB_w => k_asm); (case D_w => k_asm); (case T0_w => first | k_asm | exact KtsTurn.refl); (case ex_w => k_is); (case q_w => kts_isx); k_whole; intro h'w g'w ws'w tk'w T'w F'w N'w K'w X'w P'w D'w)
  | ((with_reducible show wpAny _ _ (noteFrame _ _) (fun _ s₂ => wpAny _ _ (setFlight _ none) (fun _ s₃ => wpAny _ _ (handleBy _ _ (ExceptHandler.ExceptHandler (some (Expr.Name _ _)) none _ _ :: _)) _ _ s₃) _ s₂) _ _); refine' caught_D0 ?R_w ?F_w ?K_w ?U_w ?XB_w ?TB_w ?D_w ?T0_w ?ex_w ?q_w ?_; (case R_w => k_asm); (case F_w => k_asm); (case K_w => k_asm); (case U_w => k_asm); (case XB_w => k_asm); (case TB_w => k_asm); (case D_w => k_asm); (case T0_w => first | k_asm | exact KtsTurn.refl); (case ex_w => k_is); (case q_w => kts_isx); k_whole; intro h'w g'w ws'w T'w F'w N'w K'w X'w P'w D'w)
  | ((with_reducible show wpAny _ _ (noteFrame _ _) (fun _ s₂ => wpAny _ _ (setFlight _ none) (fun _ s₃ => wpAny _ _ (handleBy _ _ (ExceptHandler.ExceptHandler (some (Expr.Name _ _)) none _ _ :: _)) _ _ s₃) _ s₂) _ _); refine' caught_D0C ?R_w ?F_w ?K_w ?U_w ?XB_w ?TB_w ?D_w ?T0_w ?ex_w ?q_w ?_; (case R_w => k_asm); (case F_w => k_asm); (case K_w => k_asm); (case U_w => k_asm); (case XB_w => k_asm); (case TB_w => k_asm); (case D_w => k_asm); (case T0_w => first | k_asm | exact KtsTurn.refl); (case ex_w => k_is); (case q_w => kts_isx); k_whole; intro h'w g'w ws'w T'w F'w N'w K'w X'w P'w D'w)); (try k_lift K'w); (try k_sweep))
  k_with "getAttr ref" =>
    (k_here; (with_reducible show wpAny _ _ (getAttr (Value.ref _) (PySem.Str.ofString "value") _) _ _ _); k_dflt (refine' value_K ?F_w ?N_w ?X_w ?he_w ?hd_w ?d_w ?u_w ?_; (case F_w => k_asm); (case N_w => k_asm); (case X_w => k_asm); (case he_w => k_mem); (case hd_w => k_mem); (case d_w => (simp only [depth_mark, depth_deeper, depth_caller]; decide)); (case u_w => (simp only [Around.mark_units, units_deeper, units_caller]; decide)); intro tk'w))
  exact trivial
local macro_rules | `(tactic| walk_at "pyIter ref") => `(tactic| (k_here; refine StopAt.go ?_))
theorem words2 : True := by
  k_with "exec For Name Subscript cons nil" =>
    (k_here; (rename Fr _ _ _ _ => lF'); (with_unfolding_all refine' For_invVF lF' ?k1_w ?k2_w ?_; (case k1_w => exact rfl); (case k2_w => exact rfl); k_whole))
  exact trivial
theorem shaft_c {w : World} {fa L : Addr} {cd : Value} {mg mb : Str → Option Value} {mean : ExcName → Option Value} {h₀ : Heap} {m : Str → Option Value} {s : Shared} {rest : List (Addr × Obj)} {R : Result → Shared → Prop} {l : Addr} {vs : List Value} {ns : List Int}
  (B : Below callerA h₀ [] h₀) (F : Fr h₀ L s.heap m) (X₀ : (hd.heap_39 w.params).In h₀) (T : Top VW (looseW VW LS) mean mg mb h₀)
  (N : News h₀ L s.heap (rest))
  (hl : h₀.IsList l vs.toArray) (hi : IntsAre vs ns) (hn : ns.length ≤ 63)
  (H : ∀ h' tk' S a b ta tb, Fr h₀ L h' m → News h₀ L h' ((S, listOf #[.int a ta, .int b tb] 0) :: rest) → OffAll S rest → 0 ≤ a → 0 ≤ b → b < 2147483629 → R (.ok (.ret (.ref S))) { s with heap := h', toks := tk' }) :
  codeAny (model Challenge.rw_pc0196_01.row.prog w) (callerA.deeper (lawEnv L fa cd)) (.call (.ref 285) ⟨[.ref l], []⟩) R s := by
  k_enter
  k_steps
  unfold StopAt
  refine' iter_ledP (y := Str.ofString "depth") (fun a => 0 ≤ a ∧ a < 2147483629) ?hh ?F ?N ?I (OffAll.all ?O) ?y ?z (fun i' t' a' ta' h' tk' own' hInv' hoff' F' N' => ?_) (fun u' a' t' h' tk' hInv' F' N' => ?_)
  (case hh => rfl)
  (case F => k_asm)
  (case N => assumption)
  (case I => assumption)
  (case O => first | exact ltOff (by assumption) | exact ltOff (And.right (by assumption)) | first | assumption | exact off_sub (by assumption) (by ((repeat (refine List.forall_mem_cons.mpr ⟨by k_mem, ?_⟩)); first | exact List.forall_mem_nil _ | (intro p hp; (repeat (first | exact hp | exact List.mem_append_left _ hp | exact List.mem_append_right _ hp | exact List.mem_append_left _ (List.mem_append_left _ hp) | exact List.mem_append_left _ (List.mem_append_right _ hp) | refine List.Mem.tail _ ?_)); done))) | exact off_sub2 (by assumption) (by assumption) (by ((repeat (refine List.forall_mem_cons.mpr ⟨by k_mem, ?_⟩)); first | exact List.forall_mem_nil _ | (intro p hp; (repeat (first | exact hp | exact List.mem_append_left _ hp | exact List.mem_append_right _ hp | exact List.mem_append_left _ (List.mem_append_left _ hp) | exact List.mem_append_left _ (List.mem_append_right _ hp) | refine List.Mem.tail _ ?_)); done))) | (simp only [OffAll]; (repeat' (first | exact True.intro | exact ⟨by k_ne⟩ | (first | assumption | exact off_sub (by assumption) (by ((repeat (refine List.forall_mem_cons.mpr ⟨by k_mem, ?_⟩)); first | exact List.forall_mem_nil _ | (intro p hp; (repeat (first | exact hp | exact List.mem_append_left _ hp | exact List.mem_append_right _ hp | exact List.mem_append_left _ (List.mem_append_left _ hp) | exact List.mem_append_left _ (List.mem_append_right _ hp) | refine List.Mem.tail _ ?_)); done))) | exact off_sub2 (by assumption) (by assumption) (by ((repeat (refine List.forall_mem_cons.mpr ⟨by k_mem, ?_⟩)); first | exact List.forall_mem_nil _ | (intro p hp; (repeat (first | exact hp | exact List.mem_append_left _ hp | exact List.mem_append_right _ hp | exact List.mem_append_left _ (List.mem_append_left _ hp) | exact List.mem_append_left _ (List.mem_append_right _ hp) | refine List.Mem.tail _ ?_)); done)))) | refine And.intro ?_ ?_))))
  (case y => rfl)
  (case z => omega)
  all_goals k_steps
  · refine InvEndN.intro (by k_asm) (by k_asm) ⟨rfl, ⟨_, _, by with_unfolding_all rfl, by exact fmod_bd (by omega)⟩, by k_same2⟩ rfl (fun p hp => List.mem_append_left _ hp) (fun p hp => List.mem_append_right _ hp)
  · skip
    refine' H  _ _ _ _ _ _ _ ?e0_0 ?e0_1 ?e0_2 ?e0_3 ?e0_4 ?e0_5
    (case e0_0 => k_asm)
    (case e0_1 => (refine cb_drop (by assumption) ?_; ((repeat (refine List.forall_mem_cons.mpr ⟨by k_mem, ?_⟩)); first | exact List.forall_mem_nil _ | (intro p hp; (repeat (first | exact hp | exact List.mem_append_left _ hp | exact List.mem_append_right _ hp | exact List.mem_append_left _ (List.mem_append_left _ hp) | exact List.mem_append_left _ (List.mem_append_right _ hp) | refine List.Mem.tail _ ?_)); done))))
    (case e0_2 => first | exact ltOff (by assumption) | exact ltOff (And.right (by assumption)) | first | assumption | exact off_sub (by assumption) (by ((repeat (refine List.forall_mem_cons.mpr ⟨by k_mem, ?_⟩)); first | exact List.forall_mem_nil _ | (intro p hp; (repeat (first | exact hp | exact List.mem_append_left _ hp | exact List.mem_append_right _ hp | exact List.mem_append_left _ (List.mem_append_left _ hp) | exact List.mem_append_left _ (List.mem_append_right _ hp) | refine List.Mem.tail _ ?_)); done))) | exact off_sub2 (by assumption) (by assumption) (by ((repeat (refine List.forall_mem_cons.mpr ⟨by k_mem, ?_⟩)); first | exact List.forall_mem_nil _ | (intro p hp; (repeat (first | exact hp | exact List.mem_append_left _ hp | exact List.mem_append_right _ hp | exact List.mem_append_left _ (List.mem_append_left _ hp) | exact List.mem_append_left _ (List.mem_append_right _ hp) | refine List.Mem.tail _ ?_)); done))) | (simp only [OffAll]; (repeat' (first | exact True.intro | exact ⟨by k_ne⟩ | (first | assumption | exact off_sub (by assumption) (by ((repeat (refine List.forall_mem_cons.mpr ⟨by k_mem, ?_⟩)); first | exact List.forall_mem_nil _ | (intro p hp; (repeat (first | exact hp | exact List.mem_append_left _ hp | exact List.mem_append_right _ hp | exact List.mem_append_left _ (List.mem_append_left _ hp) | exact List.mem_append_left _ (List.mem_append_right _ hp) | refine List.Mem.tail _ ?_)); done))) | exact off_sub2 (by assumption) (by assumption) (by ((repeat (refine List.forall_mem_cons.mpr ⟨by k_mem, ?_⟩)); first | exact List.forall_mem_nil _ | (intro p hp; (repeat (first | exact hp | exact List.mem_append_left _ hp | exact List.mem_append_right _ hp | exact List.mem_append_left _ (List.mem_append_left _ hp) | exact List.mem_append_left _ (List.mem_append_right _ hp) | refine List.Mem.tail _ ?_)); done)))) | refine And.intro ?_ ?_))))
    (case e0_3 => first | omega | (split <;> omega))
    (case e0_4 => omega)
    (case e0_5 => omega)
  · skip
    refine' H  _ _ _ _ _ _ _ ?e1_0 ?e1_1 ?e1_2 ?e1_3 ?e1_4 ?e1_5
    (case e1_0 => k_asm)
    (case e1_1 => (refine cb_drop (by assumption) ?_; ((repeat (refine List.forall_mem_cons.mpr ⟨by k_mem, ?_⟩)); first | exact List.forall_mem_nil _ | (intro p hp; (repeat (first | exact hp | exact List.mem_append_left _ hp | exact List.mem_append_right _ hp | exact List.mem_append_left _ (List.mem_append_left _ hp) | exact List.mem_append_left _ (List.mem_append_right _ hp) | refine List.Mem.tail _ ?_)); done))))
    (case e1_2 => first | exact ltOff (by assumption) | exact ltOff (And.right (by assumption)) | first | assumption | exact off_sub (by assumption) (by ((repeat (refine List.forall_mem_cons.mpr ⟨by k_mem, ?_⟩)); first | exact List.forall_mem_nil _ | (intro p hp; (repeat (first | exact hp | exact List.mem_append_left _ hp | exact List.mem_append_right _ hp | exact List.mem_append_left _ (List.mem_append_left _ hp) | exact List.mem_append_left _ (List.mem_append_right _ hp) | refine List.Mem.tail _ ?_)); done))) | exact off_sub2 (by assumption) (by assumption) (by ((repeat (refine List.forall_mem_cons.mpr ⟨by k_mem, ?_⟩)); first | exact List.forall_mem_nil _ | (intro p hp; (repeat (first | exact hp | exact List.mem_append_left _ hp | exact List.mem_append_right _ hp | exact List.mem_append_left _ (List.mem_append_left _ hp) | exact List.mem_append_left _ (List.mem_append_right _ hp) | refine List.Mem.tail _ ?_)); done))) | (simp only [OffAll]; (repeat' (first | exact True.intro | exact ⟨by k_ne⟩ | (first | assumption | exact off_sub (by assumption) (by ((repeat (refine List.forall_mem_cons.mpr ⟨by k_mem, ?_⟩)); first | exact List.forall_mem_nil _ | (intro p hp; (repeat (first | exact hp | exact List.mem_append_left _ hp | exact List.mem_append_right _ hp | exact List.mem_append_left _ (List.mem_append_left _ hp) | exact List.mem_append_left _ (List.mem_append_right _ hp) | refine List.Mem.tail _ ?_)); done))) | exact off_sub2 (by assumption) (by assumption) (by ((repeat (refine List.forall_mem_cons.mpr ⟨by k_mem, ?_⟩)); first | exact List.forall_mem_nil _ | (intro p hp; (repeat (first | exact hp | exact List.mem_append_left _ hp | exact List.mem_append_right _ hp | exact List.mem_append_left _ (List.mem_append_left _ hp) | exact List.mem_append_left _ (List.mem_append_right _ hp) | refine List.Mem.tail _ ?_)); done)))) | refine And.intro ?_ ?_))))
    (case e1_3 => first | omega | (split <;> omega))
    (case e1_4 => omega)
    (case e1_5 => omega)
  · skip
    refine' H  _ _ _ _ _ _ _ ?e2_0 ?e2_1 ?e2_2 ?e2_3 ?e2_4 ?e2_5
    (case e2_0 => k_asm)
    (case e2_1 => (refine cb_drop (by assumption) ?_; ((repeat (refine List.forall_mem_cons.mpr ⟨by k_mem, ?_⟩)); first | exact List.forall_mem_nil _ | (intro p hp; (repeat (first | exact hp | exact List.mem_append_left _ hp | exact List.mem_append_right _ hp | exact List.mem_append_left _ (List.mem_append_left _ hp) | exact List.mem_append_left _ (List.mem_append_right _ hp) | refine List.Mem.tail _ ?_)); done))))
    (case e2_2 => first | exact ltOff (by assumption) | exact ltOff (And.right (by assumption)) | first | assumption | exact off_sub (by assumption) (by ((repeat (refine List.forall_mem_cons.mpr ⟨by k_mem, ?_⟩)); first | exact List.forall_mem_nil _ | (intro p hp; (repeat (first | exact hp | exact List.mem_append_left _ hp | exact List.mem_append_right _ hp | exact List.mem_append_left _ (List.mem_append_left _ hp) | exact List.mem_append_left _ (List.mem_append_right _ hp) | refine List.Mem.tail _ ?_)); done))) | exact off_sub2 (by assumption) (by assumption) (by ((repeat (refine List.forall_mem_cons.mpr ⟨by k_mem, ?_⟩)); first | exact List.forall_mem_nil _ | (intro p hp; (repeat (first | exact hp | exact List.mem_append_left _ hp | exact List.mem_append_right _ hp | exact List.mem_append_left _ (List.mem_append_left _ hp) | exact List.mem_append_left _ (List.mem_append_right _ hp) | refine List.Mem.tail _ ?_)); done))) | (simp only [OffAll]; (repeat' (first | exact True.intro | exact ⟨by k_ne⟩ | (first | assumption | exact off_sub (by assumption) (by ((repeat (refine List.forall_mem_cons.mpr ⟨by k_mem, ?_⟩)); first | exact List.forall_mem_nil _ | (intro p hp; (repeat (first | exact hp | exact List.mem_append_left _ hp | exact List.mem_append_right _ hp | exact List.mem_append_left _ (List.mem_append_left _ hp) | exact List.mem_append_left _ (List.mem_append_right _ hp) | refine List.Mem.tail _ ?_)); done))) | exact off_sub2 (by assumption) (by assumption) (by ((repeat (refine List.forall_mem_cons.mpr ⟨by k_mem, ?_⟩)); first | exact List.forall_mem_nil _ | (intro p hp; (repeat (first | exact hp | exact List.mem_append_left _ hp | exact List.mem_append_right _ hp | exact List.mem_append_left _ (List.mem_append_left _ hp) | exact List.mem_append_left _ (List.mem_append_right _ hp) | refine List.Mem.tail _ ?_)); done)))) | refine And.intro ?_ ?_))))
    (case e2_3 => first | omega | (split <;> omega))
    (case e2_4 => omega)
    (case e2_5 => omega)
end
section
theorem words3 : True := by
  w_top off
  k_with_none
  k_with "callWith ref" =>
    (k_here; (with_reducible show wpAny _ _ (callWith _ _ _ (backTo _ (starEach [] _)) []) _ _ _); k_dflt (refine' callWith_K0 ?k1_w ?k2_w ?_; (case k1_w => (refine' in_keeps ?F_w ?X_w; (case F_w => with_reducible assumption); (case X_w => with_reducible assumption))); (case k2_w => k_is); k_whole; (try dsimp only [List.nil_append, List.cons_append])))
  k_with "call ref nil" =>
    (k_here; dsimp only [List.cons_append, List.nil_append])
  k_with "call type:tuple" =>
    (k_here; (with_reducible show wpAny _ _ (call (Value.type _) [Value.ref _]) _ _ _); k_dflt (first | (refine' tuple_same_N ?N_w ?m_w ?_; (case N_w => k_asm); (case m_w => k_mem); k_whole) | (refine' tuple_same_K ?F_w ?X_w ?l_w ?_; (case F_w => k_asm); (case X_w => k_asm); (case l_w => k_is); k_whole)))
  k_with "CompSrc" =>
    (k_here; k_dflt (first
  | refine LCg.CompSrc.range (by rfl) (by k_asm) (by k_asm) (by assumption) (by first | exact small_one (by omega) (by omega) (by omega) (by omega) | decide) (by first | exact rangeSize_nat _ _ | rfl) (by rw [PySem.sizeLine_eq]; omega) ?_
  | refine LCg.CompSrc.ledger (by rfl) (by k_asm) (by k_asm) (by k_mem) (by first | exact ks_size (by assumption) (by omega) | (rw [PySem.sizeLine_eq]; (simp only [List.size_toArray, List.length_append, List.length_cons, List.length_nil]); omega)) ?_); intro g'w; refine StopAt.go ?_)
  k_with "CompEnd" =>
    (k_here; k_dflt (first | refine compEnd_none (by k_asm) (by k_asm) (by assumption) (by first | exact True.intro | lcg_src) ?_ | refine compEnd_one (by k_asm) (by k_asm) (by assumption) (by k_ne) (by k_ne) (by k_ne) (by first | exact True.intro | lcg_src) ?_); refine StopAt.go ?_)
  k_with "binaryOp Mult ref int" =>
    (k_here; (with_reducible show wpAny _ _ (binaryOp Operator.Mult (Value.ref _) (Value.int _ _)) _ _ _); k_dflt (refine' mul_two ?F_w ?N_w ?m_w ?e_w ?_; (case F_w => k_asm); (case N_w => k_asm); (case m_w => k_mem); (case e_w => first | rfl | exact room_is _ | ((try simp only [List.size_toArray]); split <;> omega)); k_whole); intro D'w h'w F'w N'w l1w; (try k_lt l1w); (try k_sweep))
  k_with "subscriptTail" =>
    (k_here; (with_reducible show wpAny _ _ (subscriptTail _ _ (Value.ref _) (Value.int (-1) _)) _ _ _); (with_unfolding_all refine item_last (by assumption) (by k_mem) (by omega) ?_))
  k_with "setItem ref int" =>
    (k_here; (with_reducible show wpAny _ _ (setItem (Value.ref _) (Value.int (-1) _) _) _ _ _); k_dflt (refine' set_last ?F_w ?N_w ?m_w ?U_w ?z_w ?_; (case F_w => k_asm); (case N_w => k_asm); (case m_w => k_mem); (case U_w => k_upd); (case z_w => omega)); (intro h'w F'w N'w; (try dsimp only [List.nil_append, List.cons_append] at N'w)))
  k_with "call builtin:list.pop" =>
    (k_here; (with_reducible show wpAny _ _ (call (Value.builtin _) [Value.ref _]) _ _ _); k_dflt (refine' pop_last ?F_w ?N_w ?m_w ?U_w ?z_w ?_; (case F_w => k_asm); (case N_w => k_asm); (case m_w => k_mem); (case U_w => k_upd); (case z_w => omega)); (intro h'w F'w N'w; (try dsimp only [List.nil_append, List.cons_append] at N'w)))
  k_with "call ref" =>
    (k_here; (show wpAny _ _ (call (Value.ref 52) [Value.str _ _]) _ _ _); k_dflt (refine' fault_K ?F_w ?N_w ?X_w ?hh_w ?d_w ?u_w ?_; (case F_w => k_asm); (case N_w => k_asm); (case X_w => k_asm); (case hh_w => rfl); (case d_w => (simp only [depth_deeper, depth_caller]; decide)); (case u_w => (simp only [units_deeper, units_caller]; decide)); intro h'w tk'w e'w t'w de'w F'w N'w l1w; (have l2 := l1w); (try simp only [OffAll, and_true] at l2); (repeat (rcases l2 with ⟨_, l2⟩)); (try k_sweep)))
  k_with "call ref" =>
    (k_here; (show wpAny _ _ (call (Value.ref 71) [Value.ref _]) _ _ _); k_dflt (refine' thrown_K ?F_w ?N_w ?X_w ?hh_w ?d_w ?u_w ?_; (case F_w => k_asm); (case N_w => k_asm); (case X_w => k_asm); (case hh_w => rfl); (case d_w => (simp only [depth_deeper, depth_caller]; decide)); (case u_w => (simp only [units_deeper, units_caller]; decide)); intro h'w tk'w e'w t'w de'w k1'w k2'w k3'w t1'w t2'w t3'w mv'w F'w N'w l1w l2w l3w; (try simp only [OffAll, and_true] at l1w l2w); (repeat (rcases l1w with ⟨_, l1w⟩)); (repeat (rcases l2w with ⟨_, l2w⟩)); (try k_sweep)))
  k_with "exec Raise some none" =>
    (k_here; k_dflt (refine' Raise_own ?X_w ?hh_w ?_; (case X_w => k_asm); (case hh_w => rfl)))
  k_with "RaiseQ" =>
    (k_here; k_dflt (refine' raiseQ_K ?F_w ?N_w ?X_w ?q_w ?m_w ?_; (case F_w => k_asm); (case N_w => k_asm); (case X_w => k_asm); (case m_w => k_mem); (case q_w => kts_isx); k_whole))
  k_with "leaving ref" =>
    (k_here; k_dflt (first
  | (refine' leave_raiseD ?K_w ?F_w ?N_w ?m_w ?s_w ?_; (case F_w => k_asm); (case N_w => k_asm); (case K_w => k_asm); (case m_w => k_mem); (case s_w => first | exact off_e (by assumption) | exact off_e (by (simp only [OffAll]; (repeat' (first | assumption | exact True.intro | exact ⟨by k_ne⟩ | refine And.intro ?_ ?_)); done))); k_whole)
  | (refine' leave_onD ?K_w ?F_w ?R_w ?U_w ?_; (case R_w => k_asm); (case F_w => k_asm); (case K_w => k_asm); (case U_w => k_asm); k_whole)); intro h'w R'w U'w; (try dsimp only at R'w U'w ⊢))
  k_with "noteFrame ref" =>
    (k_here; k_dflt (first
  | ((with_reducible show wpAny _ _ (noteFrame _ _) (fun _ s₂ => wpAny _ _ (setFlight _ none) (fun _ s₃ => wpAny _ _ (handleBy _ _ (ExceptHandler.ExceptHandler (some (Expr.Name _ _)) (some _) _ _ :: _)) _ _ s₃) _ s₂) _ _); refine' caught_DB ?R_w ?F_w ?K_w ?U_w ?XB_w ?TB_w ?D_w ?T0_w ?ex_w ?q_w ?_; (case R_w => k_asm); (case F_w => k_asm); (case K_w => k_asm); (case U_w => k_asm); (case XB_w => k_asm); (case TB_w => k_asm); (case D_w => k_asm); (case T0_w => first | k_asm | exact KtsTurn.refl); (case ex_w => k_is); (case q_w => kts_isx); k_whole; intro h'w g'w ws'w tk'w T'w F'w N'w K'w X'w P'w D'w)
  | ((with_reducible show wpAny _ _ (noteFrame _ _) (fun _ s₂ => wpAny _ _ (setFlight _ none) (fun _ s₃ => wpAny _ _ (handleBy _ _ (ExceptHandler.ExceptHandler (some (Expr.Name _ _)) none _ _ :: _)) _ _ s₃) _ s₂) _ _); refine' caught_D0 ?R_w ?F_w ?K_w ?U_w ?XB_w ?TB_w ?D_w ?T0_w ?ex_w ?q_w ?_; (case R_w => k_asm); (case F_w => k_asm); (case K_w => k_asm); (case U_w => k_asm); (case XB_w => k_asm); (case TB_w => k_asm); (case D_w => k_asm); (case T0_w => first | k_asm | exact KtsTurn.refl); (case ex_w => k_is); (case q_w => kts_isx); k_whole; intro h'w g'w ws'w T'w F'w N'w K'w X'w P'w D'w)
  | ((with_reducible show wpAny _ _ (noteFrame _ _) (fun _ s₂ => wpAny _ _ (setFlight _ none) (fun _ s₃ => wpAny _ _ (handleBy _ _ (ExceptHandler.ExceptHandler (some (Expr.Name _ _)) none _ _ :: _)) _ _ s₃) _ s₂) _ _); refine' caught_D0C ?R_w ?F_w ?K_w ?U_w ?XB_w ?TB_w ?D_w ?T0_w ?ex_w ?q_w ?_; (case R_w => k_asm); (case F_w => k_asm); (case K_w => k_asm); (case U_w => k_asm); (case XB_w => k_asm); (case TB_w => k_asm); (case D_w => k_asm); (case T0_w => first | k_asm | exact KtsTurn.refl); (case ex_w => k_is); (case q_w => kts_isx); k_whole; intro h'w g'w ws'w T'w F'w N'w K'w X'w P'w D'w)); (try k_lift K'w); (try k_sweep))
  k_with "getAttr ref" =>
    (k_here; (with_reducible show wpAny _ _ (getAttr (Value.ref _) (PySem.Str.ofString "value") _) _ _ _); k_dflt (refine' value_K ?F_w ?N_w ?X_w ?he_w ?hd_w ?d_w ?u_w ?_; (case F_w => k_asm); (case N_w => k_asm); (case X_w => k_asm); (case he_w => k_mem); (case hd_w => k_mem); (case d_w => (simp only [depth_mark, depth_deeper, depth_caller]; decide)); (case u_w => (simp only [Around.mark_units, units_deeper, units_caller]; decide)); intro tk'w))
  exact trivial
theorem words4 : True := by
  k_with "call builtin:len" =>
    (k_here; (with_reducible show wpAny _ _ (call (Value.builtin _) [Value.ref _]) _ _ _); k_dflt (refine' len_news ?N_w ?m_w ?z_w ?_; (case N_w => k_asm); (case m_w => k_mem); (case z_w => (simp only [List.size_toArray, List.length_append, List.length_cons, List.length_nil]; omega)); k_whole))
  k_with "call type:list" =>
    (k_here; (with_reducible show wpAny _ _ (call (Value.type _) [Value.ref _]) _ _ _); k_dflt (refine' copy_abs ?F_w ?N_w ?m_w ?z_w ?_; (case F_w => k_asm); (case N_w => k_asm); (case m_w => k_mem); (case z_w => (simp only [List.size_toArray, List.length_append, List.length_cons, List.length_nil]; omega)); k_whole); intro D'w c'w h'w F'w N'w l1w; (try k_lt l1w); (try k_sweep))
  k_with "binaryOp Add ref ref" =>
    (k_here; (with_reducible show wpAny _ _ (binaryOp _ (Value.ref _) (Value.ref _)) _ _ _); k_dflt (refine' add_abs ?F_w ?N_w ?a_w ?b_w ?z_w ?_; (case F_w => k_asm); (case N_w => k_asm); (case a_w => k_mem); (case b_w => k_mem); (case z_w => (simp only [List.length_append, List.length_cons, List.length_nil]; omega)); k_whole); intro D'w h'w F'w N'w l1w; (try k_lt l1w); (try k_sweep))
  k_with "CompEnd" =>
    (k_here; k_dflt (refine compEnd_two (by k_asm) (by k_asm) (by assumption) (by first | exact ltOff (by assumption) | exact ltOff (And.right (by assumption)) | first | assumption | exact off_sub (by assumption) (by ((repeat (refine List.forall_mem_cons.mpr ⟨by k_mem, ?_⟩)); first | exact List.forall_mem_nil _ | (intro pw hpw; (repeat (first | exact hpw | exact List.mem_append_left _ hpw | exact List.mem_append_right _ hpw | exact List.mem_append_left _ (List.mem_append_left _ hpw) | exact List.mem_append_left _ (List.mem_append_right _ hpw) | refine List.Mem.tail _ ?_)); done))) | exact off_sub2 (by assumption) (by assumption) (by ((repeat (refine List.forall_mem_cons.mpr ⟨by k_mem, ?_⟩)); first | exact List.forall_mem_nil _ | (intro pw hpw; (repeat (first | exact hpw | exact List.mem_append_left _ hpw | exact List.mem_append_right _ hpw | exact List.mem_append_left _ (List.mem_append_left _ hpw) | exact List.mem_append_left _ (List.mem_append_right _ hpw) | refine List.Mem.tail _ ?_)); done))) | (simp only [OffAll]; (repeat' (first | exact True.intro | exact ⟨by k_ne⟩ | (first | assumption | exact off_sub (by assumption) (by ((repeat (refine List.forall_mem_cons.mpr ⟨by k_mem, ?_⟩)); first | exact List.forall_mem_nil _ | (intro pw hpw; (repeat (first | exact hpw | exact List.mem_append_left _ hpw | exact List.mem_append_right _ hpw | exact List.mem_append_left _ (List.mem_append_left _ hpw) | exact List.mem_append_left _ (List.mem_append_right _ hpw) | refine List.Mem.tail _ ?_)); done))) | exact off_sub2 (by assumption) (by assumption) (by ((repeat (refine List.forall_mem_cons.mpr ⟨by k_mem, ?_⟩)); first | exact List.forall_mem_nil _ | (intro pw hpw; (repeat (first | exact hpw | exact List.mem_append_left _ hpw | exact List.mem_append_right _ hpw | exact List.mem_append_left _ (List.mem_append_left _ hpw) | exact List.mem_append_left _ (List.mem_append_right _ hpw) | refine List.Mem.tail _ ?_)); done)))) | refine And.intro ?_ ?_)))) (by first | exact ltOff (by assumption) | exact ltOff (And.right (by assumption)) | first | assumption | exact off_sub (by assumption) (by ((repeat (refine List.forall_mem_cons.mpr ⟨by k_mem, ?_⟩)); first | exact List.forall_mem_nil _ | (intro pw hpw; (repeat (first | exact hpw | exact List.mem_append_left _ hpw | exact List.mem_append_right _ hpw | exact List.mem_append_left _ (List.mem_append_left _ hpw) | exact List.mem_append_left _ (List.mem_append_right _ hpw) | refine List.Mem.tail _ ?_)); done))) | exact off_sub2 (by assumption) (by assumption) (by ((repeat (refine List.forall_mem_cons.mpr ⟨by k_mem, ?_⟩)); first | exact List.forall_mem_nil _ | (intro pw hpw; (repeat (first | exact hpw | exact List.mem_append_left _ hpw | exact List.mem_append_right _ hpw | exact List.mem_append_left _ (List.mem_append_left _ hpw) | exact List.mem_append_left _ (List.mem_append_right _ hpw) | refine List.Mem.tail _ ?_)); done))) | (simp only [OffAll]; (repeat' (first | exact True.intro | exact ⟨by k_ne⟩ | (first | assumption | exact off_sub (by assumption) (by ((repeat (refine List.forall_mem_cons.mpr ⟨by k_mem, ?_⟩)); first | exact List.forall_mem_nil _ | (intro pw hpw; (repeat (first | exact hpw | exact List.mem_append_left _ hpw | exact List.mem_append_right _ hpw | exact List.mem_append_left _ (List.mem_append_left _ hpw) | exact List.mem_append_left _ (List.mem_append_right _ hpw) | refine List.Mem.tail _ ?_)); done))) | exact off_sub2 (by assumption) (by assumption) (by ((repeat (refine List.forall_mem_cons.mpr ⟨by k_mem, ?_⟩)); first | exact List.forall_mem_nil _ | (intro pw hpw; (repeat (first | exact hpw | exact List.mem_append_left _ hpw | exact List.mem_append_right _ hpw | exact List.mem_append_left _ (List.mem_append_left _ hpw) | exact List.mem_append_left _ (List.mem_append_right _ hpw) | refine List.Mem.tail _ ?_)); done)))) | refine And.intro ?_ ?_)))) (by first | exact True.intro | lcg_src) ?_); refine StopAt.go ?_)
  exact trivial
theorem seen_c {w : World} {fa L : Addr} {cd : Value} {mg mb : Str → Option Value} {mean : ExcName → Option Value} {h₀ : Heap} {m : Str → Option Value} {s : Shared} {rest : List (Addr × Obj)} {R : Result → Shared → Prop} {FO dF FL RO : Addr} {tm : Tok} {cells : List Cell} {n2 : Nat}
  (B : Below callerA h₀ [] h₀) (F : Fr h₀ L s.heap m) (X₀ : (hd.heap_39 w.params).In h₀) (T : Top VW (looseW VW LS) mean mg mb h₀)
  (N : News h₀ L s.heap ((FO, instObj 242 dF) :: (dF, dictOf [⟨PyData.keyHash w.params "rows", .str "rows" tm, .ref FL⟩] 1) :: (FL, listOf (refF cells).toArray n2) :: rest))
  (hX : (refF cells).length ≤ 9) (hc : ∀ c ∈ cells, c.Ok ∧ c.ns.length ≤ 9 ∧ (c.v = .none ∨ ∃ va, c.v = .ref va) ∧ ∀ p ∈ c.objs w, p ∈ rest)
  (H : ∀ h' tk' D vals k' news', Fr h₀ L h' m → News h₀ L h' ((D, listOf vals.toArray k') :: news') → (∀ q ∈ (FO, instObj 242 dF) :: (dF, dictOf [⟨PyData.keyHash w.params "rows", .str "rows" tm, .ref FL⟩] 1) :: (FL, listOf (refF cells).toArray n2) :: rest, q ∈ news') → SameL news' 8 vals (refT cells) → R (.ok (.ret (.ref D))) { s with heap := h', toks := tk' }) :
  codeAny (model Challenge.rw_pc0196_01.row.prog w) (callerA.deeper (lawEnv L fa cd)) (.call (.ref 302) ⟨[.ref FO], []⟩) R s := by
  k_enter
  k_steps
  unfold StopAt
  refine compRest_ind (SeenTurn cells _) ?step ?last _ _ _ _ (Nat.zero_add _) (SeenTurn.zero _ _)
  case step =>
    intro i ys news' hi hG v I oI C oC D m₂ h₁ tk₁ E' hv hC hx F₁ N₁ off ne
    obtain ⟨c, hci, rfl⟩ := cell_at hv
    obtain ⟨ok, hnl, hcv, hob⟩ := hc c (List.mem_of_getElem? hci)
    have ho : ∀ p ∈ c.objs w, p ∈ (FO, instObj 242 dF) :: (dF, dictOf [⟨PyData.keyHash w.params "rows", .str "rows" tm, .ref FL⟩] 1) :: (FL, listOf (refF cells).toArray n2) :: rest := fun p hp => .tail _ (.tail _ (.tail _ (hob p hp)))
    have hl := ok.hs.length
    have N₂ := news_both (news₀ := [(c.f, instObj 172 c.d), (c.d, frD w c.u1 c.u2 c.u3 c.u4 c.u5 c.u6 c.u7 c.u8 c.ta c.tw c.c c.r c.st c.h c.at_ c.wo c.v), (c.h, listOf c.hs.toArray c.n1), (FL, listOf (refF cells).toArray n2)]) N₁ (fun q hq => hG.1 q (by
      rcases List.mem_cons.mp hq with rfl | hq
      · exact ho _ (.head _)
      rcases List.mem_cons.mp hq with rfl | hq
      · exact ho _ (.tail _ (.head _))
      rcases List.mem_cons.mp hq with rfl | hq
      · exact ho _ (.tail _ (.tail _ (.head _)))
      rw [List.mem_singleton.mp hq]
      exact .tail _ (.tail _ (.head _))))
    have off₂ := off3_both (news₀ := [(c.f, instObj 172 c.d), (c.d, frD w c.u1 c.u2 c.u3 c.u4 c.u5 c.u6 c.u7 c.u8 c.ta c.tw c.c c.r c.st c.h c.at_ c.wo c.v), (c.h, listOf c.hs.toArray c.n1), (FL, listOf (refF cells).toArray n2)]) off (fun q hq => hG.1 q (by
      rcases List.mem_cons.mp hq with rfl | hq
      · exact ho _ (.head _)
      rcases List.mem_cons.mp hq with rfl | hq
      · exact ho _ (.tail _ (.head _))
      rcases List.mem_cons.mp hq with rfl | hq
      · exact ho _ (.tail _ (.tail _ (.head _)))
      rw [List.mem_singleton.mp hq]
      exact .tail _ (.tail _ (.head _))))
    simp only [List.cons_append, List.nil_append] at N₂
    simp only [List.cons_append, List.nil_append] at off₂
    clear N₁ off
    rcases hcv with hcv | ⟨va, hcv⟩
    · rw [hcv] at N₂
      k_steps
      unfold StopAt
      exact SeenTurn.next hcv hG hci ok ho (fun q hq => by (repeat (first | exact hq | refine List.Mem.tail _ ?_))) (.head _) (.tail _ (.head _))
    · rw [hcv] at N₂
      k_steps
      unfold StopAt
      exact SeenTurn.next hcv hG hci ok ho (fun q hq => by (repeat (first | exact hq | refine List.Mem.tail _ ?_))) (.head _) (.tail _ (.head _))
  intro ys news' hG
  unfold LCg.FinE
  intro D h₂ tk₂ F₂ N₂ o₂
  have hS := hG.2
  rw [List.take_of_length_le (by simp [refT, refF])] at hS
  k_steps
  refine H _ _ _ _ _ _ (by k_asm) (by assumption) hG.1 hS
end
section
theorem words5 : True := by
  w_top off
  k_with_none
  k_with "callWith ref" =>
    (k_here; (with_reducible show wpAny _ _ (callWith _ _ _ (backTo _ (starEach [] _)) []) _ _ _); k_dflt (refine' callWith_K0 ?k1_w ?k2_w ?_; (case k1_w => (refine' in_keeps ?F_w ?X_w; (case F_w => with_reducible assumption); (case X_w => with_reducible assumption))); (case k2_w => k_is); k_whole; (try dsimp only [List.nil_append, List.cons_append])))
  k_with "call ref nil" =>
    (k_here; dsimp only [List.cons_append, List.nil_append])
  k_with "call type:tuple" =>
    (k_here; (with_reducible show wpAny _ _ (call (Value.type _) [Value.ref _]) _ _ _); k_dflt (first | (refine' tuple_same_N ?N_w ?m_w ?_; (case N_w => k_asm); (case m_w => k_mem); k_whole) | (refine' tuple_same_K ?F_w ?X_w ?l_w ?_; (case F_w => k_asm); (case X_w => k_asm); (case l_w => k_is); k_whole)))
  k_with "CompSrc" =>
    (k_here; k_dflt (first
  | refine LCg.CompSrc.range (by rfl) (by k_asm) (by k_asm) (by assumption) (by first | exact small_one (by omega) (by omega) (by omega) (by omega) | decide) (by first | exact rangeSize_nat _ _ | rfl) (by rw [PySem.sizeLine_eq]; omega) ?_
  | refine LCg.CompSrc.ledger (by rfl) (by k_asm) (by k_asm) (by k_mem) (by first | exact ks_size (by assumption) (by omega) | (rw [PySem.sizeLine_eq]; (simp only [List.size_toArray, List.length_append, List.length_cons, List.length_nil]); omega)) ?_); intro g'w; refine StopAt.go ?_)
  k_with "CompEnd" =>
    (k_here; k_dflt (first | refine compEnd_none (by k_asm) (by k_asm) (by assumption) (by first | exact True.intro | lcg_src) ?_ | refine compEnd_one (by k_asm) (by k_asm) (by assumption) (by k_ne) (by k_ne) (by k_ne) (by first | exact True.intro | lcg_src) ?_); refine StopAt.go ?_)
  k_with "binaryOp Mult ref int" =>
    (k_here; (with_reducible show wpAny _ _ (binaryOp Operator.Mult (Value.ref _) (Value.int _ _)) _ _ _); k_dflt (refine' mul_two ?F_w ?N_w ?m_w ?e_w ?_; (case F_w => k_asm); (case N_w => k_asm); (case m_w => k_mem); (case e_w => first | rfl | exact room_is _ | ((try simp only [List.size_toArray]); split <;> omega)); k_whole); intro D'w h'w F'w N'w l1w; (try k_lt l1w); (try k_sweep))
  k_with "subscriptTail" =>
    (k_here; (with_reducible show wpAny _ _ (subscriptTail _ _ (Value.ref _) (Value.int (-1) _)) _ _ _); (with_unfolding_all refine item_last (by assumption) (by k_mem) (by omega) ?_))
  k_with "setItem ref int" =>
    (k_here; (with_reducible show wpAny _ _ (setItem (Value.ref _) (Value.int (-1) _) _) _ _ _); k_dflt (refine' set_last ?F_w ?N_w ?m_w ?U_w ?z_w ?_; (case F_w => k_asm); (case N_w => k_asm); (case m_w => k_mem); (case U_w => k_upd); (case z_w => omega)); (intro h'w F'w N'w; (try dsimp only [List.nil_append, List.cons_append] at N'w)))
  k_with "call builtin:list.pop" =>
    (k_here; (with_reducible show wpAny _ _ (call (Value.builtin _) [Value.ref _]) _ _ _); k_dflt (refine' pop_last ?F_w ?N_w ?m_w ?U_w ?z_w ?_; (case F_w => k_asm); (case N_w => k_asm); (case m_w => k_mem); (case U_w => k_upd); (case z_w => omega)); (intro h'w F'w N'w; (try dsimp only [List.nil_append, List.cons_append] at N'w)))
  k_with "call ref" =>
    (k_here; (show wpAny _ _ (call (Value.ref 52) [Value.str _ _]) _ _ _); k_dflt (refine' fault_K ?F_w ?N_w ?X_w ?hh_w ?d_w ?u_w ?_; (case F_w => k_asm); (case N_w => k_asm); (case X_w => k_asm); (case hh_w => rfl); (case d_w => (simp only [depth_deeper, depth_caller]; decide)); (case u_w => (simp only [units_deeper, units_caller]; decide)); intro h'w tk'w e'w t'w de'w F'w N'w l1w; (have l2 := l1w); (try simp only [OffAll, and_true] at l2); (repeat (rcases l2 with ⟨_, l2⟩)); (try k_sweep)))
  k_with "call ref" =>
    (k_here; (show wpAny _ _ (call (Value.ref 71) [Value.ref _]) _ _ _); k_dflt (refine' thrown_K ?F_w ?N_w ?X_w ?hh_w ?d_w ?u_w ?_; (case F_w => k_asm); (case N_w => k_asm); (case X_w => k_asm); (case hh_w => rfl); (case d_w => (simp only [depth_deeper, depth_caller]; decide)); (case u_w => (simp only [units_deeper, units_caller]; decide)); intro h'w tk'w e'w t'w de'w k1'w k2'w k3'w t1'w t2'w t3'w mv'w F'w N'w l1w l2w l3w; (try simp only [OffAll, and_true] at l1w l2w); (repeat (rcases l1w with ⟨_, l1w⟩)); (repeat (rcases l2w with ⟨_, l2w⟩)); (try k_sweep)))
  k_with "exec Raise some none" =>
    (k_here; k_dflt (refine' Raise_own ?X_w ?hh_w ?_; (case X_w => k_asm); (case hh_w => rfl)))
  k_with "RaiseQ" =>
    (k_here; k_dflt (refine' raiseQ_K ?F_w ?N_w ?X_w ?q_w ?m_w ?_; (case F_w => k_asm); (case N_w => k_asm); (case X_w => k_asm); (case m_w => k_mem); (case q_w => kts_isx); k_whole))
  k_with "leaving ref" =>
    (k_here; k_dflt (first
  | (refine' leave_raiseD ?K_w ?F_w ?N_w ?m_w ?s_w ?_; (case F_w => k_asm); (case N_w => k_asm); (case K_w => k_asm); (case m_w => k_mem); (case s_w => first | exact off_e (by assumption) | exact off_e (by (simp only [OffAll]; (repeat' (first | assumption | exact True.intro | exact ⟨by k_ne⟩ | refine And.intro ?_ ?_)); done))); k_whole)
  | (refine' leave_onD ?K_w ?F_w ?R_w ?U_w ?_; (case R_w => k_asm); (case F_w => k_asm); (case K_w => k_asm); (case U_w => k_asm); k_whole)); intro h'w R'w U'w; (try dsimp only at R'w U'w ⊢))
  k_with "noteFrame ref" =>
    (k_here; k_dflt (first
  | ((with_reducible show wpAny _ _ (noteFrame _ _) (fun _ s₂ => wpAny _ _ (setFlight _ none) (fun _ s₃ => wpAny _ _ (handleBy _ _ (ExceptHandler.ExceptHandler (some (Expr.Name _ _)) (some _) _ _ :: _)) _ _ s₃) _ s₂) _ _); refine' caught_DB ?R_w ?F_w ?K_w ?U_w ?XB_w ?TB_w ?D_w ?T0_w ?ex_w ?q_w ?_; (case R_w => k_asm); (case F_w => k_asm); (case K_w => k_asm); (case U_w => k_asm); (case XB_w => k_asm); (case TB_w => k_asm); (case D_w => k_asm); (case T0_w => first | k_asm | exact KtsTurn.refl); (case ex_w => k_is); (case q_w => kts_isx); k_whole; intro h'w g'w ws'w tk'w T'w F'w N'w K'w X'w P'w D'w)
  | ((with_reducible show wpAny _ _ (noteFrame _ _) (fun _ s₂ => wpAny _ _ (setFlight _ none) (fun _ s₃ => wpAny _ _ (handleBy _ _ (ExceptHandler.ExceptHandler (some (Expr.Name _ _)) none _ _ :: _)) _ _ s₃) _ s₂) _ _); refine' caught_D0 ?R_w ?F_w ?K_w ?U_w ?XB_w ?TB_w ?D_w ?T0_w ?ex_w ?q_w ?_; (case R_w => k_asm); (case F_w => k_asm); (case K_w => k_asm); (case U_w => k_asm); (case XB_w => k_asm); (case TB_w => k_asm); (case D_w => k_asm); (case T0_w => first | k_asm | exact KtsTurn.refl); (case ex_w => k_is); (case q_w => kts_isx); k_whole; intro h'w g'w ws'w T'w F'w N'w K'w X'w P'w D'w)
  | ((with_reducible show wpAny _ _ (noteFrame _ _) (fun _ s₂ => wpAny _ _ (setFlight _ none) (fun _ s₃ => wpAny _ _ (handleBy _ _ (ExceptHandler.ExceptHandler (some (Expr.Name _ _)) none _ _ :: _)) _ _ s₃) _ s₂) _ _); refine' caught_D0C ?R_w ?F_w ?K_w ?U_w ?XB_w ?TB_w ?D_w ?T0_w ?ex_w ?q_w ?_; (case R_w => k_asm); (case F_w => k_asm); (case K_w => k_asm); (case U_w => k_asm); (case XB_w => k_asm); (case TB_w => k_asm); (case D_w => k_asm); (case T0_w => first | k_asm | exact KtsTurn.refl); (case ex_w => k_is); (case q_w => kts_isx); k_whole; intro h'w g'w ws'w T'w F'w N'w K'w X'w P'w D'w)); (try k_lift K'w); (try k_sweep))
  k_with "getAttr ref" =>
    (k_here; (with_reducible show wpAny _ _ (getAttr (Value.ref _) (PySem.Str.ofString "value") _) _ _ _); k_dflt (refine' value_K ?F_w ?N_w ?X_w ?he_w ?hd_w ?d_w ?u_w ?_; (case F_w => k_asm); (case N_w => k_asm); (case X_w => k_asm); (case he_w => k_mem); (case hd_w => k_mem); (case d_w => (simp only [depth_mark, depth_deeper, depth_caller]; decide)); (case u_w => (simp only [Around.mark_units, units_deeper, units_caller]; decide)); intro tk'w))
  exact trivial
local macro_rules | `(tactic| k_room) => `(tactic| ((simp only [depth_mark, depth_under_make, depth_under_kw, depth_in1, depth_deeper]); omega))

theorem len_k {prog : Program} {w : World} {A : Around} {E : Value → Shared → Prop} {s : Shared} {h₀ : Heap} {L a : Addr} {news : List (Addr × Obj)} {xs : List Value} {n : Nat} {k : Int} {Q : Value → Shared → Prop} (N : News h₀ L s.heap news) (hm : (a, W.listOf xs.toArray n) ∈ news) (e : (xs.length : Int) = k) (hk : k ≤ 999)
    (h : Q (.int k (s.toks + 1)) { s with toks := s.toks + 1 + 1 }) : wpAny (model prog w) A (call (.builtin "len") [.ref a]) Q E s := by
  subst e
  exact len_list' N hm (by omega) h
theorem append_k {prog : Program} {w : World} {A : Around} {E : Value → Shared → Prop} {s : Shared} {h₀ : Heap} {L D : Addr} {m : Str → Option Value} {news news' : List (Addr × Obj)} {xs : List Value} {x : Value} {n : Nat} {k : Int} {Q : Value → Shared → Prop} (F : Fr h₀ L s.heap m) (N : News h₀ L s.heap news) (U : Upd D (W.listOf xs.toArray n) (W.listOf (xs ++ [x]).toArray (n + 1)) news news') (e : (xs.length : Int) = k) (hk : k ≤ 999)
    (h : ∀ h', Fr h₀ L h' m → News h₀ L h' news' → Q .none { s with heap := h' }) : wpAny (model prog w) A (call (.builtin "list.append") [.ref D, x]) Q E s := by
  rw [show (xs ++ [x]).toArray = xs.toArray.push x by simp] at U
  exact append_K F N U h (by rw [PySem.sizeLine_eq]; simp; omega)

theorem eq_nil1 {prog : Program} {w : World} {A : Around} {E : Value → Shared → Prop} {s : Shared} {h₀ : Heap} {L a b : Addr} {news : List (Addr × Obj)} {xs : List Value} {x : Value} {k1 k2 : Nat} {Q : Value → Shared → Prop} (N : News h₀ L s.heap news) (ha : (a, W.listOf (xs ++ [x]).toArray k1) ∈ news) (hb : (b, W.listOf #[] k2) ∈ news) (hu : A.units + 64 < cLine) (h : Q (.bool false) s) :
    wpAny (model prog w) A (compareOp .Eq (.ref a) (.ref b)) Q E s := SeqAt.eq_list_lengthsAt (N.isList ha) (N.isList hb) (by simp) (by omega) h
theorem eq_nil0 {prog : Program} {w : World} {A : Around} {E : Value → Shared → Prop} {s : Shared} {h₀ : Heap} {L a b : Addr} {news : List (Addr × Obj)} {k1 k2 : Nat} {Q : Value → Shared → Prop} (N : News h₀ L s.heap news) (ha : (a, W.listOf #[] k1) ∈ news) (hb : (b, W.listOf #[] k2) ∈ news) (hu : A.units + 64 < cLine) (h : Q (.bool true) s) :
    wpAny (model prog w) A (compareOp .Eq (.ref a) (.ref b)) Q E s := SeqAt.eq_listAt (e := fun _ => true) (N.isList ha) (N.isList hb) rfl (by omega) (fun j h1 _ => absurd h1 (Nat.not_lt_zero _)) h


theorem words6 : True := by
  k_with "compareOp Eq ref ref" =>
    (k_here; k_dflt (first | (refine' eq_nil1 ?N_w ?a_w ?b_w ?u_w ?_; (case N_w => k_asm); (case a_w => k_mem); (case b_w => k_mem); (case u_w => ((simp only [units_deeper]); omega)); k_whole) | (refine' eq_nil0 ?N_w ?a_w ?b_w ?u_w ?_; (case N_w => k_asm); (case a_w => k_mem); (case b_w => k_mem); (case u_w => ((simp only [units_deeper]); omega)); k_whole)))
  k_with "call builtin:len" =>
    (k_here; (with_reducible show wpAny _ _ (call (Value.builtin _) [Value.ref _]) _ _ _); k_dflt (refine' len_k ?N_w ?m_w ?e_w ?z_w ?_; (case N_w => k_asm); (case m_w => k_mem); (case e_w => with_reducible assumption); (case z_w => with_reducible assumption); k_whole))
  k_with "call builtin:list.append" =>
    (k_here; (with_reducible show wpAny _ _ (call (Value.builtin _) [Value.ref _, _]) _ _ _); k_dflt (refine' append_k ?F_w ?N_w ?U_w ?e_w ?z_w ?_; (case F_w => k_asm); (case N_w => k_asm); (case U_w => assumption); (case e_w => with_reducible assumption); (case z_w => with_reducible assumption); k_whole); intro h'w F'w N'w)
  k_with "subscriptTail Attribute" =>
    (k_here; k_dflt (refine kba_turn (value' := PySem.Expr.Name (PySem.Str.ofString "_") ⟨0, 0, 0, 0⟩) (fun _ => rfl) ?_))
  k_with "subscriptTail" =>
    (k_here; (with_reducible show wpAny _ _ (subscriptTail (PySem.Expr.Name _ _) _ (Value.ref _) (Value.int (-1) _)) _ _ _); (with_reducible refine' item_last (hs := ?hs_w) (hg := ?hg_w) ?N_w ?m_w ?f_w ?_); (case N_w => k_asm); (case m_w => k_mem); (case f_w => with_reducible assumption); (case hs_w => with_unfolding_all rfl); (case hg_w => (intro _; with_unfolding_all rfl)); k_whole)
  k_with "subscriptTail Name Slice ref ref" =>
    (k_here; (with_reducible show wpAny _ _ (subscriptTail (PySem.Expr.Name _ _) (PySem.Expr.Slice none _ _ _) (Value.ref _) (Value.ref _)) _ _ _); k_dflt (refine' slice_to ?F_w ?N_w ?m_w ?k_w ?e_w ?z_w ?_ ?s_w ?t_w; (case F_w => k_asm); (case N_w => k_asm); (case m_w => k_mem); (case k_w => with_reducible assumption); (case e_w => with_reducible assumption); (case z_w => with_reducible assumption); (case s_w => with_unfolding_all rfl); (case t_w => kmk_pure)); intro D'w h'w F'w N'w l1w; (try k_lt l1w))
  k_with "call builtin:list.pop" =>
    (k_here; (with_reducible show wpAny _ _ (call (Value.builtin _) [Value.ref _]) _ _ _); k_dflt (refine' pop_last ?F_w ?N_w ?m_w ?U_w ?z_w ?_; (case F_w => k_asm); (case N_w => k_asm); (case m_w => k_mem); (case U_w => with_reducible assumption); (case z_w => with_reducible assumption)); (intro h'w F'w N'w))
  exact trivial
theorem many_m {w : World} {G : Gr} {base : Heap} {L : Addr} {mg mb : Str → Option Value} {mean : ExcName → Option Value} {h₀ : Heap} {m : Str → Option Value} {s : Shared} {rest : List (Addr × Obj)} {R : Result → Shared → Prop} {FO dF FL : Addr} {tm : Tok} {xs : List Value} {n : Nat} {k : Int}
  (hd : G.d + 20 < recursionLimit) (B : Below G.A base G.outer h₀) (F : Fr h₀ L s.heap m) (X₀ : (Mine.hd.heap_39 w.params).In h₀) (T : Top VW (looseW VW LS) mean mg mb h₀)
  (N : News h₀ L s.heap (rest))
  (m1 : (FO, instObj 242 dF) ∈ rest) (m2 : (dF, rowsD w tm FL) ∈ rest) (m3 : (FL, W.listOf xs.toArray n) ∈ rest) (e : (xs.length : Int) = k) (hk : k ≤ 999)
  (H : ∀ h' tk' t', Fr h₀ L h' m → News h₀ L h' rest → R (.ok (.ret (.int k t'))) { s with heap := h', toks := tk' }) :
  codeAny (model Challenge.rw_pc0196_01.row.prog w) (G.A.deeper (G.env L)) (.call (.ref 204) ⟨[.ref FO], []⟩) R s := by
  obtain ⟨sh, sg, sd, sk, so⟩ := s
  dsimp only at F N H ⊢
  k_enter
  k_steps
  exact H _ _ _ (by k_asm) (by k_asm)
theorem top_m {w : World} {G : Gr} {base : Heap} {L : Addr} {mg mb : Str → Option Value} {mean : ExcName → Option Value} {h₀ : Heap} {m : Str → Option Value} {s : Shared} {rest : List (Addr × Obj)} {R : Result → Shared → Prop} {FO dF FL : Addr} {tm : Tok} {xs : List Value} {n : Nat} {v : Value}
  (hd : G.d + 20 < recursionLimit) (B : Below G.A base G.outer h₀) (F : Fr h₀ L s.heap m) (X₀ : (Mine.hd.heap_39 w.params).In h₀) (T : Top VW (looseW VW LS) mean mg mb h₀)
  (N : News h₀ L s.heap (rest))
  (m1 : (FO, instObj 242 dF) ∈ rest) (m2 : (dF, rowsD w tm FL) ∈ rest) (m3 : (FL, W.listOf (xs ++ [v]).toArray n) ∈ rest) (e : xs.length ≤ 1000)
  (H : ∀ h' tk', Fr h₀ L h' m → News h₀ L h' rest → R (.ok (.ret v)) { s with heap := h', toks := tk' }) :
  codeAny (model Challenge.rw_pc0196_01.row.prog w) (G.A.deeper (G.env L)) (.call (.ref 211) ⟨[.ref FO], []⟩) R s := by
  obtain ⟨sh, sg, sd, sk, so⟩ := s
  dsimp only at F N H ⊢
  k_enter
  k_steps
  exact H _ _ (by k_asm) (by k_asm)
theorem push_m {w : World} {G : Gr} {base : Heap} {L : Addr} {mg mb : Str → Option Value} {mean : ExcName → Option Value} {h₀ : Heap} {m : Str → Option Value} {s : Shared} {rest : List (Addr × Obj)} {R : Result → Shared → Prop} {FO dF FL : Addr} {tm : Tok} {xs : List Value} {n : Nat} {k : Int} {x : Addr} {news' : List (Addr × Obj)}
  (hd : G.d + 20 < recursionLimit) (B : Below G.A base G.outer h₀) (F : Fr h₀ L s.heap m) (X₀ : (Mine.hd.heap_39 w.params).In h₀) (T : Top VW (looseW VW LS) mean mg mb h₀)
  (N : News h₀ L s.heap (rest))
  (m1 : (FO, instObj 242 dF) ∈ rest) (m2 : (dF, rowsD w tm FL) ∈ rest) (m3 : (FL, W.listOf xs.toArray n) ∈ rest) (e : (xs.length : Int) = k) (hk : k ≤ 999) (hp : decide (200 ≤ k) = false) (U : Upd FL (W.listOf xs.toArray n) (W.listOf (xs ++ [Value.ref x]).toArray (n + 1)) rest news')
  (H : ∀ h' tk', Fr h₀ L h' m → News h₀ L h' news' → R (.ok (.ret .none)) { s with heap := h', toks := tk' }) :
  codeAny (model Challenge.rw_pc0196_01.row.prog w) (G.A.deeper (G.env L)) (.call (.ref 218) ⟨[.ref FO, .ref x], []⟩) R s := by
  obtain ⟨sh, sg, sd, sk, so⟩ := s
  dsimp only at F N H ⊢
  k_enter
  k_steps
  exact H _ _ (by k_asm) (by k_asm)
theorem cut_m {w : World} {G : Gr} {base : Heap} {L : Addr} {mg mb : Str → Option Value} {mean : ExcName → Option Value} {h₀ : Heap} {m : Str → Option Value} {s : Shared} {rest : List (Addr × Obj)} {R : Result → Shared → Prop} {FO dF FL : Addr} {tm : Tok} {xs : List Value} {n : Nat} {k : Int} {tk : Tok} {ys : List Value}
  (hd : G.d + 20 < recursionLimit) (B : Below G.A base G.outer h₀) (F : Fr h₀ L s.heap m) (X₀ : (Mine.hd.heap_39 w.params).In h₀) (T : Top VW (looseW VW LS) mean mg mb h₀)
  (N : News h₀ L s.heap ((dF, rowsD w tm FL) :: rest))
  (m1 : (FO, instObj 242 dF) ∈ rest) (m3 : (FL, W.listOf xs.toArray n) ∈ rest) (zd : OffAll dF rest) (k0 : 0 ≤ k) (e : xs.take k.toNat = ys) (hz : xs.length ≤ 1000)
  (H : ∀ h' tk' D, Fr h₀ L h' m → News h₀ L h' ((D, W.listOf ys.toArray 0) :: (dF, rowsD w tm D) :: rest) → (∀ p ∈ (dF, rowsD w tm FL) :: rest, p.1 < D) → R (.ok (.ret .none)) { s with heap := h', toks := tk' }) :
  codeAny (model Challenge.rw_pc0196_01.row.prog w) (G.A.deeper (G.env L)) (.call (.ref 232) ⟨[.ref FO, .int k tk], []⟩) R s := by
  obtain ⟨sh, sg, sd, sk, so⟩ := s
  dsimp only at F N H ⊢
  k_enter
  k_steps
  exact H _ _ _ (by k_asm) (by k_asm) (by assumption)
theorem world_s {w : World} {G : Gr} {base : Heap} {L : Addr} {mg mb : Str → Option Value} {mean : ExcName → Option Value} {h₀ : Heap} {m : Str → Option Value} {s : Shared} {rest : List (Addr × Obj)} {R : Result → Shared → Prop} {FO dF FL : Addr} {tm : Tok} {xs : List Value} {n : Nat} {f d c r st h : Addr} {u1 u2 u3 u4 u5 u6 u7 u8 ta tw : Tok} {at_ wo a : Int} {t : Tok} {v : Value}
  (hd : G.d + 20 < recursionLimit) (B : Below G.A base G.outer h₀) (F : Fr h₀ L s.heap m) (X₀ : (Mine.hd.heap_39 w.params).In h₀) (T : Top VW (looseW VW LS) mean mg mb h₀)
  (N : News h₀ L s.heap (rest))
  (hu : G.u + 80 < cLine) (m1 : (FO, instObj 242 dF) ∈ rest) (m2 : (dF, rowsD w tm FL) ∈ rest) (m3 : (FL, W.listOf (xs ++ [Value.ref f]).toArray n) ∈ rest) (hz : xs.length ≤ 1000) (m4 : (f, instObj 172 d) ∈ rest) (m5 : (d, frD w u1 u2 u3 u4 u5 u6 u7 u8 ta tw c r st h at_ wo v) ∈ rest)
  (H : ∀ h' tk', Fr h₀ L h' m → News h₀ L h' rest → R (.ok (.ret (.int wo tw))) { s with heap := h', toks := tk' }) :
  codeAny (model Challenge.rw_pc0196_01.row.prog w) (G.A.deeper (G.env L)) (.call (.ref 239) ⟨[.ref FO, .int a t], []⟩) R s := by
  obtain ⟨sh, sg, sd, sk, so⟩ := s
  dsimp only at F N H ⊢
  k_enter
  k_steps
  exact H _ _ (by k_asm) (news_tl (by assumption))
theorem world_n {w : World} {G : Gr} {base : Heap} {L : Addr} {mg mb : Str → Option Value} {mean : ExcName → Option Value} {h₀ : Heap} {m : Str → Option Value} {s : Shared} {rest : List (Addr × Obj)} {R : Result → Shared → Prop} {FO dF FL : Addr} {tm : Tok} {n : Nat} {a : Int} {t : Tok}
  (hd : G.d + 20 < recursionLimit) (B : Below G.A base G.outer h₀) (F : Fr h₀ L s.heap m) (X₀ : (Mine.hd.heap_39 w.params).In h₀) (T : Top VW (looseW VW LS) mean mg mb h₀)
  (N : News h₀ L s.heap (rest))
  (hu : G.u + 80 < cLine) (m1 : (FO, instObj 242 dF) ∈ rest) (m2 : (dF, rowsD w tm FL) ∈ rest) (m3 : (FL, W.listOf #[] n) ∈ rest)
  (H : ∀ h' tk', Fr h₀ L h' m → News h₀ L h' rest → R (.ok (.ret (.int a t))) { s with heap := h', toks := tk' }) :
  codeAny (model Challenge.rw_pc0196_01.row.prog w) (G.A.deeper (G.env L)) (.call (.ref 239) ⟨[.ref FO, .int a t], []⟩) R s := by
  obtain ⟨sh, sg, sd, sk, so⟩ := s
  dsimp only at F N H ⊢
  k_enter
  k_steps
  exact H _ _ (by k_asm) (news_tl (by assumption))
theorem pop_m {w : World} {G : Gr} {base : Heap} {L : Addr} {mg mb : Str → Option Value} {mean : ExcName → Option Value} {h₀ : Heap} {m : Str → Option Value} {s : Shared} {rest : List (Addr × Obj)} {R : Result → Shared → Prop} {FO dF FL : Addr} {tm : Tok} {xs : List Value} {n : Nat} {v : Value} {news' : List (Addr × Obj)}
  (hd : G.d + 20 < recursionLimit) (B : Below G.A base G.outer h₀) (F : Fr h₀ L s.heap m) (X₀ : (Mine.hd.heap_39 w.params).In h₀) (T : Top VW (looseW VW LS) mean mg mb h₀)
  (N : News h₀ L s.heap (rest))
  (m1 : (FO, instObj 242 dF) ∈ rest) (m2 : (dF, rowsD w tm FL) ∈ rest) (m3 : (FL, W.listOf (xs ++ [v]).toArray n) ∈ rest) (e : xs.length ≤ 1000) (U : Upd FL (W.listOf (xs ++ [v]).toArray n) (W.listOf xs.toArray (n + 1)) rest news')
  (H : ∀ h' tk', Fr h₀ L h' m → News h₀ L h' news' → R (.ok (.ret v)) { s with heap := h', toks := tk' }) :
  codeAny (model Challenge.rw_pc0196_01.row.prog w) (G.A.deeper (G.env L)) (.call (.ref 225) ⟨[.ref FO], []⟩) R s := by
  obtain ⟨sh, sg, sd, sk, so⟩ := s
  dsimp only at F N H ⊢
  k_enter
  k_steps
  exact H _ _ (by k_asm) (by k_asm)
theorem catch_n {w : World} {G : Gr} {base : Heap} {L : Addr} {mg mb : Str → Option Value} {mean : ExcName → Option Value} {h₀ : Heap} {m : Str → Option Value} {s : Shared} {rest : List (Addr × Obj)} {R : Result → Shared → Prop} {f d c r st h va : Addr} {u1 u2 u3 u4 u5 u6 u7 u8 ta tw : Tok} {at_ wo : Int} {v : Value} {n : Nat}
  (hd : G.d + 20 < recursionLimit) (B : Below G.A base G.outer h₀) (F : Fr h₀ L s.heap m) (X₀ : (Mine.hd.heap_39 w.params).In h₀) (T : Top VW (looseW VW LS) mean mg mb h₀)
  (N : News h₀ L s.heap (rest))
  (hu : G.u + 80 < cLine) (m4 : (f, instObj 172 d) ∈ rest) (m5 : (d, frD w u1 u2 u3 u4 u5 u6 u7 u8 ta tw c r st h at_ wo v) ∈ rest) (m6 : (h, W.listOf #[] n) ∈ rest)
  (H : ∀ h' tk', Fr h₀ L h' m → News h₀ L h' rest → R (.ok (.ret (.bool false))) { s with heap := h', toks := tk' }) :
  codeAny (model Challenge.rw_pc0196_01.row.prog w) (G.A.deeper (G.env L)) (.call (.ref 169) ⟨[.ref f, .ref va], []⟩) R s := by
  obtain ⟨sh, sg, sd, sk, so⟩ := s
  dsimp only at F N H ⊢
  k_enter
  k_steps
  exact H _ _ (by k_asm) (news_tl (by assumption))
end
section
theorem words7 : True := by
  w_top off
  k_with_none
  k_with "callWith ref" =>
    (k_here; (with_reducible show wpAny _ _ (callWith _ _ _ (backTo _ (starEach [] _)) []) _ _ _); k_dflt (refine' callWith_K0 ?k1_w ?k2_w ?_; (case k1_w => (refine' in_keeps ?F_w ?X_w; (case F_w => with_reducible assumption); (case X_w => with_reducible assumption))); (case k2_w => k_is); k_whole; (try dsimp only [List.nil_append, List.cons_append])))
  k_with "call ref nil" =>
    (k_here; dsimp only [List.cons_append, List.nil_append])
  k_with "call type:tuple" =>
    (k_here; (with_reducible show wpAny _ _ (call (Value.type _) [Value.ref _]) _ _ _); k_dflt (first | (refine' tuple_same_N ?N_w ?m_w ?_; (case N_w => k_asm); (case m_w => k_mem); k_whole) | (refine' tuple_same_K ?F_w ?X_w ?l_w ?_; (case F_w => k_asm); (case X_w => k_asm); (case l_w => k_is); k_whole)))
  k_with "CompSrc" =>
    (k_here; k_dflt (first
  | refine LCg.CompSrc.range (by rfl) (by k_asm) (by k_asm) (by assumption) (by first | exact small_one (by omega) (by omega) (by omega) (by omega) | decide) (by first | exact rangeSize_nat _ _ | rfl) (by rw [PySem.sizeLine_eq]; omega) ?_
  | refine LCg.CompSrc.ledger (by rfl) (by k_asm) (by k_asm) (by k_mem) (by first | exact ks_size (by assumption) (by omega) | (rw [PySem.sizeLine_eq]; (simp only [List.size_toArray, List.length_append, List.length_cons, List.length_nil]); omega)) ?_); intro g'w; refine StopAt.go ?_)
  k_with "CompEnd" =>
    (k_here; k_dflt (first | refine compEnd_none (by k_asm) (by k_asm) (by assumption) (by first | exact True.intro | lcg_src) ?_ | refine compEnd_one (by k_asm) (by k_asm) (by assumption) (by k_ne) (by k_ne) (by k_ne) (by first | exact True.intro | lcg_src) ?_); refine StopAt.go ?_)
  k_with "binaryOp Mult ref int" =>
    (k_here; (with_reducible show wpAny _ _ (binaryOp Operator.Mult (Value.ref _) (Value.int _ _)) _ _ _); k_dflt (refine' mul_two ?F_w ?N_w ?m_w ?e_w ?_; (case F_w => k_asm); (case N_w => k_asm); (case m_w => k_mem); (case e_w => first | rfl | exact room_is _ | ((try simp only [List.size_toArray]); split <;> omega)); k_whole); intro D'w h'w F'w N'w l1w; (try k_lt l1w); (try k_sweep))
  k_with "subscriptTail" =>
    (k_here; (with_reducible show wpAny _ _ (subscriptTail _ _ (Value.ref _) (Value.int (-1) _)) _ _ _); (with_unfolding_all refine item_last (by assumption) (by k_mem) (by omega) ?_))
  k_with "setItem ref int" =>
    (k_here; (with_reducible show wpAny _ _ (setItem (Value.ref _) (Value.int (-1) _) _) _ _ _); k_dflt (refine' set_last ?F_w ?N_w ?m_w ?U_w ?z_w ?_; (case F_w => k_asm); (case N_w => k_asm); (case m_w => k_mem); (case U_w => k_upd); (case z_w => omega)); (intro h'w F'w N'w; (try dsimp only [List.nil_append, List.cons_append] at N'w)))
  k_with "call builtin:list.pop" =>
    (k_here; (with_reducible show wpAny _ _ (call (Value.builtin _) [Value.ref _]) _ _ _); k_dflt (refine' pop_last ?F_w ?N_w ?m_w ?U_w ?z_w ?_; (case F_w => k_asm); (case N_w => k_asm); (case m_w => k_mem); (case U_w => k_upd); (case z_w => omega)); (intro h'w F'w N'w; (try dsimp only [List.nil_append, List.cons_append] at N'w)))
  k_with "call ref" =>
    (k_here; (show wpAny _ _ (call (Value.ref 52) [Value.str _ _]) _ _ _); k_dflt (refine' fault_K ?F_w ?N_w ?X_w ?hh_w ?d_w ?u_w ?_; (case F_w => k_asm); (case N_w => k_asm); (case X_w => k_asm); (case hh_w => rfl); (case d_w => (simp only [depth_deeper, depth_caller]; decide)); (case u_w => (simp only [units_deeper, units_caller]; decide)); intro h'w tk'w e'w t'w de'w F'w N'w l1w; (have l2 := l1w); (try simp only [OffAll, and_true] at l2); (repeat (rcases l2 with ⟨_, l2⟩)); (try k_sweep)))
  k_with "call ref" =>
    (k_here; (show wpAny _ _ (call (Value.ref 71) [Value.ref _]) _ _ _); k_dflt (refine' thrown_K ?F_w ?N_w ?X_w ?hh_w ?d_w ?u_w ?_; (case F_w => k_asm); (case N_w => k_asm); (case X_w => k_asm); (case hh_w => rfl); (case d_w => (simp only [depth_deeper, depth_caller]; decide)); (case u_w => (simp only [units_deeper, units_caller]; decide)); intro h'w tk'w e'w t'w de'w k1'w k2'w k3'w t1'w t2'w t3'w mv'w F'w N'w l1w l2w l3w; (try simp only [OffAll, and_true] at l1w l2w); (repeat (rcases l1w with ⟨_, l1w⟩)); (repeat (rcases l2w with ⟨_, l2w⟩)); (try k_sweep)))
  k_with "exec Raise some none" =>
    (k_here; k_dflt (refine' Raise_own ?X_w ?hh_w ?_; (case X_w => k_asm); (case hh_w => rfl)))
  k_with "RaiseQ" =>
    (k_here; k_dflt (refine' raiseQ_K ?F_w ?N_w ?X_w ?q_w ?m_w ?_; (case F_w => k_asm); (case N_w => k_asm); (case X_w => k_asm); (case m_w => k_mem); (case q_w => kts_isx); k_whole))
  k_with "leaving ref" =>
    (k_here; k_dflt (first
  | (refine' leave_raiseD ?K_w ?F_w ?N_w ?m_w ?s_w ?_; (case F_w => k_asm); (case N_w => k_asm); (case K_w => k_asm); (case m_w => k_mem); (case s_w => first | exact off_e (by assumption) | exact off_e (by (simp only [OffAll]; (repeat' (first | assumption | exact True.intro | exact ⟨by k_ne⟩ | refine And.intro ?_ ?_)); done))); k_whole)
  | (refine' leave_onD ?K_w ?F_w ?R_w ?U_w ?_; (case R_w => k_asm); (case F_w => k_asm); (case K_w => k_asm); (case U_w => k_asm); k_whole)); intro h'w R'w U'w; (try dsimp only at R'w U'w ⊢))
  k_with "noteFrame ref" =>
    (k_here; k_dflt (first
  | ((with_reducible show wpAny _ _ (noteFrame _ _) (fun _ s₂ => wpAny _ _ (setFlight _ none) (fun _ s₃ => wpAny _ _ (handleBy _ _ (ExceptHandler.ExceptHandler (some (Expr.Name _ _)) (some _) _ _ :: _)) _ _ s₃) _ s₂) _ _); refine' caught_DB ?R_w ?F_w ?K_w ?U_w ?XB_w ?TB_w ?D_w ?T0_w ?ex_w ?q_w ?_; (case R_w => k_asm); (case F_w => k_asm); (case K_w => k_asm); (case U_w => k_asm); (case XB_w => k_asm); (case TB_w => k_asm); (case D_w => k_asm); (case T0_w => first | k_asm | exact KtsTurn.refl); (case ex_w => k_is); (case q_w => kts_isx); k_whole; intro h'w g'w ws'w tk'w T'w F'w N'w K'w X'w P'w D'w)
  | ((with_reducible show wpAny _ _ (noteFrame _ _) (fun _ s₂ => wpAny _ _ (setFlight _ none) (fun _ s₃ => wpAny _ _ (handleBy _ _ (ExceptHandler.ExceptHandler (some (Expr.Name _ _)) none _ _ :: _)) _ _ s₃) _ s₂) _ _); refine' caught_D0 ?R_w ?F_w ?K_w ?U_w ?XB_w ?TB_w ?D_w ?T0_w ?ex_w ?q_w ?_; (case R_w => k_asm); (case F_w => k_asm); (case K_w => k_asm); (case U_w => k_asm); (case XB_w => k_asm); (case TB_w => k_asm); (case D_w => k_asm); (case T0_w => first | k_asm | exact KtsTurn.refl); (case ex_w => k_is); (case q_w => kts_isx); k_whole; intro h'w g'w ws'w T'w F'w N'w K'w X'w P'w D'w)
  | ((with_reducible show wpAny _ _ (noteFrame _ _) (fun _ s₂ => wpAny _ _ (setFlight _ none) (fun _ s₃ => wpAny _ _ (handleBy _ _ (ExceptHandler.ExceptHandler (some (Expr.Name _ _)) none _ _ :: _)) _ _ s₃) _ s₂) _ _); refine' caught_D0C ?R_w ?F_w ?K_w ?U_w ?XB_w ?TB_w ?D_w ?T0_w ?ex_w ?q_w ?_; (case R_w => k_asm); (case F_w => k_asm); (case K_w => k_asm); (case U_w => k_asm); (case XB_w => k_asm); (case TB_w => k_asm); (case D_w => k_asm); (case T0_w => first | k_asm | exact KtsTurn.refl); (case ex_w => k_is); (case q_w => kts_isx); k_whole; intro h'w g'w ws'w T'w F'w N'w K'w X'w P'w D'w)); (try k_lift K'w); (try k_sweep))
  k_with "getAttr ref" =>
    (k_here; (with_reducible show wpAny _ _ (getAttr (Value.ref _) (PySem.Str.ofString "value") _) _ _ _); k_dflt (refine' value_K ?F_w ?N_w ?X_w ?he_w ?hd_w ?d_w ?u_w ?_; (case F_w => k_asm); (case N_w => k_asm); (case X_w => k_asm); (case he_w => k_mem); (case hd_w => k_mem); (case d_w => (simp only [depth_mark, depth_deeper, depth_caller]; decide)); (case u_w => (simp only [Around.mark_units, units_deeper, units_caller]; decide)); intro tk'w))
  exact trivial
theorem words8 : True := by
  k_with "compareOp Eq ref ref" =>
    (k_here; k_dflt (refine' eq_same_tup ?N_w ?a_w ?b_w ?l_w ?u_w ?_; (case N_w => k_asm); (case a_w => (repeat (first | assumption | refine List.Mem.tail _ ?_))); (case b_w => (repeat (first | assumption | refine List.Mem.tail _ ?_))); (case l_w => exact SameL.refl _ _ _); (case u_w => ke_room); k_whole))
  k_with "exec While BoolOp" =>
    (k_here; refine StopAt.go ?_)
  k_with "exec While Compare" =>
    (k_here; refine StopAt.go ?_)
  k_with "call builtin:len" =>
    (k_here; (with_reducible show wpAny _ _ (call (Value.builtin _) [Value.ref _]) _ _ _); k_dflt (first | refine len_snoc (by k_asm) (by k_mem) (by omega) ?_ | refine len_list' (by k_asm) (by k_mem) (by omega) ?_))
  exact trivial

local macro_rules | `(tactic| walk1) => `(tactic| ((with_reducible show wpAny _ _ (exec _ _) _ _ _); k_fold))
local macro_rules | `(tactic| walk1) => `(tactic| ((with_reducible show wpAny _ _ (eval (Expr.Call _ _ _ _) _) _ _ _); k_fold))

local macro_rules | `(tactic| k_mem) => `(tactic| ((repeat (first | with_reducible assumption | exact List.Mem.head _ | refine List.Mem.tail _ ?_)); done))
theorem words9 : True := by
  k_with "call ref" =>
    (k_here; (show wpAny _ _ (call (Value.ref 204) [_]) _ _ _); k_dflt (refine wpAny_call ?_; refine' many_m (G := ⟨_, _, _, _, _, _, _, _, _, _, _⟩) ?hd_w ?B_w ?F_w ?X_w ?T_w ?N_w ?q0_w ?q1_w ?q2_w ?q3_w ?q4_w ?_; (case B_w => k_asm); (case F_w => k_asm); (case X_w => k_asm); (case T_w => k_asm); (case N_w => k_asm); (case q0_w => k_mem); (case q1_w => k_mem); (case q2_w => k_mem); (case q3_w => first | with_reducible assumption | exact rfl); (case q4_w => with_reducible assumption); (case hd_w => (first | decide | (dsimp only; decide) | ((simp only [depth_mark, depth_under_make, depth_under_kw, depth_in1, depth_deeper, depth_caller]); decide) | ((simp only [depth_mark, depth_under_make, depth_under_kw, depth_in1, depth_deeper]); omega))); k_whole); intro h'w tk'w t'w F'w N'w; (try dsimp only))
  k_with "call ref" =>
    (k_here; (show wpAny _ _ (call (Value.ref 211) [_]) _ _ _); k_dflt (refine wpAny_call ?_; refine' top_m (G := ⟨_, _, _, _, _, _, _, _, _, _, _⟩) ?hd_w ?B_w ?F_w ?X_w ?T_w ?N_w ?q0_w ?q1_w ?q2_w ?q3_w ?_; (case B_w => k_asm); (case F_w => k_asm); (case X_w => k_asm); (case T_w => k_asm); (case N_w => k_asm); (case q0_w => k_mem); (case q1_w => k_mem); (case q2_w => k_mem); (case q3_w => with_reducible assumption); (case hd_w => (first | decide | (dsimp only; decide) | ((simp only [depth_mark, depth_under_make, depth_under_kw, depth_in1, depth_deeper, depth_caller]); decide) | ((simp only [depth_mark, depth_under_make, depth_under_kw, depth_in1, depth_deeper]); omega))); k_whole); intro h'w tk'w F'w N'w; (try dsimp only))
  k_with "call ref" =>
    (k_here; (show wpAny _ _ (call (Value.ref 225) [_]) _ _ _); k_dflt (refine wpAny_call ?_; refine' pop_m (G := ⟨_, _, _, _, _, _, _, _, _, _, _⟩) ?hd_w ?B_w ?F_w ?X_w ?T_w ?N_w ?q0_w ?q1_w ?q2_w ?q3_w ?q4_w ?_; (case B_w => k_asm); (case F_w => k_asm); (case X_w => k_asm); (case T_w => k_asm); (case N_w => k_asm); (case q0_w => k_mem); (case q1_w => k_mem); (case q2_w => k_mem); (case q3_w => with_reducible assumption); (case q4_w => k_upd); (case hd_w => (first | decide | (dsimp only; decide) | ((simp only [depth_mark, depth_under_make, depth_under_kw, depth_in1, depth_deeper, depth_caller]); decide) | ((simp only [depth_mark, depth_under_make, depth_under_kw, depth_in1, depth_deeper]); omega))); k_whole); intro h'w tk'w F'w N'w; (try dsimp only [List.nil_append, List.cons_append] at N'w); (try dsimp only))
  k_with "call ref" =>
    (k_here; (show wpAny _ _ (call (Value.ref 169) [_, _]) _ _ _); k_dflt (refine wpAny_call ?_; refine' catch_n (G := ⟨_, _, _, _, _, _, _, _, _, _, _⟩) ?hd_w ?B_w ?F_w ?X_w ?T_w ?N_w ?q0_w ?q1_w ?q2_w ?q3_w ?_; (case B_w => k_asm); (case F_w => k_asm); (case X_w => k_asm); (case T_w => k_asm); (case N_w => k_asm); (case q0_w => first | decide | (dsimp only; decide) | ((simp only [Around.mark_units, units_deeper, units_caller]); decide)); (case q1_w => k_mem); (case q2_w => k_mem); (case q3_w => k_mem); (case hd_w => (first | decide | (dsimp only; decide) | ((simp only [depth_mark, depth_under_make, depth_under_kw, depth_in1, depth_deeper, depth_caller]); decide) | ((simp only [depth_mark, depth_under_make, depth_under_kw, depth_in1, depth_deeper]); omega))); k_whole); intro h'w tk'w F'w N'w; (try dsimp only))
  exact trivial
theorem thrown_n {w : World} {fa L : Addr} {cd : Value} {mg mb : Str → Option Value} {mean : ExcName → Option Value} {h₀ : Heap} {m : Str → Option Value} {s : Shared} {rest : List (Addr × Obj)} {R : Result → Shared → Prop} {FO dF FL RO : Addr} {tm : Tok} {q : Int} {tq : Tok} {va : Addr} {es : List Cell} {n2 n3 nv : Nat} {vi : List Value} {fx fy : List Value}
  (B : Below callerA h₀ [] h₀) (F : Fr h₀ L s.heap m) (X₀ : (hd.heap_39 w.params).In h₀) (T : Top VW (looseW VW LS) mean mg mb h₀)
  (N : News h₀ L s.heap ((FO, instObj 242 dF) :: (dF, dictOf [⟨PyData.keyHash w.params "rows", .str "rows" tm, .ref FL⟩] 1) :: (FL, listOf (fx ++ (refF es).reverse).toArray n2) :: (RO, listOf (fy ++ (refT es).reverse).toArray n3) :: rest))
  (q0 : 0 ≤ q) (hx : fx.length ≤ 9) (hy : fy.length = fx.length) (hc : (fx.length : Int) = q) (he : es.length ≤ 9) (hva : (va, ({ cls := .type "tuple", data := .seq vi.toArray nv } : Obj)) ∈ rest) (hes : Idle w rest es)
  (AP : Apart ((FO, instObj 242 dF) :: (dF, dictOf [⟨PyData.keyHash w.params "rows", .str "rows" tm, .ref FL⟩] 1) :: (FL, listOf (fx ++ (refF es).reverse).toArray n2) :: (RO, listOf (fy ++ (refT es).reverse).toArray n3) :: rest))
  (H : ∀ h' tk' n2' n3', Fr h₀ L h' m → News h₀ L h' ((FO, instObj 242 dF) :: (dF, dictOf [⟨PyData.keyHash w.params "rows", .str "rows" tm, .ref FL⟩] 1) :: (FL, listOf fx.toArray n2') :: (RO, listOf fy.toArray n3') :: rest) → R (.ok (.ret (.bool true))) { s with heap := h', toks := tk' }) :
  codeAny (model Challenge.rw_pc0196_01.row.prog w) (callerA.deeper (lawEnv L fa cd)) (.call (.ref 316) ⟨[.ref FO, .ref RO, .int q tq, .ref va], []⟩) R s := by
  obtain ⟨sh, sg, sd, sk, so⟩ := s
  dsimp only at F N H ⊢
  simp only [Apart, OffAll] at AP
  obtain ⟨⟨q_dF_FO, q_FL_FO, q_RO_FO, z_FO⟩, ⟨q_FL_dF, q_RO_dF, z_dF⟩, ⟨q_RO_FL, z_FL⟩, z_RO, APr⟩ := AP
  have zFL := z_FL
  have hc' : (fy.length : Int) = q := by omega
  have hq9 : q ≤ 999 := by omega
  refine' code_defS0 ?k1 ?k2 ?k3 ?k4 ?k5 ?kA ?k6 ?k7 ?k8 ?k9 ?kB ?_ ?cK ?c2 ?c3 ?c4 ?c5
  (case kA => exact rfl)
  (case k2 => k_asm)
  (case k1 => k_asm)
  (case k3 => k_asm)
  (case k4 => k_asm)
  (case k5 => k_asm)
  (case k6 => k_is)
  (case k7 => k_is)
  (case k8 => k_room)
  (case k9 => first | exact binds_K (by k_in) rfl (by k_is) rfl rfl rfl | exact BindsTo.of_eq rfl)
  (case kB => exact locs rfl)
  (case cK => exact rfl)
  (case c2 => exact rfl)
  (case c3 => exact rfl)
  (case c4 => exact rfl)
  (case c5 => decide)
  intro g L' h' FG F' N' B' X' T' D'
  (try dsimp only)
  (try k_lift B')
  (try k_fold)
  k_steps
  unfold StopAt
  refine while_pop (PopT w FO dF FL RO tm (listOf (fx ++ (refF es).reverse).toArray n2) (rest)) (rest) (fy) refT Cell.t refT_one rfl refT_lens he F' N' hes ?cons1 ?nil1
  case cons1 =>
    intro n h₁ k₁ n₁ e es₂ X hlt h8 hX hXe F₁ N₁ hin
    dsimp only [PopT] at N₁
    have N₂ := news_in N₁ hin.head
    simp only [List.cons_append, List.nil_append] at N₂
    clear N₁ N' F'
    have o1 : Off e.t RO := ⟨z_RO.all _ (hin.head _ (.head _))⟩
    have o2 : Off e.l RO := ⟨z_RO.all _ (hin.head _ (.tail _ (.head _)))⟩
    k_steps
    rotate_left
    refine' PopI.mk (n₁ := _) h8 hXe hin ?pF ?pN
    (case pF => k_asm)
    (case pN => (dsimp only [PopT]; (refine cb_drop (by assumption) ?_; ((repeat (refine List.forall_mem_cons.mpr ⟨by k_mem, ?_⟩)); first | exact List.forall_mem_nil _ | (intro p hp; (repeat (first | exact hp | exact List.mem_append_left _ hp | exact List.mem_append_right _ hp | exact List.mem_append_left _ (List.mem_append_left _ hp) | exact List.mem_append_left _ (List.mem_append_right _ hp) | refine List.Mem.tail _ ?_)); done)))))
    exact hlt
  intro h₁ k₁ n₁ F₁ N₁
  dsimp only [PopT] at N₁
  clear F' N'
  k_steps
  unfold StopAt
  refine while_pop (PopF w _ _ _ _ FO dF FL RO tm _ _) (rest) (fx) refF Cell.f refF_one rfl refF_lens he (by k_asm) (by k_asm) hes ?cons2 ?nil2
  case cons2 =>
    intro n h₂ k₂ n₂ e es₃ X hlt h8 hX hXe F₂ N₂ hin2
    dsimp only [PopF, PopF2] at N₂
    have N₃ := news_in6 N₂ hin2.headF
    simp only [List.cons_append, List.nil_append] at N₃
    clear N₂
    have o1 : Off e.f FL := ⟨zFL.all _ (hin2.headF _ (.head _))⟩
    have o2 : Off e.d FL := ⟨zFL.all _ (hin2.headF _ (.tail _ (.head _)))⟩
    have o3 : Off e.h FL := ⟨zFL.all _ (hin2.headF _ (.tail _ (.tail _ (.head _))))⟩
    have hX1 : X.length ≤ 1000 := by omega
    have hX2 : ((X ++ [Value.ref e.f]).length : Int) = (X.length : Int) + 1 := by simp
    have hX3 : (X.length : Int) + 1 ≤ 999 := by omega
    k_steps
    rotate_left
    refine' PopI.mk (n₁ := _) h8 hXe hin2 ?qF ?qN
    (case qF => k_asm)
    (case qN => (dsimp only [PopF, PopF2]; (refine cb_drop (by assumption) ?_; ((repeat (refine List.forall_mem_cons.mpr ⟨by k_mem, ?_⟩)); first | exact List.forall_mem_nil _ | (intro p hp; (repeat (first | exact hp | exact List.mem_append_left _ hp | exact List.mem_append_right _ hp | exact List.mem_append_left _ (List.mem_append_left _ hp) | exact List.mem_append_left _ (List.mem_append_right _ hp) | refine List.Mem.tail _ ?_)); done)))))
    exact hlt
  intro h₂ k₂ n₂ F₂ N₂
  dsimp only [PopF, PopF2] at N₂
  k_steps
  refine' H  _ _ _ _ ?e0_0 ?e0_1
  (case e0_0 => k_asm)
  (case e0_1 => (refine cb_drop (by assumption) ?_; ((repeat (refine List.forall_mem_cons.mpr ⟨by k_mem, ?_⟩)); first | exact List.forall_mem_nil _ | (intro p hp; (repeat (first | exact hp | exact List.mem_append_left _ hp | exact List.mem_append_right _ hp | exact List.mem_append_left _ (List.mem_append_left _ hp) | exact List.mem_append_left _ (List.mem_append_right _ hp) | refine List.Mem.tail _ ?_)); done))))

theorem thrown_y {w : World} {fa L : Addr} {cd : Value} {mg mb : Str → Option Value} {mean : ExcName → Option Value} {h₀ : Heap} {m : Str → Option Value} {s : Shared} {rest : List (Addr × Obj)} {R : Result → Shared → Prop} {FO dF FL RO : Addr} {tm : Tok} {q : Int} {tq : Tok} {va : Addr} {es : List Cell} {n2 n3 nv : Nat} {vi : List Value} {xs ys : List Value} {f1 d1 h1 t1 l1 c1 r1 st1 : Addr} {u11 u12 u13 u14 u15 u16 u17 u18 ta1 tw1 x1 th tl : Tok} {at1 wo1 K : Int} {v1 : Value} {hs0 ls0 : List Value} {n0 : List Int} {n5 n6 : Nat}
  (B : Below callerA h₀ [] h₀) (F : Fr h₀ L s.heap m) (X₀ : (hd.heap_39 w.params).In h₀) (T : Top VW (looseW VW LS) mean mg mb h₀)
  (N : News h₀ L s.heap ((FO, instObj 242 dF) :: (dF, dictOf [⟨PyData.keyHash w.params "rows", .str "rows" tm, .ref FL⟩] 1) :: (FL, listOf ((xs ++ [Value.ref f1]) ++ (refF es).reverse).toArray n2) :: (RO, listOf ((ys ++ [Value.ref t1]) ++ (refT es).reverse).toArray n3) :: (f1, instObj 172 d1) :: (d1, frD w u11 u12 u13 u14 u15 u16 u17 u18 ta1 tw1 c1 r1 st1 h1 at1 wo1 v1) :: (h1, listOf (hs0 ++ [Value.int K th]).toArray n5) :: (t1, ({ cls := .type "tuple", data := .seq #[.ref l1, .int at1 x1, v1] } : Obj)) :: (l1, listOf (ls0 ++ [Value.int K tl]).toArray n6) :: rest))
  (q0 : 0 ≤ q) (hxs : xs.length ≤ 8) (hys : ys.length = xs.length) (hqx : q ≤ xs.length) (he : es.length ≤ 9) (hva : (va, ({ cls := .type "tuple", data := .seq vi.toArray nv } : Obj)) ∈ rest) (ih : IntsAre hs0 n0) (il : IntsAre ls0 n0) (hlen : n0.length ≤ 8) (hes : Idle w ((f1, instObj 172 d1) :: (d1, frD w u11 u12 u13 u14 u15 u16 u17 u18 ta1 tw1 c1 r1 st1 h1 at1 wo1 v1) :: (h1, listOf (hs0 ++ [Value.int K th]).toArray n5) :: (t1, ({ cls := .type "tuple", data := .seq #[.ref l1, .int at1 x1, v1] } : Obj)) :: (l1, listOf (ls0 ++ [Value.int K tl]).toArray n6) :: rest) es)
  (AP : Apart ((FO, instObj 242 dF) :: (dF, dictOf [⟨PyData.keyHash w.params "rows", .str "rows" tm, .ref FL⟩] 1) :: (FL, listOf ((xs ++ [Value.ref f1]) ++ (refF es).reverse).toArray n2) :: (RO, listOf ((ys ++ [Value.ref t1]) ++ (refT es).reverse).toArray n3) :: (f1, instObj 172 d1) :: (d1, frD w u11 u12 u13 u14 u15 u16 u17 u18 ta1 tw1 c1 r1 st1 h1 at1 wo1 v1) :: (h1, listOf (hs0 ++ [Value.int K th]).toArray n5) :: (t1, ({ cls := .type "tuple", data := .seq #[.ref l1, .int at1 x1, v1] } : Obj)) :: (l1, listOf (ls0 ++ [Value.int K tl]).toArray n6) :: rest))
  (H : ∀ h' tk' n2' n3' n5' t' l' K' K'' ta' x' hs' ls' n0', Fr h₀ L h' m → News h₀ L h' ((FO, instObj 242 dF) :: (dF, dictOf [⟨PyData.keyHash w.params "rows", .str "rows" tm, .ref FL⟩] 1) :: (FL, listOf (xs ++ [Value.ref f1]).toArray n2') :: (RO, listOf (ys ++ [Value.ref t']).toArray n3') :: (f1, instObj 172 d1) :: (d1, frD w u11 u12 u13 u14 u15 u16 u17 u18 ta' tw1 c1 r1 st1 h1 K' wo1 (.ref va)) :: (h1, listOf hs'.toArray n5') :: (t', { cls := .type "tuple", data := .seq #[.ref l', .int K'' x', .ref va] }) :: (l', listOf ls'.toArray 0) :: rest) → OffAll t' ((FO, instObj 242 dF) :: (dF, dictOf [⟨PyData.keyHash w.params "rows", .str "rows" tm, .ref FL⟩] 1) :: (FL, listOf ((xs ++ [Value.ref f1]) ++ (refF es).reverse).toArray n2) :: (f1, instObj 172 d1) :: (d1, frD w u11 u12 u13 u14 u15 u16 u17 u18 ta1 tw1 c1 r1 st1 h1 at1 wo1 v1) :: (h1, listOf (hs0 ++ [Value.int K th]).toArray n5) :: rest) → OffAll l' ((FO, instObj 242 dF) :: (dF, dictOf [⟨PyData.keyHash w.params "rows", .str "rows" tm, .ref FL⟩] 1) :: (FL, listOf ((xs ++ [Value.ref f1]) ++ (refF es).reverse).toArray n2) :: (f1, instObj 172 d1) :: (d1, frD w u11 u12 u13 u14 u15 u16 u17 u18 ta1 tw1 c1 r1 st1 h1 at1 wo1 v1) :: (h1, listOf (hs0 ++ [Value.int K th]).toArray n5) :: rest) → Off l' t' → Off RO t' → Off RO l' → IntsAre hs' n0 → IntsAre ls' n0' → n0' = n0 → K'' = K → K' = K → R (.ok (.ret (.bool true))) { s with heap := h', toks := tk' }) :
  codeAny (model Challenge.rw_pc0196_01.row.prog w) (callerA.deeper (lawEnv L fa cd)) (.call (.ref 316) ⟨[.ref FO, .ref RO, .int q tq, .ref va], []⟩) R s := by
  obtain ⟨sh, sg, sd, sk, so⟩ := s
  dsimp only at F N H ⊢
  have zFL : OffAll FL ((f1, instObj 172 d1) :: (d1, frD w u11 u12 u13 u14 u15 u16 u17 u18 ta1 tw1 c1 r1 st1 h1 at1 wo1 v1) :: (h1, listOf (hs0 ++ [Value.int K th]).toArray n5) :: (t1, ({ cls := .type "tuple", data := .seq #[.ref l1, .int at1 x1, v1] } : Obj)) :: (l1, listOf (ls0 ++ [Value.int K tl]).toArray n6) :: rest) := by
    simp only [Apart, OffAll] at AP ⊢
    exact AP.2.2.1.2
  have zRO : OffAll RO ((f1, instObj 172 d1) :: (d1, frD w u11 u12 u13 u14 u15 u16 u17 u18 ta1 tw1 c1 r1 st1 h1 at1 wo1 v1) :: (h1, listOf (hs0 ++ [Value.int K th]).toArray n5) :: (t1, ({ cls := .type "tuple", data := .seq #[.ref l1, .int at1 x1, v1] } : Obj)) :: (l1, listOf (ls0 ++ [Value.int K tl]).toArray n6) :: rest) := by
    simp only [Apart, OffAll] at AP ⊢
    exact AP.2.2.2.1
  simp only [Apart, OffAll] at AP
  obtain ⟨⟨q_dF_FO, q_FL_FO, q_RO_FO, q_f1_FO, q_d1_FO, q_h1_FO, q_t1_FO, q_l1_FO, z_FO⟩, ⟨q_FL_dF, q_RO_dF, q_f1_dF, q_d1_dF, q_h1_dF, q_t1_dF, q_l1_dF, z_dF⟩, ⟨q_RO_FL, q_f1_FL, q_d1_FL, q_h1_FL, q_t1_FL, q_l1_FL, z_FL⟩, ⟨q_f1_RO, q_d1_RO, q_h1_RO, q_t1_RO, q_l1_RO, z_RO⟩, ⟨q_d1_f1, q_h1_f1, q_t1_f1, q_l1_f1, z_f1⟩, ⟨q_h1_d1, q_t1_d1, q_l1_d1, z_d1⟩, ⟨q_t1_h1, q_l1_h1, z_h1⟩, ⟨q_l1_t1, z_t1⟩, z_l1, APr⟩ := AP
  have ih' := ints_snoc (k := K) (t := th) ih
  have il' := ints_snoc (k := K) (t := tl) il
  have hil := il.length
  have hih := ih.length
  have hne : n0 ++ [K] ≠ [] := by simp
  have hX1 : xs.length ≤ 1000 := by omega
  have hX2 : ((xs ++ [Value.ref f1]).length : Int) = (xs.length : Int) + 1 := by simp
  have hX3 : (xs.length : Int) + 1 ≤ 999 := by omega
  have hY1 : (ys ++ [Value.ref t1]).length = ys.length + 1 := by simp
  have hX4 : (xs ++ [Value.ref f1]).length = xs.length + 1 := by simp
  refine' code_defS0 ?k1 ?k2 ?k3 ?k4 ?k5 ?kA ?k6 ?k7 ?k8 ?k9 ?kB ?_ ?cK ?c2 ?c3 ?c4 ?c5
  (case kA => exact rfl)
  (case k2 => k_asm)
  (case k1 => k_asm)
  (case k3 => k_asm)
  (case k4 => k_asm)
  (case k5 => k_asm)
  (case k6 => k_is)
  (case k7 => k_is)
  (case k8 => k_room)
  (case k9 => first | exact binds_K (by k_in) rfl (by k_is) rfl rfl rfl | exact BindsTo.of_eq rfl)
  (case kB => exact locs rfl)
  (case cK => exact rfl)
  (case c2 => exact rfl)
  (case c3 => exact rfl)
  (case c4 => exact rfl)
  (case c5 => decide)
  intro g L' h' FG F' N' B' X' T' D'
  (try dsimp only)
  (try k_lift B')
  (try k_fold)
  k_steps
  unfold StopAt
  refine while_pop (PopT w FO dF FL RO tm (listOf ((xs ++ [Value.ref f1]) ++ (refF es).reverse).toArray n2) ((f1, instObj 172 d1) :: (d1, frD w u11 u12 u13 u14 u15 u16 u17 u18 ta1 tw1 c1 r1 st1 h1 at1 wo1 v1) :: (h1, listOf (hs0 ++ [Value.int K th]).toArray n5) :: (t1, ({ cls := .type "tuple", data := .seq #[.ref l1, .int at1 x1, v1] } : Obj)) :: (l1, listOf (ls0 ++ [Value.int K tl]).toArray n6) :: rest)) ((f1, instObj 172 d1) :: (d1, frD w u11 u12 u13 u14 u15 u16 u17 u18 ta1 tw1 c1 r1 st1 h1 at1 wo1 v1) :: (h1, listOf (hs0 ++ [Value.int K th]).toArray n5) :: (t1, ({ cls := .type "tuple", data := .seq #[.ref l1, .int at1 x1, v1] } : Obj)) :: (l1, listOf (ls0 ++ [Value.int K tl]).toArray n6) :: rest) (ys ++ [Value.ref t1]) refT Cell.t refT_one rfl refT_lens he F' N' hes ?cons1 ?nil1
  case cons1 =>
    intro n h₁ k₁ n₁ e es₂ X hlt h8 hX hXe F₁ N₁ hin
    dsimp only [PopT] at N₁
    have N₂ := news_in N₁ hin.head
    simp only [List.cons_append, List.nil_append] at N₂
    clear N₁ N' F'
    have o1 : Off e.t RO := ⟨zRO.all _ (hin.head _ (.head _))⟩
    have o2 : Off e.l RO := ⟨zRO.all _ (hin.head _ (.tail _ (.head _)))⟩
    rw [hY1] at hX
    k_steps
    rotate_left
    refine' PopI.mk (n₁ := _) h8 hXe hin ?pF ?pN
    (case pF => k_asm)
    (case pN => (dsimp only [PopT]; (refine cb_drop (by assumption) ?_; ((repeat (refine List.forall_mem_cons.mpr ⟨by k_mem, ?_⟩)); first | exact List.forall_mem_nil _ | (intro p hp; (repeat (first | exact hp | exact List.mem_append_left _ hp | exact List.mem_append_right _ hp | exact List.mem_append_left _ (List.mem_append_left _ hp) | exact List.mem_append_left _ (List.mem_append_right _ hp) | refine List.Mem.tail _ ?_)); done)))))
    exact hlt
  intro h₁ k₁ n₁ F₁ N₁
  dsimp only [PopT] at N₁
  clear F' N'
  k_steps
  unfold StopAt
  refine while_pop (PopF2 w _ _ _ _ _ _ _ _ _ _ FO dF FL RO tm _ _) (_) (xs ++ [Value.ref f1]) refF Cell.f refF_one rfl refF_lens he (by k_asm) (by k_asm) hes ?cons2 ?nil2
  case cons2 =>
    intro n h₂ k₂ n₂ e es₃ X hlt h8 hX hXe F₂ N₂ hin2
    dsimp only [PopF, PopF2] at N₂
    have N₃ := news_in9 N₂ hin2.headF
    simp only [List.cons_append, List.nil_append] at N₃
    clear N₂
    have o1 : Off e.f FL := ⟨zFL.all _ (hin2.headF _ (.head _))⟩
    have o2 : Off e.d FL := ⟨zFL.all _ (hin2.headF _ (.tail _ (.head _)))⟩
    have o3 : Off e.h FL := ⟨zFL.all _ (hin2.headF _ (.tail _ (.tail _ (.head _))))⟩
    rw [hX4] at hX
    have hX1 : X.length ≤ 1000 := by omega
    have hX2 : ((X ++ [Value.ref e.f]).length : Int) = (X.length : Int) + 1 := by simp
    have hX3 : (X.length : Int) + 1 ≤ 999 := by omega
    k_steps
    rotate_left
    refine' PopI.mk (n₁ := _) h8 hXe hin2 ?qF ?qN
    (case qF => k_asm)
    (case qN => (dsimp only [PopF, PopF2]; (refine cb_drop (by assumption) ?_; ((repeat (refine List.forall_mem_cons.mpr ⟨by k_mem, ?_⟩)); first | exact List.forall_mem_nil _ | (intro p hp; (repeat (first | exact hp | exact List.mem_append_left _ hp | exact List.mem_append_right _ hp | exact List.mem_append_left _ (List.mem_append_left _ hp) | exact List.mem_append_left _ (List.mem_append_right _ hp) | refine List.Mem.tail _ ?_)); done)))))
    exact hlt
  intro h₂ k₂ n₂ F₂ N₂
  dsimp only [PopF, PopF2] at N₂
  k_steps
  have hK : (n0 ++ [K]).getD (-1 + (((n0 ++ [K]).length : Nat) : Int)).toNat 0 = K := by
    rw [show (-1 + (((n0 ++ [K]).length : Nat) : Int)).toNat = n0.length by simp; omega]
    simp
  have hT : (n0 ++ [K]).take ((n0 ++ [K]).length - 1) = n0 := by simp
  rw [decide_eq_true (by omega)]
  refine' H  _ _ _ _ _ _ _ _ _ _ _ _ _ _ ?e1_0 ?e1_1 ?e1_2 ?e1_3 ?e1_4 ?e1_5 ?e1_6 ?e1_7 ?e1_8 ?e1_9 ?e1_10 ?e1_11
  (case e1_0 => k_asm)
  (case e1_1 => (refine cb_drop (by assumption) ?_; ((repeat (refine List.forall_mem_cons.mpr ⟨by k_mem, ?_⟩)); first | exact List.forall_mem_nil _ | (intro p hp; (repeat (first | exact hp | exact List.mem_append_left _ hp | exact List.mem_append_right _ hp | exact List.mem_append_left _ (List.mem_append_left _ hp) | exact List.mem_append_left _ (List.mem_append_right _ hp) | refine List.Mem.tail _ ?_)); done))))
  (case e1_2 => first | exact ltOff (by assumption) | exact ltOff (And.right (by assumption)) | first | assumption | exact off_sub (by assumption) (by ((repeat (refine List.forall_mem_cons.mpr ⟨by k_mem, ?_⟩)); first | exact List.forall_mem_nil _ | (intro p hp; (repeat (first | exact hp | exact List.mem_append_left _ hp | exact List.mem_append_right _ hp | exact List.mem_append_left _ (List.mem_append_left _ hp) | exact List.mem_append_left _ (List.mem_append_right _ hp) | refine List.Mem.tail _ ?_)); done))) | exact off_sub2 (by assumption) (by assumption) (by ((repeat (refine List.forall_mem_cons.mpr ⟨by k_mem, ?_⟩)); first | exact List.forall_mem_nil _ | (intro p hp; (repeat (first | exact hp | exact List.mem_append_left _ hp | exact List.mem_append_right _ hp | exact List.mem_append_left _ (List.mem_append_left _ hp) | exact List.mem_append_left _ (List.mem_append_right _ hp) | refine List.Mem.tail _ ?_)); done))) | (simp only [OffAll]; (repeat' (first | exact True.intro | exact ⟨by k_ne⟩ | (first | assumption | exact off_sub (by assumption) (by ((repeat (refine List.forall_mem_cons.mpr ⟨by k_mem, ?_⟩)); first | exact List.forall_mem_nil _ | (intro p hp; (repeat (first | exact hp | exact List.mem_append_left _ hp | exact List.mem_append_right _ hp | exact List.mem_append_left _ (List.mem_append_left _ hp) | exact List.mem_append_left _ (List.mem_append_right _ hp) | refine List.Mem.tail _ ?_)); done))) | exact off_sub2 (by assumption) (by assumption) (by ((repeat (refine List.forall_mem_cons.mpr ⟨by k_mem, ?_⟩)); first | exact List.forall_mem_nil _ | (intro p hp; (repeat (first | exact hp | exact List.mem_append_left _ hp | exact List.mem_append_right _ hp | exact List.mem_append_left _ (List.mem_append_left _ hp) | exact List.mem_append_left _ (List.mem_append_right _ hp) | refine List.Mem.tail _ ?_)); done)))) | refine And.intro ?_ ?_))))
  (case e1_3 => first | exact ltOff (by assumption) | exact ltOff (And.right (by assumption)) | first | assumption | exact off_sub (by assumption) (by ((repeat (refine List.forall_mem_cons.mpr ⟨by k_mem, ?_⟩)); first | exact List.forall_mem_nil _ | (intro p hp; (repeat (first | exact hp | exact List.mem_append_left _ hp | exact List.mem_append_right _ hp | exact List.mem_append_left _ (List.mem_append_left _ hp) | exact List.mem_append_left _ (List.mem_append_right _ hp) | refine List.Mem.tail _ ?_)); done))) | exact off_sub2 (by assumption) (by assumption) (by ((repeat (refine List.forall_mem_cons.mpr ⟨by k_mem, ?_⟩)); first | exact List.forall_mem_nil _ | (intro p hp; (repeat (first | exact hp | exact List.mem_append_left _ hp | exact List.mem_append_right _ hp | exact List.mem_append_left _ (List.mem_append_left _ hp) | exact List.mem_append_left _ (List.mem_append_right _ hp) | refine List.Mem.tail _ ?_)); done))) | (simp only [OffAll]; (repeat' (first | exact True.intro | exact ⟨by k_ne⟩ | (first | assumption | exact off_sub (by assumption) (by ((repeat (refine List.forall_mem_cons.mpr ⟨by k_mem, ?_⟩)); first | exact List.forall_mem_nil _ | (intro p hp; (repeat (first | exact hp | exact List.mem_append_left _ hp | exact List.mem_append_right _ hp | exact List.mem_append_left _ (List.mem_append_left _ hp) | exact List.mem_append_left _ (List.mem_append_right _ hp) | refine List.Mem.tail _ ?_)); done))) | exact off_sub2 (by assumption) (by assumption) (by ((repeat (refine List.forall_mem_cons.mpr ⟨by k_mem, ?_⟩)); first | exact List.forall_mem_nil _ | (intro p hp; (repeat (first | exact hp | exact List.mem_append_left _ hp | exact List.mem_append_right _ hp | exact List.mem_append_left _ (List.mem_append_left _ hp) | exact List.mem_append_left _ (List.mem_append_right _ hp) | refine List.Mem.tail _ ?_)); done)))) | refine And.intro ?_ ?_))))
  (case e1_4 => first | exact ⟨by k_ne⟩ | exact (off_sub (l := [(_, _)]) (by assumption) (by ((repeat (refine List.forall_mem_cons.mpr ⟨by k_mem, ?_⟩)); first | exact List.forall_mem_nil _ | (intro p hp; (repeat (first | exact hp | exact List.mem_append_left _ hp | exact List.mem_append_right _ hp | exact List.mem_append_left _ (List.mem_append_left _ hp) | exact List.mem_append_left _ (List.mem_append_right _ hp) | refine List.Mem.tail _ ?_)); done)))).1)
  (case e1_5 => first | exact ⟨by k_ne⟩ | exact (off_sub (l := [(_, _)]) (by assumption) (by ((repeat (refine List.forall_mem_cons.mpr ⟨by k_mem, ?_⟩)); first | exact List.forall_mem_nil _ | (intro p hp; (repeat (first | exact hp | exact List.mem_append_left _ hp | exact List.mem_append_right _ hp | exact List.mem_append_left _ (List.mem_append_left _ hp) | exact List.mem_append_left _ (List.mem_append_right _ hp) | refine List.Mem.tail _ ?_)); done)))).1)
  (case e1_6 => first | exact ⟨by k_ne⟩ | exact (off_sub (l := [(_, _)]) (by assumption) (by ((repeat (refine List.forall_mem_cons.mpr ⟨by k_mem, ?_⟩)); first | exact List.forall_mem_nil _ | (intro p hp; (repeat (first | exact hp | exact List.mem_append_left _ hp | exact List.mem_append_right _ hp | exact List.mem_append_left _ (List.mem_append_left _ hp) | exact List.mem_append_left _ (List.mem_append_right _ hp) | refine List.Mem.tail _ ?_)); done)))).1)
  (case e1_7 => k_asm)
  (case e1_8 => k_asm)
  (case e1_9 => simp)
  (case e1_10 => exact hK)
  (case e1_11 => exact rfl)

theorem thrown_c {w : World} {fa L : Addr} {cd : Value} {mg mb : Str → Option Value} {mean : ExcName → Option Value} {h₀ : Heap} {m : Str → Option Value} {s : Shared} {rest : List (Addr × Obj)} {R : Result → Shared → Prop} {FO dF FL RO : Addr} {tm : Tok} {q : Int} {tq : Tok} {va : Addr} {es : List Cell} {n2 n3 nv : Nat} {vi : List Value} {fx fy : List Value} {top : List (Addr × Obj)}
  (B : Below callerA h₀ [] h₀) (F : Fr h₀ L s.heap m) (X₀ : (hd.heap_39 w.params).In h₀) (T : Top VW (looseW VW LS) mean mg mb h₀)
  (N : News h₀ L s.heap ((FO, instObj 242 dF) :: (dF, dictOf [⟨PyData.keyHash w.params "rows", .str "rows" tm, .ref FL⟩] 1) :: (FL, listOf (fx ++ (refF es).reverse).toArray n2) :: (RO, listOf (fy ++ (refT es).reverse).toArray n3) :: (top ++ rest)))
  (q0 : 0 ≤ q) (hx : fx.length ≤ 9) (hy : fy.length = fx.length) (hq : q ≤ fx.length) (he : es.length ≤ 9) (hva : (va, ({ cls := .type "tuple", data := .seq vi.toArray nv } : Obj)) ∈ rest) (hcase : (top = [] ∧ (fx.length : Int) = q) ∨ (∃ (xs ys : List Value) (c : Cell), fx = xs ++ [.ref c.f] ∧ fy = ys ++ [.ref c.t] ∧ top = c.objs w ∧ q ≤ xs.length ∧ c.Ok ∧ c.ns ≠ [] ∧ c.ns.length ≤ 9)) (hes : Idle w (top ++ rest) es)
  (AP : Apart ((FO, instObj 242 dF) :: (dF, dictOf [⟨PyData.keyHash w.params "rows", .str "rows" tm, .ref FL⟩] 1) :: (FL, listOf (fx ++ (refF es).reverse).toArray n2) :: (RO, listOf (fy ++ (refT es).reverse).toArray n3) :: (top ++ rest)))
  (H1 : top = [] → ∀ h' tk' n2' n3', Fr h₀ L h' m → News h₀ L h' ((FO, instObj 242 dF) :: (dF, dictOf [⟨PyData.keyHash w.params "rows", .str "rows" tm, .ref FL⟩] 1) :: (FL, listOf fx.toArray n2') :: (RO, listOf fy.toArray n3') :: rest) → R (.ok (.ret (.bool true))) { s with heap := h', toks := tk' })
  (H2 : ∀ (xs ys : List Value) (c : Cell), fx = xs ++ [.ref c.f] → fy = ys ++ [.ref c.t] → top = c.objs w → c.Ok → ∀ h' tk' n2' n3' n5' t' l' K K' ta' x' hs' ls' n0 n0', Fr h₀ L h' m → News h₀ L h' ((FO, instObj 242 dF) :: (dF, dictOf [⟨PyData.keyHash w.params "rows", .str "rows" tm, .ref FL⟩] 1) :: (FL, listOf (xs ++ [Value.ref c.f]).toArray n2') :: (RO, listOf (ys ++ [Value.ref t']).toArray n3') :: (c.f, instObj 172 c.d) :: (c.d, frD w c.u1 c.u2 c.u3 c.u4 c.u5 c.u6 c.u7 c.u8 ta' c.tw c.c c.r c.st c.h K c.wo (.ref va)) :: (c.h, listOf hs'.toArray n5') :: (t', { cls := .type "tuple", data := .seq #[.ref l', .int K' x', .ref va] }) :: (l', listOf ls'.toArray 0) :: rest) → OffAll t' ((FO, instObj 242 dF) :: (dF, dictOf [⟨PyData.keyHash w.params "rows", .str "rows" tm, .ref FL⟩] 1) :: (FL, listOf (fx ++ (refF es).reverse).toArray n2) :: (c.f, instObj 172 c.d) :: (c.d, frD w c.u1 c.u2 c.u3 c.u4 c.u5 c.u6 c.u7 c.u8 c.ta c.tw c.c c.r c.st c.h c.at_ c.wo c.v) :: (c.h, listOf c.hs.toArray c.n1) :: rest) → OffAll l' ((FO, instObj 242 dF) :: (dF, dictOf [⟨PyData.keyHash w.params "rows", .str "rows" tm, .ref FL⟩] 1) :: (FL, listOf (fx ++ (refF es).reverse).toArray n2) :: (c.f, instObj 172 c.d) :: (c.d, frD w c.u1 c.u2 c.u3 c.u4 c.u5 c.u6 c.u7 c.u8 c.ta c.tw c.c c.r c.st c.h c.at_ c.wo c.v) :: (c.h, listOf c.hs.toArray c.n1) :: rest) → Off l' t' → Off RO t' → Off RO l' → IntsAre hs' n0 → IntsAre ls' n0' → n0' = n0 → K' = K → c.ns = n0 ++ [K] → R (.ok (.ret (.bool true))) { s with heap := h', toks := tk' }) :
  codeAny (model Challenge.rw_pc0196_01.row.prog w) (callerA.deeper (lawEnv L fa cd)) (.call (.ref 316) ⟨[.ref FO, .ref RO, .int q tq, .ref va], []⟩) R s := by
  rcases hcase with ⟨rfl, hc⟩ | ⟨xs, ys, c, rfl, rfl, rfl, hqx, hok, hne, hlen⟩
  · rw [List.nil_append] at N AP hes
    exact thrown_n B F X₀ T N q0 hx hy hc he hva hes AP (H1 rfl)
  · obtain ⟨n0, K, hs0, ls0, th, tl, en, eh, el, ih, il⟩ := hok.last hne
    have H2' := H2 xs ys c rfl rfl rfl hok
    clear H1 H2 hok hne
    obtain ⟨f1, d1, h1, t1, l1, c1, r1, st1, u11, u12, u13, u14, u15, u16, u17, u18, ta1, tw1, x1, at1, wo1, v1, hs, ls, ns, n5, n6⟩ := c
    dsimp only at en eh el hlen H2'
    subst en eh el
    simp only [Cell.objs, List.cons_append, List.nil_append] at N hes AP
    simp only [List.length_append, List.length_cons, List.length_nil] at hx hy hlen
    refine thrown_y B F X₀ T N q0 (by omega) (by omega) hqx he hva ih il (by omega) hes AP ?_
    intro h' tk' n2' n3' n5' t' l' K' K'' ta' x' hs' ls' n0' F' N' o1 o2 o3 o4 o5 i1 i2 e1 e2 e3
    subst e1 e2 e3
    exact H2' h' tk' n2' n3' n5' t' l' _ _ ta' x' hs' ls' _ _ F' N' o1 o2 o3 o4 o5 i1 i2 rfl rfl rfl
end
section
theorem words10 : True := by
  w_top off
  k_with_none
  k_with "callWith ref" =>
    (k_here; (with_reducible show wpAny _ _ (callWith _ _ _ (backTo _ (starEach [] _)) []) _ _ _); k_dflt (refine' callWith_K0 ?k1_w ?k2_w ?_; (case k1_w => (refine' in_keeps ?F_w ?X_w; (case F_w => with_reducible assumption); (case X_w => with_reducible assumption))); (case k2_w => k_is); k_whole; (try dsimp only [List.nil_append, List.cons_append])))
  k_with "call ref nil" =>
    (k_here; dsimp only [List.cons_append, List.nil_append])
  k_with "call type:tuple" =>
    (k_here; (with_reducible show wpAny _ _ (call (Value.type _) [Value.ref _]) _ _ _); k_dflt (first | (refine' tuple_same_N ?N_w ?m_w ?_; (case N_w => k_asm); (case m_w => k_mem); k_whole) | (refine' tuple_same_K ?F_w ?X_w ?l_w ?_; (case F_w => k_asm); (case X_w => k_asm); (case l_w => k_is); k_whole)))
  k_with "CompSrc" =>
    (k_here; k_dflt (first
  | refine LCg.CompSrc.range (by rfl) (by k_asm) (by k_asm) (by assumption) (by first | exact small_one (by omega) (by omega) (by omega) (by omega) | decide) (by first | exact rangeSize_nat _ _ | rfl) (by rw [PySem.sizeLine_eq]; omega) ?_
  | refine LCg.CompSrc.ledger (by rfl) (by k_asm) (by k_asm) (by k_mem) (by first | exact ks_size (by assumption) (by omega) | (rw [PySem.sizeLine_eq]; (simp only [List.size_toArray, List.length_append, List.length_cons, List.length_nil]); omega)) ?_); intro g'w; refine StopAt.go ?_)
  k_with "CompEnd" =>
    (k_here; k_dflt (first | refine compEnd_none (by k_asm) (by k_asm) (by assumption) (by first | exact True.intro | lcg_src) ?_ | refine compEnd_one (by k_asm) (by k_asm) (by assumption) (by k_ne) (by k_ne) (by k_ne) (by first | exact True.intro | lcg_src) ?_); refine StopAt.go ?_)
  k_with "binaryOp Mult ref int" =>
    (k_here; (with_reducible show wpAny _ _ (binaryOp Operator.Mult (Value.ref _) (Value.int _ _)) _ _ _); k_dflt (refine' mul_two ?F_w ?N_w ?m_w ?e_w ?_; (case F_w => k_asm); (case N_w => k_asm); (case m_w => k_mem); (case e_w => first | rfl | exact room_is _ | ((try simp only [List.size_toArray]); split <;> omega)); k_whole); intro D'w h'w F'w N'w l1w; (try k_lt l1w); (try k_sweep))
  k_with "subscriptTail" =>
    (k_here; (with_reducible show wpAny _ _ (subscriptTail _ _ (Value.ref _) (Value.int (-1) _)) _ _ _); (with_unfolding_all refine item_last (by assumption) (by k_mem) (by omega) ?_))
  k_with "setItem ref int" =>
    (k_here; (with_reducible show wpAny _ _ (setItem (Value.ref _) (Value.int (-1) _) _) _ _ _); k_dflt (refine' set_last ?F_w ?N_w ?m_w ?U_w ?z_w ?_; (case F_w => k_asm); (case N_w => k_asm); (case m_w => k_mem); (case U_w => k_upd); (case z_w => omega)); (intro h'w F'w N'w; (try dsimp only [List.nil_append, List.cons_append] at N'w)))
  k_with "call builtin:list.pop" =>
    (k_here; (with_reducible show wpAny _ _ (call (Value.builtin _) [Value.ref _]) _ _ _); k_dflt (refine' pop_last ?F_w ?N_w ?m_w ?U_w ?z_w ?_; (case F_w => k_asm); (case N_w => k_asm); (case m_w => k_mem); (case U_w => k_upd); (case z_w => omega)); (intro h'w F'w N'w; (try dsimp only [List.nil_append, List.cons_append] at N'w)))
  k_with "call ref" =>
    (k_here; (show wpAny _ _ (call (Value.ref 52) [Value.str _ _]) _ _ _); k_dflt (refine' fault_K ?F_w ?N_w ?X_w ?hh_w ?d_w ?u_w ?_; (case F_w => k_asm); (case N_w => k_asm); (case X_w => k_asm); (case hh_w => rfl); (case d_w => (simp only [depth_deeper, depth_caller]; decide)); (case u_w => (simp only [units_deeper, units_caller]; decide)); intro h'w tk'w e'w t'w de'w F'w N'w l1w; (have l2 := l1w); (try simp only [OffAll, and_true] at l2); (repeat (rcases l2 with ⟨_, l2⟩)); (try k_sweep)))
  k_with "call ref" =>
    (k_here; (show wpAny _ _ (call (Value.ref 71) [Value.ref _]) _ _ _); k_dflt (refine' thrown_K ?F_w ?N_w ?X_w ?hh_w ?d_w ?u_w ?_; (case F_w => k_asm); (case N_w => k_asm); (case X_w => k_asm); (case hh_w => rfl); (case d_w => (simp only [depth_deeper, depth_caller]; decide)); (case u_w => (simp only [units_deeper, units_caller]; decide)); intro h'w tk'w e'w t'w de'w k1'w k2'w k3'w t1'w t2'w t3'w mv'w F'w N'w l1w l2w l3w; (try simp only [OffAll, and_true] at l1w l2w); (repeat (rcases l1w with ⟨_, l1w⟩)); (repeat (rcases l2w with ⟨_, l2w⟩)); (try k_sweep)))
  k_with "exec Raise some none" =>
    (k_here; k_dflt (refine' Raise_own ?X_w ?hh_w ?_; (case X_w => k_asm); (case hh_w => rfl)))
  k_with "RaiseQ" =>
    (k_here; k_dflt (refine' raiseQ_K ?F_w ?N_w ?X_w ?q_w ?m_w ?_; (case F_w => k_asm); (case N_w => k_asm); (case X_w => k_asm); (case m_w => k_mem); (case q_w => kts_isx); k_whole))
  k_with "leaving ref" =>
    (k_here; k_dflt (first
  | (refine' leave_raiseD ?K_w ?F_w ?N_w ?m_w ?s_w ?_; (case F_w => k_asm); (case N_w => k_asm); (case K_w => k_asm); (case m_w => k_mem); (case s_w => first | exact off_e (by assumption) | exact off_e (by (simp only [OffAll]; (repeat' (first | assumption | exact True.intro | exact ⟨by k_ne⟩ | refine And.intro ?_ ?_)); done))); k_whole)
  | (refine' leave_onD ?K_w ?F_w ?R_w ?U_w ?_; (case R_w => k_asm); (case F_w => k_asm); (case K_w => k_asm); (case U_w => k_asm); k_whole)); intro h'w R'w U'w; (try dsimp only at R'w U'w ⊢))
  k_with "noteFrame ref" =>
    (k_here; k_dflt (first
  | ((with_reducible show wpAny _ _ (noteFrame _ _) (fun _ s₂ => wpAny _ _ (setFlight _ none) (fun _ s₃ => wpAny _ _ (handleBy _ _ (ExceptHandler.ExceptHandler (some (Expr.Name _ _)) (some _) _ _ :: _)) _ _ s₃) _ s₂) _ _); refine' caught_DB ?R_w ?F_w ?K_w ?U_w ?XB_w ?TB_w ?D_w ?T0_w ?ex_w ?q_w ?_; (case R_w => k_asm); (case F_w => k_asm); (case K_w => k_asm); (case U_w => k_asm); (case XB_w => k_asm); (case TB_w => k_asm); (case D_w => k_asm); (case T0_w => first | k_asm | exact KtsTurn.refl); (case ex_w => k_is); (case q_w => kts_isx); k_whole; intro h'w g'w ws'w tk'w T'w F'w N'w K'w X'w P'w D'w)
  | ((with_reducible show wpAny _ _ (noteFrame _ _) (fun _ s₂ => wpAny _ _ (setFlight _ none) (fun _ s₃ => wpAny _ _ (handleBy _ _ (ExceptHandler.ExceptHandler (some (Expr.Name _ _)) none _ _ :: _)) _ _ s₃) _ s₂) _ _); refine' caught_D0 ?R_w ?F_w ?K_w ?U_w ?XB_w ?TB_w ?D_w ?T0_w ?ex_w ?q_w ?_; (case R_w => k_asm); (case F_w => k_asm); (case K_w => k_asm); (case U_w => k_asm); (case XB_w => k_asm); (case TB_w => k_asm); (case D_w => k_asm); (case T0_w => first | k_asm | exact KtsTurn.refl); (case ex_w => k_is); (case q_w => kts_isx); k_whole; intro h'w g'w ws'w T'w F'w N'w K'w X'w P'w D'w)
  | ((with_reducible show wpAny _ _ (noteFrame _ _) (fun _ s₂ => wpAny _ _ (setFlight _ none) (fun _ s₃ => wpAny _ _ (handleBy _ _ (ExceptHandler.ExceptHandler (some (Expr.Name _ _)) none _ _ :: _)) _ _ s₃) _ s₂) _ _); refine' caught_D0C ?R_w ?F_w ?K_w ?U_w ?XB_w ?TB_w ?D_w ?T0_w ?ex_w ?q_w ?_; (case R_w => k_asm); (case F_w => k_asm); (case K_w => k_asm); (case U_w => k_asm); (case XB_w => k_asm); (case TB_w => k_asm); (case D_w => k_asm); (case T0_w => first | k_asm | exact KtsTurn.refl); (case ex_w => k_is); (case q_w => kts_isx); k_whole; intro h'w g'w ws'w T'w F'w N'w K'w X'w P'w D'w)); (try k_lift K'w); (try k_sweep))
  k_with "getAttr ref" =>
    (k_here; (with_reducible show wpAny _ _ (getAttr (Value.ref _) (PySem.Str.ofString "value") _) _ _ _); k_dflt (refine' value_K ?F_w ?N_w ?X_w ?he_w ?hd_w ?d_w ?u_w ?_; (case F_w => k_asm); (case N_w => k_asm); (case X_w => k_asm); (case he_w => k_mem); (case hd_w => k_mem); (case d_w => (simp only [depth_mark, depth_deeper, depth_caller]; decide)); (case u_w => (simp only [Around.mark_units, units_deeper, units_caller]; decide)); intro tk'w))
  exact trivial
theorem words11 : True := by
  k_with "call builtin:len" =>
    (k_here; (with_reducible show wpAny _ _ (call (Value.builtin _) [Value.ref _]) _ _ _); k_dflt (refine' len_news ?N_w ?m_w ?z_w ?_; (case N_w => k_asm); (case m_w => k_mem); (case z_w => (simp only [List.size_toArray, List.length_append, List.length_cons, List.length_nil]; omega)); k_whole))
  k_with "call type:list" =>
    (k_here; (with_reducible show wpAny _ _ (call (Value.type _) [Value.ref _]) _ _ _); k_dflt (refine' copy_abs ?F_w ?N_w ?m_w ?z_w ?_; (case F_w => k_asm); (case N_w => k_asm); (case m_w => k_mem); (case z_w => (simp only [List.size_toArray, List.length_append, List.length_cons, List.length_nil]; omega)); k_whole); intro D'w c'w h'w F'w N'w l1w; (try k_lt l1w); (try k_sweep))
  k_with "binaryOp Add ref ref" =>
    (k_here; (with_reducible show wpAny _ _ (binaryOp _ (Value.ref _) (Value.ref _)) _ _ _); k_dflt (refine' add_abs ?F_w ?N_w ?a_w ?b_w ?z_w ?_; (case F_w => k_asm); (case N_w => k_asm); (case a_w => k_mem); (case b_w => k_mem); (case z_w => (simp only [List.length_append, List.length_cons, List.length_nil]; omega)); k_whole); intro D'w h'w F'w N'w l1w; (try k_lt l1w); (try k_sweep))
  exact trivial

local macro_rules | `(tactic| k_room) => `(tactic| ((simp only [depth_mark, depth_under_make, depth_under_kw, depth_in1, depth_deeper]); omega))
theorem new_c {w : World} {G : Gr} {base : Heap} {L : Addr} {mg mb : Str → Option Value} {mean : ExcName → Option Value} {h₀ : Heap} {m : Str → Option Value} {s : Shared} {rest : List (Addr × Obj)} {R : Result → Shared → Prop} {a k : Int} {ta tk : Tok}
  (hd : G.d + 20 < recursionLimit) (B : Below G.A base G.outer h₀) (F : Fr h₀ L s.heap m) (X₀ : (Mine.hd.heap_39 w.params).In h₀) (T : Top VW (looseW VW LS) mean mg mb h₀)
  (N : News h₀ L s.heap (rest))
  (h0 : 0 ≤ a) (h8 : a ≤ 8) (k1 : 1 ≤ k) (k3 : k ≤ 3)
  (H : ∀ h' tk' f1 d1 h1 r1 c1 st1 u11 u12 u13 u14 u15 u16 u17 u18 ta1 tw1 wo1 ps, Fr h₀ L h' m → News h₀ L h' ((f1, instObj 172 d1) :: (d1, frD w u11 u12 u13 u14 u15 u16 u17 u18 ta1 tw1 c1 r1 st1 h1 0 wo1 Value.none) :: (h1, listOf #[] 0) :: (r1, listOf (refs ps ++ [Value.none, Value.none]).toArray 0) :: (rest ++ tupObjs (10 * a) 0 ps)) → OffAll f1 (rest ++ tupObjs (10 * a) 0 ps) → OffAll d1 (rest ++ tupObjs (10 * a) 0 ps) → OffAll h1 (rest ++ tupObjs (10 * a) 0 ps) → OffAll r1 (rest ++ tupObjs (10 * a) 0 ps) → Apart ((f1, instObj 172 d1) :: (d1, frD w u11 u12 u13 u14 u15 u16 u17 u18 ta1 tw1 c1 r1 st1 h1 0 wo1 Value.none) :: (h1, listOf #[] 0) :: (r1, listOf (refs ps ++ [Value.none, Value.none]).toArray 0) :: []) → wo1 = 3 + a → ((ps.length : Nat) : Int) = k → (∀ p ∈ ps, ∀ q ∈ rest, q.1 ≠ p.1) → R (.ok (.ret (.ref f1))) { s with heap := h', toks := tk' }) :
  codeAny (model Challenge.rw_pc0196_01.row.prog w) (G.A.deeper (G.env L)) (.call (.ref 297) ⟨[.int a ta, .int k tk], []⟩) R s := by
  k_enter
  k_steps
  unfold StopAt
  refine compRest_ind (TupTurn (10 * a) _) ?step ?last _ _ _ _ (Nat.zero_add _) (TupTurn.zeroS _ (List.Sublist.cons _ (List.Sublist.cons_cons _ (List.Sublist.cons_cons _ (List.Sublist.cons _ (List.Sublist.cons _ (List.Sublist.cons_cons _ (List.Sublist.refl _))))))))
  case step =>
    intro i ys news' hi hG v I oI C oC D m₂ h₁ tk₁ E' hv hC hx F₁ N₁ off ne
    refine hide fun GG back => ?_
    obtain ⟨t9, rfl⟩ := hv
    have hG' := hG
    obtain ⟨ps, hlen, hys, hsub, hobj, hfr⟩ := hG
    have N₂ := news_both N₁ hsub
    have off₂ := off3_both off hsub
    simp only [List.cons_append] at N₂
    clear N₁ off
    refine back ?_
    clear back GG
    k_steps
    rename_i hA9 l9
    unfold StopAt
    exact TupTurn.next hG' (by omega) (lt_left hA9)
  intro ys news' hG
  refine hide fun GG back => ?_
  obtain ⟨ps, hlen, hys, hsub, hobj, hfr⟩ := hG
  have hyl : (ys.length : Int) = k := by rw [hys, refs, List.length_map, hlen]; omega
  subst hys
  refine back ?_
  clear back GG
  unfold LCg.FinE
  intro D h₂ tk₂ F₂ N₂ o₂
  have N₃ := fin_news N₂ hsub hobj
  simp only [List.cons_append] at N₃
  clear N₂ o₂ hobj
  have hpl : ((ps.length : Nat) : Int) = k := by omega
  have hfr' : ∀ p ∈ ps, ∀ q ∈ rest, q.1 ≠ p.1 := fun p hp q hq => hfr p hp q (by (repeat (first | exact hq | refine List.Mem.tail _ ?_)))
  k_steps
  refine' H  _ _ _ _ _ _ _ _ _ _ _ _ _ _ _ _ _ _ _ _ ?e0_0 ?e0_1 ?e0_2 ?e0_3 ?e0_4 ?e0_5 ?e0_6 ?e0_7 ?e0_8 ?e0_9
  (case e0_0 => k_asm)
  (case e0_1 => (refine cb_drop (by assumption) ?_; ((repeat (refine List.forall_mem_cons.mpr ⟨by k_mem, ?_⟩)); first | exact List.forall_mem_nil _ | (intro p hp; (repeat (first | exact hp | exact List.mem_append_left _ hp | exact List.mem_append_right _ hp | exact List.mem_append_left _ (List.mem_append_left _ hp) | exact List.mem_append_left _ (List.mem_append_right _ hp) | refine List.Mem.tail _ ?_)); done))))
  (case e0_2 => first | exact ltOff (by assumption) | exact ltOff (And.right (by assumption)) | first | assumption | exact off_sub (by assumption) (by ((repeat (refine List.forall_mem_cons.mpr ⟨by k_mem, ?_⟩)); first | exact List.forall_mem_nil _ | (intro p hp; (repeat (first | exact hp | exact List.mem_append_left _ hp | exact List.mem_append_right _ hp | exact List.mem_append_left _ (List.mem_append_left _ hp) | exact List.mem_append_left _ (List.mem_append_right _ hp) | refine List.Mem.tail _ ?_)); done))) | exact off_sub2 (by assumption) (by assumption) (by ((repeat (refine List.forall_mem_cons.mpr ⟨by k_mem, ?_⟩)); first | exact List.forall_mem_nil _ | (intro p hp; (repeat (first | exact hp | exact List.mem_append_left _ hp | exact List.mem_append_right _ hp | exact List.mem_append_left _ (List.mem_append_left _ hp) | exact List.mem_append_left _ (List.mem_append_right _ hp) | refine List.Mem.tail _ ?_)); done))) | (simp only [OffAll]; (repeat' (first | exact True.intro | exact ⟨by k_ne⟩ | (first | assumption | exact off_sub (by assumption) (by ((repeat (refine List.forall_mem_cons.mpr ⟨by k_mem, ?_⟩)); first | exact List.forall_mem_nil _ | (intro p hp; (repeat (first | exact hp | exact List.mem_append_left _ hp | exact List.mem_append_right _ hp | exact List.mem_append_left _ (List.mem_append_left _ hp) | exact List.mem_append_left _ (List.mem_append_right _ hp) | refine List.Mem.tail _ ?_)); done))) | exact off_sub2 (by assumption) (by assumption) (by ((repeat (refine List.forall_mem_cons.mpr ⟨by k_mem, ?_⟩)); first | exact List.forall_mem_nil _ | (intro p hp; (repeat (first | exact hp | exact List.mem_append_left _ hp | exact List.mem_append_right _ hp | exact List.mem_append_left _ (List.mem_append_left _ hp) | exact List.mem_append_left _ (List.mem_append_right _ hp) | refine List.Mem.tail _ ?_)); done)))) | refine And.intro ?_ ?_))))
  (case e0_3 => first | exact ltOff (by assumption) | exact ltOff (And.right (by assumption)) | first | assumption | exact off_sub (by assumption) (by ((repeat (refine List.forall_mem_cons.mpr ⟨by k_mem, ?_⟩)); first | exact List.forall_mem_nil _ | (intro p hp; (repeat (first | exact hp | exact List.mem_append_left _ hp | exact List.mem_append_right _ hp | exact List.mem_append_left _ (List.mem_append_left _ hp) | exact List.mem_append_left _ (List.mem_append_right _ hp) | refine List.Mem.tail _ ?_)); done))) | exact off_sub2 (by assumption) (by assumption) (by ((repeat (refine List.forall_mem_cons.mpr ⟨by k_mem, ?_⟩)); first | exact List.forall_mem_nil _ | (intro p hp; (repeat (first | exact hp | exact List.mem_append_left _ hp | exact List.mem_append_right _ hp | exact List.mem_append_left _ (List.mem_append_left _ hp) | exact List.mem_append_left _ (List.mem_append_right _ hp) | refine List.Mem.tail _ ?_)); done))) | (simp only [OffAll]; (repeat' (first | exact True.intro | exact ⟨by k_ne⟩ | (first | assumption | exact off_sub (by assumption) (by ((repeat (refine List.forall_mem_cons.mpr ⟨by k_mem, ?_⟩)); first | exact List.forall_mem_nil _ | (intro p hp; (repeat (first | exact hp | exact List.mem_append_left _ hp | exact List.mem_append_right _ hp | exact List.mem_append_left _ (List.mem_append_left _ hp) | exact List.mem_append_left _ (List.mem_append_right _ hp) | refine List.Mem.tail _ ?_)); done))) | exact off_sub2 (by assumption) (by assumption) (by ((repeat (refine List.forall_mem_cons.mpr ⟨by k_mem, ?_⟩)); first | exact List.forall_mem_nil _ | (intro p hp; (repeat (first | exact hp | exact List.mem_append_left _ hp | exact List.mem_append_right _ hp | exact List.mem_append_left _ (List.mem_append_left _ hp) | exact List.mem_append_left _ (List.mem_append_right _ hp) | refine List.Mem.tail _ ?_)); done)))) | refine And.intro ?_ ?_))))
  (case e0_4 => first | exact ltOff (by assumption) | exact ltOff (And.right (by assumption)) | first | assumption | exact off_sub (by assumption) (by ((repeat (refine List.forall_mem_cons.mpr ⟨by k_mem, ?_⟩)); first | exact List.forall_mem_nil _ | (intro p hp; (repeat (first | exact hp | exact List.mem_append_left _ hp | exact List.mem_append_right _ hp | exact List.mem_append_left _ (List.mem_append_left _ hp) | exact List.mem_append_left _ (List.mem_append_right _ hp) | refine List.Mem.tail _ ?_)); done))) | exact off_sub2 (by assumption) (by assumption) (by ((repeat (refine List.forall_mem_cons.mpr ⟨by k_mem, ?_⟩)); first | exact List.forall_mem_nil _ | (intro p hp; (repeat (first | exact hp | exact List.mem_append_left _ hp | exact List.mem_append_right _ hp | exact List.mem_append_left _ (List.mem_append_left _ hp) | exact List.mem_append_left _ (List.mem_append_right _ hp) | refine List.Mem.tail _ ?_)); done))) | (simp only [OffAll]; (repeat' (first | exact True.intro | exact ⟨by k_ne⟩ | (first | assumption | exact off_sub (by assumption) (by ((repeat (refine List.forall_mem_cons.mpr ⟨by k_mem, ?_⟩)); first | exact List.forall_mem_nil _ | (intro p hp; (repeat (first | exact hp | exact List.mem_append_left _ hp | exact List.mem_append_right _ hp | exact List.mem_append_left _ (List.mem_append_left _ hp) | exact List.mem_append_left _ (List.mem_append_right _ hp) | refine List.Mem.tail _ ?_)); done))) | exact off_sub2 (by assumption) (by assumption) (by ((repeat (refine List.forall_mem_cons.mpr ⟨by k_mem, ?_⟩)); first | exact List.forall_mem_nil _ | (intro p hp; (repeat (first | exact hp | exact List.mem_append_left _ hp | exact List.mem_append_right _ hp | exact List.mem_append_left _ (List.mem_append_left _ hp) | exact List.mem_append_left _ (List.mem_append_right _ hp) | refine List.Mem.tail _ ?_)); done)))) | refine And.intro ?_ ?_))))
  (case e0_5 => first | exact ltOff (by assumption) | exact ltOff (And.right (by assumption)) | first | assumption | exact off_sub (by assumption) (by ((repeat (refine List.forall_mem_cons.mpr ⟨by k_mem, ?_⟩)); first | exact List.forall_mem_nil _ | (intro p hp; (repeat (first | exact hp | exact List.mem_append_left _ hp | exact List.mem_append_right _ hp | exact List.mem_append_left _ (List.mem_append_left _ hp) | exact List.mem_append_left _ (List.mem_append_right _ hp) | refine List.Mem.tail _ ?_)); done))) | exact off_sub2 (by assumption) (by assumption) (by ((repeat (refine List.forall_mem_cons.mpr ⟨by k_mem, ?_⟩)); first | exact List.forall_mem_nil _ | (intro p hp; (repeat (first | exact hp | exact List.mem_append_left _ hp | exact List.mem_append_right _ hp | exact List.mem_append_left _ (List.mem_append_left _ hp) | exact List.mem_append_left _ (List.mem_append_right _ hp) | refine List.Mem.tail _ ?_)); done))) | (simp only [OffAll]; (repeat' (first | exact True.intro | exact ⟨by k_ne⟩ | (first | assumption | exact off_sub (by assumption) (by ((repeat (refine List.forall_mem_cons.mpr ⟨by k_mem, ?_⟩)); first | exact List.forall_mem_nil _ | (intro p hp; (repeat (first | exact hp | exact List.mem_append_left _ hp | exact List.mem_append_right _ hp | exact List.mem_append_left _ (List.mem_append_left _ hp) | exact List.mem_append_left _ (List.mem_append_right _ hp) | refine List.Mem.tail _ ?_)); done))) | exact off_sub2 (by assumption) (by assumption) (by ((repeat (refine List.forall_mem_cons.mpr ⟨by k_mem, ?_⟩)); first | exact List.forall_mem_nil _ | (intro p hp; (repeat (first | exact hp | exact List.mem_append_left _ hp | exact List.mem_append_right _ hp | exact List.mem_append_left _ (List.mem_append_left _ hp) | exact List.mem_append_left _ (List.mem_append_right _ hp) | refine List.Mem.tail _ ?_)); done)))) | refine And.intro ?_ ?_))))
  (case e0_6 => (simp only [Apart, OffAll]; (repeat' (first | exact True.intro | exact ⟨by k_ne⟩ | refine And.intro ?_ ?_))))
  (case e0_7 => omega)
  (case e0_8 => k_asm)
  (case e0_9 => k_asm)
end
section
theorem words12 : True := by
  w_top off
  k_with_none
  k_with "callWith ref" =>
    (k_here; (with_reducible show wpAny _ _ (callWith _ _ _ (backTo _ (starEach [] _)) []) _ _ _); k_dflt (refine' callWith_K0 ?k1_w ?k2_w ?_; (case k1_w => (refine' in_keeps ?F_w ?X_w; (case F_w => with_reducible assumption); (case X_w => with_reducible assumption))); (case k2_w => k_is); k_whole; (try dsimp only [List.nil_append, List.cons_append])))
  k_with "call ref nil" =>
    (k_here; dsimp only [List.cons_append, List.nil_append])
  k_with "call type:tuple" =>
    (k_here; (with_reducible show wpAny _ _ (call (Value.type _) [Value.ref _]) _ _ _); k_dflt (first | (refine' tuple_same_N ?N_w ?m_w ?_; (case N_w => k_asm); (case m_w => k_mem); k_whole) | (refine' tuple_same_K ?F_w ?X_w ?l_w ?_; (case F_w => k_asm); (case X_w => k_asm); (case l_w => k_is); k_whole)))
  k_with "CompSrc" =>
    (k_here; k_dflt (first
  | refine LCg.CompSrc.range (by rfl) (by k_asm) (by k_asm) (by assumption) (by first | exact small_one (by omega) (by omega) (by omega) (by omega) | decide) (by first | exact rangeSize_nat _ _ | rfl) (by rw [PySem.sizeLine_eq]; omega) ?_
  | refine LCg.CompSrc.ledger (by rfl) (by k_asm) (by k_asm) (by k_mem) (by first | exact ks_size (by assumption) (by omega) | (rw [PySem.sizeLine_eq]; (simp only [List.size_toArray, List.length_append, List.length_cons, List.length_nil]); omega)) ?_); intro g'w; refine StopAt.go ?_)
  k_with "CompEnd" =>
    (k_here; k_dflt (first | refine compEnd_none (by k_asm) (by k_asm) (by assumption) (by first | exact True.intro | lcg_src) ?_ | refine compEnd_one (by k_asm) (by k_asm) (by assumption) (by k_ne) (by k_ne) (by k_ne) (by first | exact True.intro | lcg_src) ?_); refine StopAt.go ?_)
  k_with "binaryOp Mult ref int" =>
    (k_here; (with_reducible show wpAny _ _ (binaryOp Operator.Mult (Value.ref _) (Value.int _ _)) _ _ _); k_dflt (refine' mul_two ?F_w ?N_w ?m_w ?e_w ?_; (case F_w => k_asm); (case N_w => k_asm); (case m_w => k_mem); (case e_w => first | rfl | exact room_is _ | ((try simp only [List.size_toArray]); split <;> omega)); k_whole); intro D'w h'w F'w N'w l1w; (try k_lt l1w); (try k_sweep))
  k_with "subscriptTail" =>
    (k_here; (with_reducible show wpAny _ _ (subscriptTail _ _ (Value.ref _) (Value.int (-1) _)) _ _ _); (with_unfolding_all refine item_last (by assumption) (by k_mem) (by omega) ?_))
  k_with "setItem ref int" =>
    (k_here; (with_reducible show wpAny _ _ (setItem (Value.ref _) (Value.int (-1) _) _) _ _ _); k_dflt (refine' set_last ?F_w ?N_w ?m_w ?U_w ?z_w ?_; (case F_w => k_asm); (case N_w => k_asm); (case m_w => k_mem); (case U_w => k_upd); (case z_w => omega)); (intro h'w F'w N'w; (try dsimp only [List.nil_append, List.cons_append] at N'w)))
  k_with "call builtin:list.pop" =>
    (k_here; (with_reducible show wpAny _ _ (call (Value.builtin _) [Value.ref _]) _ _ _); k_dflt (refine' pop_last ?F_w ?N_w ?m_w ?U_w ?z_w ?_; (case F_w => k_asm); (case N_w => k_asm); (case m_w => k_mem); (case U_w => k_upd); (case z_w => omega)); (intro h'w F'w N'w; (try dsimp only [List.nil_append, List.cons_append] at N'w)))
  k_with "call ref" =>
    (k_here; (show wpAny _ _ (call (Value.ref 52) [Value.str _ _]) _ _ _); k_dflt (refine' fault_K ?F_w ?N_w ?X_w ?hh_w ?d_w ?u_w ?_; (case F_w => k_asm); (case N_w => k_asm); (case X_w => k_asm); (case hh_w => rfl); (case d_w => (simp only [depth_deeper, depth_caller]; decide)); (case u_w => (simp only [units_deeper, units_caller]; decide)); intro h'w tk'w e'w t'w de'w F'w N'w l1w; (have l2 := l1w); (try simp only [OffAll, and_true] at l2); (repeat (rcases l2 with ⟨_, l2⟩)); (try k_sweep)))
  k_with "call ref" =>
    (k_here; (show wpAny _ _ (call (Value.ref 71) [Value.ref _]) _ _ _); k_dflt (refine' thrown_K ?F_w ?N_w ?X_w ?hh_w ?d_w ?u_w ?_; (case F_w => k_asm); (case N_w => k_asm); (case X_w => k_asm); (case hh_w => rfl); (case d_w => (simp only [depth_deeper, depth_caller]; decide)); (case u_w => (simp only [units_deeper, units_caller]; decide)); intro h'w tk'w e'w t'w de'w k1'w k2'w k3'w t1'w t2'w t3'w mv'w F'w N'w l1w l2w l3w; (try simp only [OffAll, and_true] at l1w l2w); (repeat (rcases l1w with ⟨_, l1w⟩)); (repeat (rcases l2w with ⟨_, l2w⟩)); (try k_sweep)))
  k_with "exec Raise some none" =>
    (k_here; k_dflt (refine' Raise_own ?X_w ?hh_w ?_; (case X_w => k_asm); (case hh_w => rfl)))
  k_with "RaiseQ" =>
    (k_here; k_dflt (refine' raiseQ_K ?F_w ?N_w ?X_w ?q_w ?m_w ?_; (case F_w => k_asm); (case N_w => k_asm); (case X_w => k_asm); (case m_w => k_mem); (case q_w => kts_isx); k_whole))
  k_with "leaving ref" =>
    (k_here; k_dflt (first
  | (refine' leave_raiseD ?K_w ?F_w ?N_w ?m_w ?s_w ?_; (case F_w => k_asm); (case N_w => k_asm); (case K_w => k_asm); (case m_w => k_mem); (case s_w => first | exact off_e (by assumption) | exact off_e (by (simp only [OffAll]; (repeat' (first | assumption | exact True.intro | exact ⟨by k_ne⟩ | refine And.intro ?_ ?_)); done))); k_whole)
  | (refine' leave_onD ?K_w ?F_w ?R_w ?U_w ?_; (case R_w => k_asm); (case F_w => k_asm); (case K_w => k_asm); (case U_w => k_asm); k_whole)); intro h'w R'w U'w; (try dsimp only at R'w U'w ⊢))
  k_with "noteFrame ref" =>
    (k_here; k_dflt (first
  | ((with_reducible show wpAny _ _ (noteFrame _ _) (fun _ s₂ => wpAny _ _ (setFlight _ none) (fun _ s₃ => wpAny _ _ (handleBy _ _ (ExceptHandler.ExceptHandler (some (Expr.Name _ _)) (some _) _ _ :: _)) _ _ s₃) _ s₂) _ _); refine' caught_DB ?R_w ?F_w ?K_w ?U_w ?XB_w ?TB_w ?D_w ?T0_w ?ex_w ?q_w ?_; (case R_w => k_asm); (case F_w => k_asm); (case K_w => k_asm); (case U_w => k_asm); (case XB_w => k_asm); (case TB_w => k_asm); (case D_w => k_asm); (case T0_w => first | k_asm | exact KtsTurn.refl); (case ex_w => k_is); (case q_w => kts_isx); k_whole; intro h'w g'w ws'w tk'w T'w F'w N'w K'w X'w P'w D'w)
  | ((with_reducible show wpAny _ _ (noteFrame _ _) (fun _ s₂ => wpAny _ _ (setFlight _ none) (fun _ s₃ => wpAny _ _ (handleBy _ _ (ExceptHandler.ExceptHandler (some (Expr.Name _ _)) none _ _ :: _)) _ _ s₃) _ s₂) _ _); refine' caught_D0 ?R_w ?F_w ?K_w ?U_w ?XB_w ?TB_w ?D_w ?T0_w ?ex_w ?q_w ?_; (case R_w => k_asm); (case F_w => k_asm); (case K_w => k_asm); (case U_w => k_asm); (case XB_w => k_asm); (case TB_w => k_asm); (case D_w => k_asm); (case T0_w => first | k_asm | exact KtsTurn.refl); (case ex_w => k_is); (case q_w => kts_isx); k_whole; intro h'w g'w ws'w T'w F'w N'w K'w X'w P'w D'w)
  | ((with_reducible show wpAny _ _ (noteFrame _ _) (fun _ s₂ => wpAny _ _ (setFlight _ none) (fun _ s₃ => wpAny _ _ (handleBy _ _ (ExceptHandler.ExceptHandler (some (Expr.Name _ _)) none _ _ :: _)) _ _ s₃) _ s₂) _ _); refine' caught_D0C ?R_w ?F_w ?K_w ?U_w ?XB_w ?TB_w ?D_w ?T0_w ?ex_w ?q_w ?_; (case R_w => k_asm); (case F_w => k_asm); (case K_w => k_asm); (case U_w => k_asm); (case XB_w => k_asm); (case TB_w => k_asm); (case D_w => k_asm); (case T0_w => first | k_asm | exact KtsTurn.refl); (case ex_w => k_is); (case q_w => kts_isx); k_whole; intro h'w g'w ws'w T'w F'w N'w K'w X'w P'w D'w)); (try k_lift K'w); (try k_sweep))
  k_with "getAttr ref" =>
    (k_here; (with_reducible show wpAny _ _ (getAttr (Value.ref _) (PySem.Str.ofString "value") _) _ _ _); k_dflt (refine' value_K ?F_w ?N_w ?X_w ?he_w ?hd_w ?d_w ?u_w ?_; (case F_w => k_asm); (case N_w => k_asm); (case X_w => k_asm); (case he_w => k_mem); (case hd_w => k_mem); (case d_w => (simp only [depth_mark, depth_deeper, depth_caller]; decide)); (case u_w => (simp only [Around.mark_units, units_deeper, units_caller]; decide)); intro tk'w))
  exact trivial
theorem lift_c {w : World} {fa L : Addr} {cd : Value} {mg mb : Str → Option Value} {mean : ExcName → Option Value} {h₀ : Heap} {m : Str → Option Value} {s : Shared} {rest : List (Addr × Obj)} {R : Result → Shared → Prop} {S : Addr} {a b k : Int} {ta tb tk : Tok} {n : Nat}
  (B : Below callerA h₀ [] h₀) (F : Fr h₀ L s.heap m) (X₀ : (hd.heap_39 w.params).In h₀) (T : Top VW (looseW VW LS) mean mg mb h₀)
  (N : News h₀ L s.heap ((S, listOf #[.int a ta, .int b tb] n) :: rest))
  (a0 : 0 ≤ a) (b0 : 0 ≤ b) (b1 : b < 2147483629) (k0 : 2 < k) (k1 : k ≤ 8)
  (AP : Apart ((S, listOf #[.int a ta, .int b tb] n) :: rest))
  (H : ∀ h' tk' r a' b' t1 t2 t3 n', Fr h₀ L h' m → News h₀ L h' ((S, listOf #[.int a' t1, .int b' t2] n') :: rest) → 0 ≤ r → r < k → 0 ≤ a' → 0 ≤ b' → b' < 2147483629 → R (.ok (.ret (.int r t3))) { s with heap := h', toks := tk' }) :
  codeAny (model Challenge.rw_pc0196_01.row.prog w) (callerA.deeper (lawEnv L fa cd)) (.call (.ref 292) ⟨[.ref S, .int k tk], []⟩) R s := by
  simp only [Apart, OffAll] at AP
  obtain ⟨z_S, APr⟩ := AP
  k_enter
  k_steps
  · skip
    refine' H  _ _ _ _ _ _ _ _ _ ?e0_0 ?e0_1 ?e0_2 ?e0_3 ?e0_4 ?e0_5 ?e0_6
    (case e0_0 => k_asm)
    (case e0_1 => (refine cb_drop (by assumption) ?_; ((repeat (refine List.forall_mem_cons.mpr ⟨by k_mem, ?_⟩)); first | exact List.forall_mem_nil _ | (intro p hp; (repeat (first | exact hp | exact List.mem_append_left _ hp | exact List.mem_append_right _ hp | exact List.mem_append_left _ (List.mem_append_left _ hp) | exact List.mem_append_left _ (List.mem_append_right _ hp) | refine List.Mem.tail _ ?_)); done))))
    (case e0_2 => exact (fmod_bd (by omega)).1)
    (case e0_3 => exact (fmod_bd (by omega)).2)
    (case e0_4 => first | exact fdiv_nn a0 (by omega) | exact (fmod_bd (by omega)).1 | k_asm)
    (case e0_5 => first | exact fdiv_nn a0 (by omega) | exact (fmod_bd (by omega)).1 | k_asm)
    (case e0_6 => first | k_asm | exact (fmod_bd (by omega)).2 | omega)
  · skip
    refine' H  _ _ _ _ _ _ _ _ _ ?e1_0 ?e1_1 ?e1_2 ?e1_3 ?e1_4 ?e1_5 ?e1_6
    (case e1_0 => k_asm)
    (case e1_1 => (refine cb_drop (by assumption) ?_; ((repeat (refine List.forall_mem_cons.mpr ⟨by k_mem, ?_⟩)); first | exact List.forall_mem_nil _ | (intro p hp; (repeat (first | exact hp | exact List.mem_append_left _ hp | exact List.mem_append_right _ hp | exact List.mem_append_left _ (List.mem_append_left _ hp) | exact List.mem_append_left _ (List.mem_append_right _ hp) | refine List.Mem.tail _ ?_)); done))))
    (case e1_2 => exact (fmod_bd (by omega)).1)
    (case e1_3 => exact (fmod_bd (by omega)).2)
    (case e1_4 => first | exact fdiv_nn a0 (by omega) | exact (fmod_bd (by omega)).1 | k_asm)
    (case e1_5 => first | exact fdiv_nn a0 (by omega) | exact (fmod_bd (by omega)).1 | k_asm)
    (case e1_6 => first | k_asm | exact (fmod_bd (by omega)).2 | omega)
end
section
theorem words13 : True := by
  w_top off
  k_with_none
  k_with "callWith ref" =>
    (k_here; (with_reducible show wpAny _ _ (callWith _ _ _ (backTo _ (starEach [] _)) []) _ _ _); k_dflt (refine' callWith_K0 ?k1_w ?k2_w ?_; (case k1_w => (refine' in_keeps ?F_w ?X_w; (case F_w => with_reducible assumption); (case X_w => with_reducible assumption))); (case k2_w => k_is); k_whole; (try dsimp only [List.nil_append, List.cons_append])))
  k_with "call ref nil" =>
    (k_here; dsimp only [List.cons_append, List.nil_append])
  k_with "call type:tuple" =>
    (k_here; (with_reducible show wpAny _ _ (call (Value.type _) [Value.ref _]) _ _ _); k_dflt (first | (refine' tuple_same_N ?N_w ?m_w ?_; (case N_w => k_asm); (case m_w => k_mem); k_whole) | (refine' tuple_same_K ?F_w ?X_w ?l_w ?_; (case F_w => k_asm); (case X_w => k_asm); (case l_w => k_is); k_whole)))
  k_with "CompSrc" =>
    (k_here; k_dflt (first
  | refine LCg.CompSrc.range (by rfl) (by k_asm) (by k_asm) (by assumption) (by first | exact small_one (by omega) (by omega) (by omega) (by omega) | decide) (by first | exact rangeSize_nat _ _ | rfl) (by rw [PySem.sizeLine_eq]; omega) ?_
  | refine LCg.CompSrc.ledger (by rfl) (by k_asm) (by k_asm) (by k_mem) (by first | exact ks_size (by assumption) (by omega) | (rw [PySem.sizeLine_eq]; (simp only [List.size_toArray, List.length_append, List.length_cons, List.length_nil]); omega)) ?_); intro g'w; refine StopAt.go ?_)
  k_with "CompEnd" =>
    (k_here; k_dflt (first | refine compEnd_none (by k_asm) (by k_asm) (by assumption) (by first | exact True.intro | lcg_src) ?_ | refine compEnd_one (by k_asm) (by k_asm) (by assumption) (by k_ne) (by k_ne) (by k_ne) (by first | exact True.intro | lcg_src) ?_); refine StopAt.go ?_)
  k_with "binaryOp Mult ref int" =>
    (k_here; (with_reducible show wpAny _ _ (binaryOp Operator.Mult (Value.ref _) (Value.int _ _)) _ _ _); k_dflt (refine' mul_two ?F_w ?N_w ?m_w ?e_w ?_; (case F_w => k_asm); (case N_w => k_asm); (case m_w => k_mem); (case e_w => first | rfl | exact room_is _ | ((try simp only [List.size_toArray]); split <;> omega)); k_whole); intro D'w h'w F'w N'w l1w; (try k_lt l1w); (try k_sweep))
  k_with "subscriptTail" =>
    (k_here; (with_reducible show wpAny _ _ (subscriptTail _ _ (Value.ref _) (Value.int (-1) _)) _ _ _); (with_unfolding_all refine item_last (by assumption) (by k_mem) (by omega) ?_))
  k_with "setItem ref int" =>
    (k_here; (with_reducible show wpAny _ _ (setItem (Value.ref _) (Value.int (-1) _) _) _ _ _); k_dflt (refine' set_last ?F_w ?N_w ?m_w ?U_w ?z_w ?_; (case F_w => k_asm); (case N_w => k_asm); (case m_w => k_mem); (case U_w => k_upd); (case z_w => omega)); (intro h'w F'w N'w; (try dsimp only [List.nil_append, List.cons_append] at N'w)))
  k_with "call builtin:list.pop" =>
    (k_here; (with_reducible show wpAny _ _ (call (Value.builtin _) [Value.ref _]) _ _ _); k_dflt (refine' pop_last ?F_w ?N_w ?m_w ?U_w ?z_w ?_; (case F_w => k_asm); (case N_w => k_asm); (case m_w => k_mem); (case U_w => k_upd); (case z_w => omega)); (intro h'w F'w N'w; (try dsimp only [List.nil_append, List.cons_append] at N'w)))
  k_with "call ref" =>
    (k_here; (show wpAny _ _ (call (Value.ref 52) [Value.str _ _]) _ _ _); k_dflt (refine' fault_K ?F_w ?N_w ?X_w ?hh_w ?d_w ?u_w ?_; (case F_w => k_asm); (case N_w => k_asm); (case X_w => k_asm); (case hh_w => rfl); (case d_w => (simp only [depth_deeper, depth_caller]; decide)); (case u_w => (simp only [units_deeper, units_caller]; decide)); intro h'w tk'w e'w t'w de'w F'w N'w l1w; (have l2 := l1w); (try simp only [OffAll, and_true] at l2); (repeat (rcases l2 with ⟨_, l2⟩)); (try k_sweep)))
  k_with "call ref" =>
    (k_here; (show wpAny _ _ (call (Value.ref 71) [Value.ref _]) _ _ _); k_dflt (refine' thrown_K ?F_w ?N_w ?X_w ?hh_w ?d_w ?u_w ?_; (case F_w => k_asm); (case N_w => k_asm); (case X_w => k_asm); (case hh_w => rfl); (case d_w => (simp only [depth_deeper, depth_caller]; decide)); (case u_w => (simp only [units_deeper, units_caller]; decide)); intro h'w tk'w e'w t'w de'w k1'w k2'w k3'w t1'w t2'w t3'w mv'w F'w N'w l1w l2w l3w; (try simp only [OffAll, and_true] at l1w l2w); (repeat (rcases l1w with ⟨_, l1w⟩)); (repeat (rcases l2w with ⟨_, l2w⟩)); (try k_sweep)))
  k_with "exec Raise some none" =>
    (k_here; k_dflt (refine' Raise_own ?X_w ?hh_w ?_; (case X_w => k_asm); (case hh_w => rfl)))
  k_with "RaiseQ" =>
    (k_here; k_dflt (refine' raiseQ_K ?F_w ?N_w ?X_w ?q_w ?m_w ?_; (case F_w => k_asm); (case N_w => k_asm); (case X_w => k_asm); (case m_w => k_mem); (case q_w => kts_isx); k_whole))
  k_with "leaving ref" =>
    (k_here; k_dflt (first
  | (refine' leave_raiseD ?K_w ?F_w ?N_w ?m_w ?s_w ?_; (case F_w => k_asm); (case N_w => k_asm); (case K_w => k_asm); (case m_w => k_mem); (case s_w => first | exact off_e (by assumption) | exact off_e (by (simp only [OffAll]; (repeat' (first | assumption | exact True.intro | exact ⟨by k_ne⟩ | refine And.intro ?_ ?_)); done))); k_whole)
  | (refine' leave_onD ?K_w ?F_w ?R_w ?U_w ?_; (case R_w => k_asm); (case F_w => k_asm); (case K_w => k_asm); (case U_w => k_asm); k_whole)); intro h'w R'w U'w; (try dsimp only at R'w U'w ⊢))
  k_with "noteFrame ref" =>
    (k_here; k_dflt (first
  | ((with_reducible show wpAny _ _ (noteFrame _ _) (fun _ s₂ => wpAny _ _ (setFlight _ none) (fun _ s₃ => wpAny _ _ (handleBy _ _ (ExceptHandler.ExceptHandler (some (Expr.Name _ _)) (some _) _ _ :: _)) _ _ s₃) _ s₂) _ _); refine' caught_DB ?R_w ?F_w ?K_w ?U_w ?XB_w ?TB_w ?D_w ?T0_w ?ex_w ?q_w ?_; (case R_w => k_asm); (case F_w => k_asm); (case K_w => k_asm); (case U_w => k_asm); (case XB_w => k_asm); (case TB_w => k_asm); (case D_w => k_asm); (case T0_w => first | k_asm | exact KtsTurn.refl); (case ex_w => k_is); (case q_w => kts_isx); k_whole; intro h'w g'w ws'w tk'w T'w F'w N'w K'w X'w P'w D'w)
  | ((with_reducible show wpAny _ _ (noteFrame _ _) (fun _ s₂ => wpAny _ _ (setFlight _ none) (fun _ s₃ => wpAny _ _ (handleBy _ _ (ExceptHandler.ExceptHandler (some (Expr.Name _ _)) none _ _ :: _)) _ _ s₃) _ s₂) _ _); refine' caught_D0 ?R_w ?F_w ?K_w ?U_w ?XB_w ?TB_w ?D_w ?T0_w ?ex_w ?q_w ?_; (case R_w => k_asm); (case F_w => k_asm); (case K_w => k_asm); (case U_w => k_asm); (case XB_w => k_asm); (case TB_w => k_asm); (case D_w => k_asm); (case T0_w => first | k_asm | exact KtsTurn.refl); (case ex_w => k_is); (case q_w => kts_isx); k_whole; intro h'w g'w ws'w T'w F'w N'w K'w X'w P'w D'w)
  | ((with_reducible show wpAny _ _ (noteFrame _ _) (fun _ s₂ => wpAny _ _ (setFlight _ none) (fun _ s₃ => wpAny _ _ (handleBy _ _ (ExceptHandler.ExceptHandler (some (Expr.Name _ _)) none _ _ :: _)) _ _ s₃) _ s₂) _ _); refine' caught_D0C ?R_w ?F_w ?K_w ?U_w ?XB_w ?TB_w ?D_w ?T0_w ?ex_w ?q_w ?_; (case R_w => k_asm); (case F_w => k_asm); (case K_w => k_asm); (case U_w => k_asm); (case XB_w => k_asm); (case TB_w => k_asm); (case D_w => k_asm); (case T0_w => first | k_asm | exact KtsTurn.refl); (case ex_w => k_is); (case q_w => kts_isx); k_whole; intro h'w g'w ws'w T'w F'w N'w K'w X'w P'w D'w)); (try k_lift K'w); (try k_sweep))
  k_with "getAttr ref" =>
    (k_here; (with_reducible show wpAny _ _ (getAttr (Value.ref _) (PySem.Str.ofString "value") _) _ _ _); k_dflt (refine' value_K ?F_w ?N_w ?X_w ?he_w ?hd_w ?d_w ?u_w ?_; (case F_w => k_asm); (case N_w => k_asm); (case X_w => k_asm); (case he_w => k_mem); (case hd_w => k_mem); (case d_w => (simp only [depth_mark, depth_deeper, depth_caller]; decide)); (case u_w => (simp only [Around.mark_units, units_deeper, units_caller]; decide)); intro tk'w))
  exact trivial
theorem words14 : True := by
  k_with "subscriptTail Attribute" =>
    (k_here; k_dflt (refine kba_turn (value' := PySem.Expr.Name (PySem.Str.ofString "_") ⟨0, 0, 0, 0⟩) (fun _ => rfl) ?_))
  k_with "subscriptTail" =>
    (k_here; (with_reducible show wpAny _ _ (subscriptTail (PySem.Expr.Name _ _) _ (Value.ref _) (Value.int (-1) _)) _ _ _); (with_reducible refine' item_last (hs := ?hs_w) (hg := ?hg_w) ?N_w ?m_w ?f_w ?_); (case N_w => k_asm); (case m_w => k_mem); (case f_w => with_reducible assumption); (case hs_w => with_unfolding_all rfl); (case hg_w => (intro _; with_unfolding_all rfl)); k_whole)
  k_with "setItem ref int" =>
    (k_here; (with_reducible show wpAny _ _ (setItem (Value.ref _) (Value.int (-1) _) _) _ _ _); k_dflt (refine' set_last ?F_w ?N_w ?m_w ?U_w ?z_w ?_; (case F_w => k_asm); (case N_w => k_asm); (case m_w => k_mem); (case U_w => k_upd); (case z_w => with_reducible assumption)); (intro h'w F'w N'w; (try dsimp only [List.nil_append, List.cons_append] at N'w)))
  exact trivial
theorem len_ints {vs : List Value} {ns : List Int} (h : IntsAre vs ns) : (vs.length : Int) = (ns.length : Int) := by rw [h.length]
theorem ints_take : ∀ {vs : List Value} {ns : List Int}, IntsAre vs ns → ∀ k : Nat, IntsAre (vs.take k) (ns.take k)
  | _, _, .nil, k => by simp; exact .nil
  | _, _, .cons _ _ _, 0 => .nil
  | _, _, .cons n t h, k + 1 => .cons n t (ints_take h k)
theorem words15 : True := by
  k_with "call builtin:len" =>
    (k_here; (with_reducible show wpAny _ _ (call (Value.builtin _) [Value.ref _]) _ _ _); k_dflt (refine' len_k ?N_w ?m_w ?e_w ?z_w ?_; (case N_w => k_asm); (case m_w => k_mem); (case e_w => exact len_ints (by with_reducible assumption)); (case z_w => with_reducible assumption); k_whole))
  k_with "subscriptTail Subscript" =>
    (k_here; k_dflt (refine kba_turn (value' := PySem.Expr.Name (PySem.Str.ofString "_") ⟨0, 0, 0, 0⟩) (fun _ => rfl) ?_))
  k_with "subscriptTail Name Slice ref ref" =>
    (k_here; (with_reducible show wpAny _ _ (subscriptTail (PySem.Expr.Name _ _) (PySem.Expr.Slice none _ _ _) (Value.ref _) (Value.ref _)) _ _ _); k_dflt (refine' slice_to ?F_w ?N_w ?m_w ?k_w ?e_w ?z_w ?_ ?s_w ?t_w; (case F_w => k_asm); (case N_w => k_asm); (case m_w => k_mem); (case k_w => omega); (case e_w => exact rfl); (case z_w => with_reducible assumption); (case s_w => with_unfolding_all rfl); (case t_w => kmk_pure)); intro D'w h'w F'w N'w l1w; (try k_lt l1w))
  exact trivial

local macro_rules | `(tactic| k_mem) => `(tactic| ((repeat (first | with_reducible assumption | exact List.Mem.head _ | refine List.Mem.tail _ ?_)); done))
theorem words16 : True := by
  k_with "call ref" =>
    (k_here; (show wpAny _ _ (call (Value.ref 211) [_]) _ _ _); k_dflt (refine wpAny_call ?_; refine' top_m (G := ⟨_, _, _, _, _, _, _, _, _, _, _⟩) ?hd_w ?B_w ?F_w ?X_w ?T_w ?N_w ?q0_w ?q1_w ?q2_w ?q3_w ?_; (case B_w => k_asm); (case F_w => k_asm); (case X_w => k_asm); (case T_w => k_asm); (case N_w => k_asm); (case q0_w => k_mem); (case q1_w => k_mem); (case q2_w => k_mem); (case q3_w => with_reducible assumption); (case hd_w => (first | decide | (dsimp only; decide) | ((simp only [depth_mark, depth_under_make, depth_under_kw, depth_in1, depth_deeper]); omega))); k_whole); intro h'w tk'w F'w N'w; (try dsimp only))
  exact trivial
theorem left_c {w : World} {fa L : Addr} {cd : Value} {mg mb : Str → Option Value} {mean : ExcName → Option Value} {h₀ : Heap} {m : Str → Option Value} {s : Shared} {rest : List (Addr × Obj)} {R : Result → Shared → Prop} {f1 d1 c r st h1 : Addr} {u1 u2 u3 u4 u5 u6 u7 u8 ta tw : Tok} {at1 wo : Int} {v1 : Value} {FO dF FL RO : Addr} {tm : Tok} {a : Int} {tk x3 : Tok} {n n1 n3 n4 : Nat} {t l : Addr} {hs ls xs ys : List Value} {ns : List Int}
  (B : Below callerA h₀ [] h₀) (F : Fr h₀ L s.heap m) (X₀ : (hd.heap_39 w.params).In h₀) (T : Top VW (looseW VW LS) mean mg mb h₀)
  (N : News h₀ L s.heap ((d1, frD w u1 u2 u3 u4 u5 u6 u7 u8 ta tw c r st h1 at1 wo v1) :: (RO, W.listOf (ys ++ [Value.ref t]).toArray n3) :: rest))
  (a0 : 0 ≤ a) (a3 : a < 3) (ih : IntsAre hs ns) (il : IntsAre ls ns) (hn : ns.length ≤ 9) (hx : xs.length ≤ 1000) (hy : ys.length ≤ 1000)
  (m1 : (FO, instObj 242 dF) ∈ rest) (m2 : (dF, rowsD w tm FL) ∈ rest) (m3 : (FL, W.listOf (xs ++ [Value.ref f1]).toArray n) ∈ rest) (m4 : (f1, instObj 172 d1) ∈ rest) (m5 : (h1, W.listOf hs.toArray n1) ∈ rest) (m6 : (t, ({ cls := .type "tuple", data := .seq #[Value.ref l, Value.int at1 x3, v1] } : Obj)) ∈ rest) (m7 : (l, W.listOf ls.toArray n4) ∈ rest)
  (z1 : OffAll d1 rest) (z2 : OffAll RO rest) (q1 : Off RO d1)
  (H1 : (ns.length : Int) < a → ∀ h' tk', Fr h₀ L h' m → News h₀ L h' ((d1, frD w u1 u2 u3 u4 u5 u6 u7 u8 ta tw c r st h1 at1 wo v1) :: (RO, W.listOf (ys ++ [Value.ref t]).toArray n3) :: rest) → R (.ok (.ret (.bool true))) { s with heap := h', toks := tk' })
  (H2 : ¬ (ns.length : Int) < a → ∀ h' tk' D t' l' ws ws', Fr h₀ L h' m → News h₀ L h' ((t', ({ cls := .type "tuple", data := .seq #[Value.ref l', Value.int at1 x3, v1] } : Obj)) :: (l', W.listOf ws'.toArray 0) :: (D, W.listOf ws.toArray 0) :: (d1, frD w u1 u2 u3 u4 u5 u6 u7 u8 ta tw c r st D at1 wo v1) :: (RO, W.listOf (ys ++ [Value.ref t']).toArray n3) :: rest) → (∀ p ∈ (d1, frD w u1 u2 u3 u4 u5 u6 u7 u8 ta tw c r st h1 at1 wo v1) :: (RO, W.listOf (ys ++ [Value.ref t]).toArray n3) :: rest, p.1 < D) → (∀ p ∈ (D, W.listOf ws.toArray 0) :: (d1, frD w u1 u2 u3 u4 u5 u6 u7 u8 ta tw c r st D at1 wo v1) :: (RO, W.listOf (ys ++ [Value.ref t]).toArray n3) :: rest, p.1 < l') → (∀ p ∈ (l', W.listOf ws'.toArray 0) :: (D, W.listOf ws.toArray 0) :: (d1, frD w u1 u2 u3 u4 u5 u6 u7 u8 ta tw c r st D at1 wo v1) :: (RO, W.listOf (ys ++ [Value.ref t]).toArray n3) :: rest, p.1 < t') → IntsAre ws (ns.take ((ns.length : Int) - a).toNat) → IntsAre ws' (ns.take ((ns.length : Int) - a).toNat) → R (.ok (.ret (.bool true))) { s with heap := h', toks := tk' }) :
  codeAny (model Challenge.rw_pc0196_01.row.prog w) (callerA.deeper (lawEnv L fa cd)) (.call (.ref 309) ⟨[.ref FO, .ref RO, .int a tk], []⟩) R s := by
  obtain ⟨sh, sg, sd, sk, so⟩ := s
  dsimp only at F N H1 H2 ⊢
  have hz : (ns.length : Int) ≤ 999 := by omega
  have hh : hs.length ≤ 1000 := by rw [ih.length]; omega
  have hl : ls.length ≤ 1000 := by rw [il.length]; omega
  refine' code_defS0 ?k1 ?k2 ?k3 ?k4 ?k5 ?kA ?k6 ?k7 ?k8 ?k9 ?kB ?_ ?cK ?c2 ?c3 ?c4 ?c5
  (case kA => exact rfl)
  (case k2 => k_asm)
  (case k1 => k_asm)
  (case k3 => k_asm)
  (case k4 => k_asm)
  (case k5 => k_asm)
  (case k6 => k_is)
  (case k7 => k_is)
  (case k8 => k_room)
  (case k9 => first | exact binds_K (by k_in) rfl (by k_is) rfl rfl rfl | exact BindsTo.of_eq rfl)
  (case kB => exact locs rfl)
  (case cK => exact rfl)
  (case c2 => exact rfl)
  (case c3 => exact rfl)
  (case c4 => exact rfl)
  (case c5 => decide)
  intro g L' h' FG F' N' B' X' T' D'
  (try dsimp only)
  (try k_lift B')
  (try k_fold)
  k_steps
  · rw [decide_eq_true (by assumption)]
    refine H1 (by assumption) _ _ (by k_asm) ?_
    (refine cb_drop (by assumption) ?_; ((repeat (refine List.forall_mem_cons.mpr ⟨by k_mem, ?_⟩)); first | exact List.forall_mem_nil _ | (intro p hp; (repeat (first | exact hp | exact List.mem_append_left _ hp | exact List.mem_append_right _ hp | exact List.mem_append_left _ (List.mem_append_left _ hp) | exact List.mem_append_left _ (List.mem_append_right _ hp) | refine List.Mem.tail _ ?_)); done)))
  · exact H2 (by assumption) _ _ _ _ _ _ _ (by k_asm) (by k_asm) (by assumption) (by assumption) (by assumption) (ints_take ih _) (ints_take il _)
end
section
theorem words17 : True := by
  w_top off
  k_with_none
  k_with "callWith ref" =>
    (k_here; (with_reducible show wpAny _ _ (callWith _ _ _ (backTo _ (starEach [] _)) []) _ _ _); k_dflt (refine' callWith_K0 ?k1_w ?k2_w ?_; (case k1_w => (refine' in_keeps ?F_w ?X_w; (case F_w => with_reducible assumption); (case X_w => with_reducible assumption))); (case k2_w => k_is); k_whole; (try dsimp only [List.nil_append, List.cons_append])))
  k_with "call ref nil" =>
    (k_here; dsimp only [List.cons_append, List.nil_append])
  k_with "call type:tuple" =>
    (k_here; (with_reducible show wpAny _ _ (call (Value.type _) [Value.ref _]) _ _ _); k_dflt (first | (refine' tuple_same_N ?N_w ?m_w ?_; (case N_w => k_asm); (case m_w => k_mem); k_whole) | (refine' tuple_same_K ?F_w ?X_w ?l_w ?_; (case F_w => k_asm); (case X_w => k_asm); (case l_w => k_is); k_whole)))
  k_with "CompSrc" =>
    (k_here; k_dflt (first
  | refine LCg.CompSrc.range (by rfl) (by k_asm) (by k_asm) (by assumption) (by first | exact small_one (by omega) (by omega) (by omega) (by omega) | decide) (by first | exact rangeSize_nat _ _ | rfl) (by rw [PySem.sizeLine_eq]; omega) ?_
  | refine LCg.CompSrc.ledger (by rfl) (by k_asm) (by k_asm) (by k_mem) (by first | exact ks_size (by assumption) (by omega) | (rw [PySem.sizeLine_eq]; (simp only [List.size_toArray, List.length_append, List.length_cons, List.length_nil]); omega)) ?_); intro g'w; refine StopAt.go ?_)
  k_with "CompEnd" =>
    (k_here; k_dflt (first | refine compEnd_none (by k_asm) (by k_asm) (by assumption) (by first | exact True.intro | lcg_src) ?_ | refine compEnd_one (by k_asm) (by k_asm) (by assumption) (by k_ne) (by k_ne) (by k_ne) (by first | exact True.intro | lcg_src) ?_); refine StopAt.go ?_)
  k_with "binaryOp Mult ref int" =>
    (k_here; (with_reducible show wpAny _ _ (binaryOp Operator.Mult (Value.ref _) (Value.int _ _)) _ _ _); k_dflt (refine' mul_two ?F_w ?N_w ?m_w ?e_w ?_; (case F_w => k_asm); (case N_w => k_asm); (case m_w => k_mem); (case e_w => first | rfl | exact room_is _ | ((try simp only [List.size_toArray]); split <;> omega)); k_whole); intro D'w h'w F'w N'w l1w; (try k_lt l1w); (try k_sweep))
  k_with "subscriptTail" =>
    (k_here; (with_reducible show wpAny _ _ (subscriptTail _ _ (Value.ref _) (Value.int (-1) _)) _ _ _); (with_unfolding_all refine item_last (by assumption) (by k_mem) (by omega) ?_))
  k_with "setItem ref int" =>
    (k_here; (with_reducible show wpAny _ _ (setItem (Value.ref _) (Value.int (-1) _) _) _ _ _); k_dflt (refine' set_last ?F_w ?N_w ?m_w ?U_w ?z_w ?_; (case F_w => k_asm); (case N_w => k_asm); (case m_w => k_mem); (case U_w => k_upd); (case z_w => omega)); (intro h'w F'w N'w; (try dsimp only [List.nil_append, List.cons_append] at N'w)))
  k_with "call builtin:list.pop" =>
    (k_here; (with_reducible show wpAny _ _ (call (Value.builtin _) [Value.ref _]) _ _ _); k_dflt (refine' pop_last ?F_w ?N_w ?m_w ?U_w ?z_w ?_; (case F_w => k_asm); (case N_w => k_asm); (case m_w => k_mem); (case U_w => k_upd); (case z_w => omega)); (intro h'w F'w N'w; (try dsimp only [List.nil_append, List.cons_append] at N'w)))
  k_with "call ref" =>
    (k_here; (show wpAny _ _ (call (Value.ref 52) [Value.str _ _]) _ _ _); k_dflt (refine' fault_K ?F_w ?N_w ?X_w ?hh_w ?d_w ?u_w ?_; (case F_w => k_asm); (case N_w => k_asm); (case X_w => k_asm); (case hh_w => rfl); (case d_w => (simp only [depth_deeper, depth_caller]; decide)); (case u_w => (simp only [units_deeper, units_caller]; decide)); intro h'w tk'w e'w t'w de'w F'w N'w l1w; (have l2 := l1w); (try simp only [OffAll, and_true] at l2); (repeat (rcases l2 with ⟨_, l2⟩)); (try k_sweep)))
  k_with "call ref" =>
    (k_here; (show wpAny _ _ (call (Value.ref 71) [Value.ref _]) _ _ _); k_dflt (refine' thrown_K ?F_w ?N_w ?X_w ?hh_w ?d_w ?u_w ?_; (case F_w => k_asm); (case N_w => k_asm); (case X_w => k_asm); (case hh_w => rfl); (case d_w => (simp only [depth_deeper, depth_caller]; decide)); (case u_w => (simp only [units_deeper, units_caller]; decide)); intro h'w tk'w e'w t'w de'w k1'w k2'w k3'w t1'w t2'w t3'w mv'w F'w N'w l1w l2w l3w; (try simp only [OffAll, and_true] at l1w l2w); (repeat (rcases l1w with ⟨_, l1w⟩)); (repeat (rcases l2w with ⟨_, l2w⟩)); (try k_sweep)))
  k_with "exec Raise some none" =>
    (k_here; k_dflt (refine' Raise_own ?X_w ?hh_w ?_; (case X_w => k_asm); (case hh_w => rfl)))
  k_with "RaiseQ" =>
    (k_here; k_dflt (refine' raiseQ_K ?F_w ?N_w ?X_w ?q_w ?m_w ?_; (case F_w => k_asm); (case N_w => k_asm); (case X_w => k_asm); (case m_w => k_mem); (case q_w => kts_isx); k_whole))
  k_with "leaving ref" =>
    (k_here; k_dflt (first
  | (refine' leave_raiseD ?K_w ?F_w ?N_w ?m_w ?s_w ?_; (case F_w => k_asm); (case N_w => k_asm); (case K_w => k_asm); (case m_w => k_mem); (case s_w => first | exact off_e (by assumption) | exact off_e (by (simp only [OffAll]; (repeat' (first | assumption | exact True.intro | exact ⟨by k_ne⟩ | refine And.intro ?_ ?_)); done))); k_whole)
  | (refine' leave_onD ?K_w ?F_w ?R_w ?U_w ?_; (case R_w => k_asm); (case F_w => k_asm); (case K_w => k_asm); (case U_w => k_asm); k_whole)); intro h'w R'w U'w; (try dsimp only at R'w U'w ⊢))
  k_with "noteFrame ref" =>
    (k_here; k_dflt (first
  | ((with_reducible show wpAny _ _ (noteFrame _ _) (fun _ s₂ => wpAny _ _ (setFlight _ none) (fun _ s₃ => wpAny _ _ (handleBy _ _ (ExceptHandler.ExceptHandler (some (Expr.Name _ _)) (some _) _ _ :: _)) _ _ s₃) _ s₂) _ _); refine' caught_DB ?R_w ?F_w ?K_w ?U_w ?XB_w ?TB_w ?D_w ?T0_w ?ex_w ?q_w ?_; (case R_w => k_asm); (case F_w => k_asm); (case K_w => k_asm); (case U_w => k_asm); (case XB_w => k_asm); (case TB_w => k_asm); (case D_w => k_asm); (case T0_w => first | k_asm | exact KtsTurn.refl); (case ex_w => k_is); (case q_w => kts_isx); k_whole; intro h'w g'w ws'w tk'w T'w F'w N'w K'w X'w P'w D'w)
  | ((with_reducible show wpAny _ _ (noteFrame _ _) (fun _ s₂ => wpAny _ _ (setFlight _ none) (fun _ s₃ => wpAny _ _ (handleBy _ _ (ExceptHandler.ExceptHandler (some (Expr.Name _ _)) none _ _ :: _)) _ _ s₃) _ s₂) _ _); refine' caught_D0 ?R_w ?F_w ?K_w ?U_w ?XB_w ?TB_w ?D_w ?T0_w ?ex_w ?q_w ?_; (case R_w => k_asm); (case F_w => k_asm); (case K_w => k_asm); (case U_w => k_asm); (case XB_w => k_asm); (case TB_w => k_asm); (case D_w => k_asm); (case T0_w => first | k_asm | exact KtsTurn.refl); (case ex_w => k_is); (case q_w => kts_isx); k_whole; intro h'w g'w ws'w T'w F'w N'w K'w X'w P'w D'w)
  | ((with_reducible show wpAny _ _ (noteFrame _ _) (fun _ s₂ => wpAny _ _ (setFlight _ none) (fun _ s₃ => wpAny _ _ (handleBy _ _ (ExceptHandler.ExceptHandler (some (Expr.Name _ _)) none _ _ :: _)) _ _ s₃) _ s₂) _ _); refine' caught_D0C ?R_w ?F_w ?K_w ?U_w ?XB_w ?TB_w ?D_w ?T0_w ?ex_w ?q_w ?_; (case R_w => k_asm); (case F_w => k_asm); (case K_w => k_asm); (case U_w => k_asm); (case XB_w => k_asm); (case TB_w => k_asm); (case D_w => k_asm); (case T0_w => first | k_asm | exact KtsTurn.refl); (case ex_w => k_is); (case q_w => kts_isx); k_whole; intro h'w g'w ws'w T'w F'w N'w K'w X'w P'w D'w)); (try k_lift K'w); (try k_sweep))
  k_with "getAttr ref" =>
    (k_here; (with_reducible show wpAny _ _ (getAttr (Value.ref _) (PySem.Str.ofString "value") _) _ _ _); k_dflt (refine' value_K ?F_w ?N_w ?X_w ?he_w ?hd_w ?d_w ?u_w ?_; (case F_w => k_asm); (case N_w => k_asm); (case X_w => k_asm); (case he_w => k_mem); (case hd_w => k_mem); (case d_w => (simp only [depth_mark, depth_deeper, depth_caller]; decide)); (case u_w => (simp only [Around.mark_units, units_deeper, units_caller]; decide)); intro tk'w))
  exact trivial
theorem words18 : True := by
  k_with "call builtin:len" =>
    (k_here; (with_reducible show wpAny _ _ (call (Value.builtin _) [Value.ref _]) _ _ _); k_dflt (refine' len_news ?N_w ?m_w ?z_w ?_; (case N_w => k_asm); (case m_w => k_mem); (case z_w => (simp only [List.size_toArray, List.length_append, List.length_cons, List.length_nil]; omega)); k_whole))
  k_with "call type:list" =>
    (k_here; (with_reducible show wpAny _ _ (call (Value.type _) [Value.ref _]) _ _ _); k_dflt (refine' copy_abs ?F_w ?N_w ?m_w ?z_w ?_; (case F_w => k_asm); (case N_w => k_asm); (case m_w => k_mem); (case z_w => (simp only [List.size_toArray, List.length_append, List.length_cons, List.length_nil]; omega)); k_whole); intro D'w c'w h'w F'w N'w l1w; (try k_lt l1w); (try k_sweep))
  k_with "binaryOp Add ref ref" =>
    (k_here; (with_reducible show wpAny _ _ (binaryOp _ (Value.ref _) (Value.ref _)) _ _ _); k_dflt (refine' add_abs ?F_w ?N_w ?a_w ?b_w ?z_w ?_; (case F_w => k_asm); (case N_w => k_asm); (case a_w => k_mem); (case b_w => k_mem); (case z_w => (simp only [List.length_append, List.length_cons, List.length_nil]; omega)); k_whole); intro D'w h'w F'w N'w l1w; (try k_lt l1w); (try k_sweep))
  k_with "exec Try" =>
    (k_here; refine wpAny_Try_except ?_)
  k_with "subscriptTail" =>
    (k_here; (with_reducible show wpAny _ _ (subscriptTail _ _ (Value.ref _) (Value.int _ _)) _ _ _); (with_unfolding_all refine item_at (by assumption) (by k_mem) (by omega) (by omega) (by first | exact get_in (by assumption) | exact get_mid (by omega)) ?_))
  k_with "subscriptTail" =>
    (k_here; (with_reducible show wpAny _ _ (subscriptTail _ (PySem.Expr.Slice _ _ none _) (Value.ref _) (Value.ref _)) _ _ _); k_dflt (refine' slice_from ?F_w ?N_w ?m_w ?k_w ?z_w ?_ ?s_w ?t_w; (case F_w => k_asm); (case N_w => k_asm); (case m_w => k_mem); (case k_w => omega); (case z_w => (simp only [List.length_cons, List.length_nil]; omega)); (case s_w => with_unfolding_all rfl); (case t_w => kmk_pure)); intro D'w h'w F'w N'w l1w; (try k_lt l1w); (try k_sweep))
  k_with "setItem ref int" =>
    (k_here; (with_reducible show wpAny _ _ (setItem (Value.ref _) (Value.int _ _) _) _ _ _); k_dflt (refine' set_mid ?F_w ?N_w ?m_w ?U_w ?z_w ?y_w ?_; (case F_w => k_asm); (case N_w => k_asm); (case m_w => k_mem); (case U_w => k_upd); (case z_w => omega); (case y_w => omega)); (intro h'w F'w N'w; (try dsimp only [List.nil_append, List.cons_append] at N'w)))
  k_with "compareOp NotEq ref ref" =>
    (k_here; k_dflt (refine' ne_tups ?N_w ?a_w ?b_w ?ka_w ?kb_w ?l_w ?u_w ?_; (case N_w => k_asm); (case a_w => k_mem); (case b_w => k_mem); (case ka_w => (intro qw hpw; (repeat (first | exact hpw | exact List.mem_append_left _ hpw | exact List.mem_append_right _ hpw | exact List.mem_append_left _ (List.mem_append_left _ hpw) | exact List.mem_append_left _ (List.mem_append_right _ hpw) | refine List.Mem.tail _ ?_)); done)); (case kb_w => (intro qw hpw; (repeat (first | exact hpw | exact List.mem_append_left _ hpw | exact List.mem_append_right _ hpw | exact List.mem_append_left _ (List.mem_append_left _ hpw) | exact List.mem_append_left _ (List.mem_append_right _ hpw) | refine List.Mem.tail _ ?_)); done)); (case l_w => omega); (case u_w => ke_room); k_whole))
  exact trivial
theorem regs_c {w : World} {fa L : Addr} {cd : Value} {mg mb : Str → Option Value} {mean : ExcName → Option Value} {h₀ : Heap} {m : Str → Option Value} {s : Shared} {rest : List (Addr × Obj)} {R : Result → Shared → Prop} {f1 d1 c1 r1 st1 h1 : Addr} {u11 u12 u13 u14 u15 u16 u17 u18 ta1 tw1 : Tok} {at1 wo1 : Int} {v1 : Value} {a k : Int} {ta tk : Tok} {ps : List Tup} {n1 : Nat}
  (B : Below callerA h₀ [] h₀) (F : Fr h₀ L s.heap m) (X₀ : (hd.heap_39 w.params).In h₀) (T : Top VW (looseW VW LS) mean mg mb h₀)
  (N : News h₀ L s.heap ((f1, instObj 172 d1) :: (d1, dictOf [⟨PyData.keyHash w.params "code", .str "code" u11, .ref c1⟩, ⟨PyData.keyHash w.params "registers", .str "registers" u12, .ref r1⟩, ⟨PyData.keyHash w.params "at", .str "at" u13, .int at1 ta1⟩, ⟨PyData.keyHash w.params "world", .str "world" u14, .int wo1 tw1⟩, ⟨PyData.keyHash w.params "statics", .str "statics" u15, .ref st1⟩, ⟨PyData.keyHash w.params "goal", .str "goal" u16, .none⟩, ⟨PyData.keyHash w.params "handlers", .str "handlers" u17, .ref h1⟩, ⟨PyData.keyHash w.params "caught", .str "caught" u18, v1⟩] 8) :: (r1, listOf (refs ps ++ [Value.none, Value.none]).toArray n1) :: (tupObjs (10 * a) 0 ps ++ rest)))
  (h0 : 0 ≤ a) (h8 : a ≤ 8) (k1 : 1 ≤ k) (k3 : k ≤ 3) (hpl : ((ps.length : Nat) : Int) = k) (hw : wo1 = 3 + a)
  (AP : Apart ((f1, instObj 172 d1) :: (d1, dictOf [⟨PyData.keyHash w.params "code", .str "code" u11, .ref c1⟩, ⟨PyData.keyHash w.params "registers", .str "registers" u12, .ref r1⟩, ⟨PyData.keyHash w.params "at", .str "at" u13, .int at1 ta1⟩, ⟨PyData.keyHash w.params "world", .str "world" u14, .int wo1 tw1⟩, ⟨PyData.keyHash w.params "statics", .str "statics" u15, .ref st1⟩, ⟨PyData.keyHash w.params "goal", .str "goal" u16, .none⟩, ⟨PyData.keyHash w.params "handlers", .str "handlers" u17, .ref h1⟩, ⟨PyData.keyHash w.params "caught", .str "caught" u18, v1⟩] 8) :: (r1, listOf (refs ps ++ [Value.none, Value.none]).toArray n1) :: []))
  (zf1 : OffAll f1 ((tupObjs (10 * a) 0 ps ++ rest))) (zd1 : OffAll d1 ((tupObjs (10 * a) 0 ps ++ rest))) (zr1 : OffAll r1 ((tupObjs (10 * a) 0 ps ++ rest)))
  (H : ∀ h' tk', Fr h₀ L h' m → News h₀ L h' ((f1, instObj 172 d1) :: (d1, dictOf [⟨PyData.keyHash w.params "code", .str "code" u11, .ref c1⟩, ⟨PyData.keyHash w.params "registers", .str "registers" u12, .ref r1⟩, ⟨PyData.keyHash w.params "at", .str "at" u13, .int at1 ta1⟩, ⟨PyData.keyHash w.params "world", .str "world" u14, .int wo1 tw1⟩, ⟨PyData.keyHash w.params "statics", .str "statics" u15, .ref st1⟩, ⟨PyData.keyHash w.params "goal", .str "goal" u16, .none⟩, ⟨PyData.keyHash w.params "handlers", .str "handlers" u17, .ref h1⟩, ⟨PyData.keyHash w.params "caught", .str "caught" u18, v1⟩] 8) :: rest) → R (.ok (.ret (.bool true))) { s with heap := h', toks := tk' }) :
  codeAny (model Challenge.rw_pc0196_01.row.prog w) (callerA.deeper (lawEnv L fa cd)) (.call (.ref 321) ⟨[.ref f1, .int a ta, .int k tk], []⟩) R s := by
  simp only [Apart, OffAll] at AP
  obtain ⟨⟨q_d1_f1, q_r1_f1, z_f1⟩, ⟨q_r1_d1, z_d1⟩, z_r1, APr⟩ := AP
  have z_f1 := zf1
  have z_d1 := zd1
  have z_r1 := zr1
  clear zf1 zd1 zr1
  refine' code_cellsS0 ?k1 ?k2 ?k3 ?k4 ?k5 ?kA ?k6 ?k7 ?k8 ?k9 ?kB ?kD ?_ ?cK ?c2 ?c3 ?c4
  (case kA => exact rfl)
  (case k1 => k_asm)
  (case k2 => k_asm)
  (case k3 => k_asm)
  (case k4 => k_asm)
  (case k5 => k_asm)
  (case k6 => k_is)
  (case k7 => k_is)
  (case k8 => k_room)
  (case k9 => first | exact BindsTo.of_eq rfl | exact binds_K (by k_in) rfl (by k_is) rfl rfl rfl)
  (case kB => exact rfl)
  (case kD => decide +kernel)
  (case cK => exact rfl)
  (case c2 => exact rfl)
  (case c3 => exact rfl)
  (case c4 => exact rfl)
  intro g' L' h' tk' cells' FG' F' N' Y' B' X' T' D' l1
  (try k_lt l1)
  k_cells Y'
  (try simp only [List.cons_append, List.nil_append] at N')
  (try dsimp only)
  (try k_lift B')
  (try k_fold)
  k_steps
  unfold StopAt
  refine compRest_ind (TupTurn (10 * a) _) ?step ?last _ _ _ _ (Nat.zero_add _) (TupTurn.zero _ _)
  case step =>
    intro i ys news' hi hG v I oI C oC D m₂ h₁ tk₁ E' hv hC hx F₁ N₁ off ne
    refine hide fun GG back => ?_
    obtain ⟨t9, rfl⟩ := hv
    have hG' := hG
    obtain ⟨ps, hlen, hys, hsub, hobj, hfr⟩ := hG
    have N₂ := news_both N₁ hsub
    have off₂ := off3_both off hsub
    simp only [List.cons_append] at N₂
    clear N₁ off
    refine back ?_
    clear back GG
    k_steps
    rename_i hA9 l9
    unfold StopAt
    exact TupTurn.next hG' (by omega) (lt_left hA9)
  intro ys news' hG
  refine hide fun GG back => ?_
  obtain ⟨qs, hlen, hys, hsub, hobj, hfr⟩ := hG
  have hyl : (ys.length : Int) = k := by rw [hys, refs, List.length_map, hlen]; omega
  subst hys
  refine back ?_
  clear back GG
  have hql : ((qs.length : Nat) : Int) = k := by omega
  first | unfold LCg.FinE | unfold LCg.FinA
  intro D h₂ tk₂ F₂ N₂ o₂
  have hrl : ((refs ps).length : Int) = k := by rw [refs, List.length_map]; omega
  have o2r : Off r1 D := off1_mem o₂ (hsub (r1, _) (by k_mem))
  have hoff := off_app z_r1 (off_tup (b := 10 * a) (i := 0) (ps := qs) fun p hp => (hfr p hp (r1, _) (by k_mem)).symm)
  have N₃ := fin_news N₂ hsub hobj
  simp only [List.cons_append] at N₃
  clear N₂ o₂ hobj
  k_steps
  unfold StopAt
  refine compRest_ind (GetTurn ps _) ?step2 ?last2 _ _ _ _ (Nat.zero_add _) (GetTurn.zero _ _)
  case step2 =>
    intro i ys news' hi hG v I oI C oC D m₂ h₁ tk₁ E' hv hC hx F₁ N₁ off ne
    refine hide fun GG back => ?_
    obtain ⟨t9, rfl⟩ := ks_at (by assumption) hv
    have hi' := ks_lt (by assumption) hi
    obtain ⟨p, hp⟩ : ∃ p, ps[i]? = some p := ⟨ps[i], List.getElem?_eq_getElem (by omega)⟩
    have N₂ := news_both N₁ hG.2
    have off₂ := off3_both off hG.2
    simp only [List.cons_append] at N₂
    clear N₁ off
    refine back ?_
    clear back GG
    k_steps
    unfold StopAt
    exact GetTurn.next hG hp
  intro ys2 news2 hG2
  obtain ⟨hy2, hs2⟩ := hG2
  rw [ks_take (by assumption) (by omega)] at hy2
  subst hy2
  unfold LCg.FinE
  intro D2 h₃ tk₃ F₃ N₄ o₃
  have o3r : Off r1 D2 := off1_mem o₃ (hs2 (r1, _) (by k_mem))
  have N₅ := fin_news N₄ hs2 (ts := []) (by simp)
  simp only [List.cons_append, List.append_nil] at N₅
  clear N₄ o₃
  k_steps
  rw [show (wo1 == 3 + a) = true from by rw [hw]; exact beq_self_eq_true _]
  refine' H  _ _ ?e0_0 ?e0_1
  (case e0_0 => k_asm)
  (case e0_1 => (refine cb_drop (by assumption) ?_; ((repeat (refine List.forall_mem_cons.mpr ⟨by k_mem, ?_⟩)); first | exact List.forall_mem_nil _ | (intro p hp; (repeat (first | exact hp | exact List.mem_append_left _ hp | exact List.mem_append_right _ hp | exact List.mem_append_left _ (List.mem_append_left _ hp) | exact List.mem_append_left _ (List.mem_append_right _ hp) | refine List.Mem.tail _ ?_)); done))))
end
section
theorem words19 : True := by
  w_top off
  k_with_none
  k_with "callWith ref" =>
    (k_here; (with_reducible show wpAny _ _ (callWith _ _ _ (backTo _ (starEach [] _)) []) _ _ _); k_dflt (refine' callWith_K0 ?k1_w ?k2_w ?_; (case k1_w => (refine' in_keeps ?F_w ?X_w; (case F_w => with_reducible assumption); (case X_w => with_reducible assumption))); (case k2_w => k_is); k_whole; (try dsimp only [List.nil_append, List.cons_append])))
  k_with "call ref nil" =>
    (k_here; dsimp only [List.cons_append, List.nil_append])
  k_with "call type:tuple" =>
    (k_here; (with_reducible show wpAny _ _ (call (Value.type _) [Value.ref _]) _ _ _); k_dflt (first | (refine' tuple_same_N ?N_w ?m_w ?_; (case N_w => k_asm); (case m_w => k_mem); k_whole) | (refine' tuple_same_K ?F_w ?X_w ?l_w ?_; (case F_w => k_asm); (case X_w => k_asm); (case l_w => k_is); k_whole)))
  k_with "CompSrc" =>
    (k_here; k_dflt (first
  | refine LCg.CompSrc.range (by rfl) (by k_asm) (by k_asm) (by assumption) (by first | exact small_one (by omega) (by omega) (by omega) (by omega) | decide) (by first | exact rangeSize_nat _ _ | rfl) (by rw [PySem.sizeLine_eq]; omega) ?_
  | refine LCg.CompSrc.ledger (by rfl) (by k_asm) (by k_asm) (by k_mem) (by first | exact ks_size (by assumption) (by omega) | (rw [PySem.sizeLine_eq]; (simp only [List.size_toArray, List.length_append, List.length_cons, List.length_nil]); omega)) ?_); intro g'w; refine StopAt.go ?_)
  k_with "CompEnd" =>
    (k_here; k_dflt (first | refine compEnd_none (by k_asm) (by k_asm) (by assumption) (by first | exact True.intro | lcg_src) ?_ | refine compEnd_one (by k_asm) (by k_asm) (by assumption) (by k_ne) (by k_ne) (by k_ne) (by first | exact True.intro | lcg_src) ?_); refine StopAt.go ?_)
  k_with "binaryOp Mult ref int" =>
    (k_here; (with_reducible show wpAny _ _ (binaryOp Operator.Mult (Value.ref _) (Value.int _ _)) _ _ _); k_dflt (refine' mul_two ?F_w ?N_w ?m_w ?e_w ?_; (case F_w => k_asm); (case N_w => k_asm); (case m_w => k_mem); (case e_w => first | rfl | exact room_is _ | ((try simp only [List.size_toArray]); split <;> omega)); k_whole); intro D'w h'w F'w N'w l1w; (try k_lt l1w); (try k_sweep))
  k_with "subscriptTail" =>
    (k_here; (with_reducible show wpAny _ _ (subscriptTail _ _ (Value.ref _) (Value.int (-1) _)) _ _ _); (with_unfolding_all refine item_last (by assumption) (by k_mem) (by omega) ?_))
  k_with "setItem ref int" =>
    (k_here; (with_reducible show wpAny _ _ (setItem (Value.ref _) (Value.int (-1) _) _) _ _ _); k_dflt (refine' set_last ?F_w ?N_w ?m_w ?U_w ?z_w ?_; (case F_w => k_asm); (case N_w => k_asm); (case m_w => k_mem); (case U_w => k_upd); (case z_w => omega)); (intro h'w F'w N'w; (try dsimp only [List.nil_append, List.cons_append] at N'w)))
  k_with "call builtin:list.pop" =>
    (k_here; (with_reducible show wpAny _ _ (call (Value.builtin _) [Value.ref _]) _ _ _); k_dflt (refine' pop_last ?F_w ?N_w ?m_w ?U_w ?z_w ?_; (case F_w => k_asm); (case N_w => k_asm); (case m_w => k_mem); (case U_w => k_upd); (case z_w => omega)); (intro h'w F'w N'w; (try dsimp only [List.nil_append, List.cons_append] at N'w)))
  k_with "call ref" =>
    (k_here; (show wpAny _ _ (call (Value.ref 52) [Value.str _ _]) _ _ _); k_dflt (refine' fault_K ?F_w ?N_w ?X_w ?hh_w ?d_w ?u_w ?_; (case F_w => k_asm); (case N_w => k_asm); (case X_w => k_asm); (case hh_w => rfl); (case d_w => (simp only [depth_deeper, depth_caller]; decide)); (case u_w => (simp only [units_deeper, units_caller]; decide)); intro h'w tk'w e'w t'w de'w F'w N'w l1w; (have l2 := l1w); (try simp only [OffAll, and_true] at l2); (repeat (rcases l2 with ⟨_, l2⟩)); (try k_sweep)))
  k_with "call ref" =>
    (k_here; (show wpAny _ _ (call (Value.ref 71) [Value.ref _]) _ _ _); k_dflt (refine' thrown_K ?F_w ?N_w ?X_w ?hh_w ?d_w ?u_w ?_; (case F_w => k_asm); (case N_w => k_asm); (case X_w => k_asm); (case hh_w => rfl); (case d_w => (simp only [depth_deeper, depth_caller]; decide)); (case u_w => (simp only [units_deeper, units_caller]; decide)); intro h'w tk'w e'w t'w de'w k1'w k2'w k3'w t1'w t2'w t3'w mv'w F'w N'w l1w l2w l3w; (try simp only [OffAll, and_true] at l1w l2w); (repeat (rcases l1w with ⟨_, l1w⟩)); (repeat (rcases l2w with ⟨_, l2w⟩)); (try k_sweep)))
  k_with "exec Raise some none" =>
    (k_here; k_dflt (refine' Raise_own ?X_w ?hh_w ?_; (case X_w => k_asm); (case hh_w => rfl)))
  k_with "RaiseQ" =>
    (k_here; k_dflt (refine' raiseQ_K ?F_w ?N_w ?X_w ?q_w ?m_w ?_; (case F_w => k_asm); (case N_w => k_asm); (case X_w => k_asm); (case m_w => k_mem); (case q_w => kts_isx); k_whole))
  k_with "leaving ref" =>
    (k_here; k_dflt (first
  | (refine' leave_raiseD ?K_w ?F_w ?N_w ?m_w ?s_w ?_; (case F_w => k_asm); (case N_w => k_asm); (case K_w => k_asm); (case m_w => k_mem); (case s_w => first | exact off_e (by assumption) | exact off_e (by (simp only [OffAll]; (repeat' (first | assumption | exact True.intro | exact ⟨by k_ne⟩ | refine And.intro ?_ ?_)); done))); k_whole)
  | (refine' leave_onD ?K_w ?F_w ?R_w ?U_w ?_; (case R_w => k_asm); (case F_w => k_asm); (case K_w => k_asm); (case U_w => k_asm); k_whole)); intro h'w R'w U'w; (try dsimp only at R'w U'w ⊢))
  k_with "noteFrame ref" =>
    (k_here; k_dflt (first
  | ((with_reducible show wpAny _ _ (noteFrame _ _) (fun _ s₂ => wpAny _ _ (setFlight _ none) (fun _ s₃ => wpAny _ _ (handleBy _ _ (ExceptHandler.ExceptHandler (some (Expr.Name _ _)) (some _) _ _ :: _)) _ _ s₃) _ s₂) _ _); refine' caught_DB ?R_w ?F_w ?K_w ?U_w ?XB_w ?TB_w ?D_w ?T0_w ?ex_w ?q_w ?_; (case R_w => k_asm); (case F_w => k_asm); (case K_w => k_asm); (case U_w => k_asm); (case XB_w => k_asm); (case TB_w => k_asm); (case D_w => k_asm); (case T0_w => first | k_asm | exact KtsTurn.refl); (case ex_w => k_is); (case q_w => kts_isx); k_whole; intro h'w g'w ws'w tk'w T'w F'w N'w K'w X'w P'w D'w)
  | ((with_reducible show wpAny _ _ (noteFrame _ _) (fun _ s₂ => wpAny _ _ (setFlight _ none) (fun _ s₃ => wpAny _ _ (handleBy _ _ (ExceptHandler.ExceptHandler (some (Expr.Name _ _)) none _ _ :: _)) _ _ s₃) _ s₂) _ _); refine' caught_D0 ?R_w ?F_w ?K_w ?U_w ?XB_w ?TB_w ?D_w ?T0_w ?ex_w ?q_w ?_; (case R_w => k_asm); (case F_w => k_asm); (case K_w => k_asm); (case U_w => k_asm); (case XB_w => k_asm); (case TB_w => k_asm); (case D_w => k_asm); (case T0_w => first | k_asm | exact KtsTurn.refl); (case ex_w => k_is); (case q_w => kts_isx); k_whole; intro h'w g'w ws'w T'w F'w N'w K'w X'w P'w D'w)
  | ((with_reducible show wpAny _ _ (noteFrame _ _) (fun _ s₂ => wpAny _ _ (setFlight _ none) (fun _ s₃ => wpAny _ _ (handleBy _ _ (ExceptHandler.ExceptHandler (some (Expr.Name _ _)) none _ _ :: _)) _ _ s₃) _ s₂) _ _); refine' caught_D0C ?R_w ?F_w ?K_w ?U_w ?XB_w ?TB_w ?D_w ?T0_w ?ex_w ?q_w ?_; (case R_w => k_asm); (case F_w => k_asm); (case K_w => k_asm); (case U_w => k_asm); (case XB_w => k_asm); (case TB_w => k_asm); (case D_w => k_asm); (case T0_w => first | k_asm | exact KtsTurn.refl); (case ex_w => k_is); (case q_w => kts_isx); k_whole; intro h'w g'w ws'w T'w F'w N'w K'w X'w P'w D'w)); (try k_lift K'w); (try k_sweep))
  k_with "getAttr ref" =>
    (k_here; (with_reducible show wpAny _ _ (getAttr (Value.ref _) (PySem.Str.ofString "value") _) _ _ _); k_dflt (refine' value_K ?F_w ?N_w ?X_w ?he_w ?hd_w ?d_w ?u_w ?_; (case F_w => k_asm); (case N_w => k_asm); (case X_w => k_asm); (case he_w => k_mem); (case hd_w => k_mem); (case d_w => (simp only [depth_mark, depth_deeper, depth_caller]; decide)); (case u_w => (simp only [Around.mark_units, units_deeper, units_caller]; decide)); intro tk'w))
  exact trivial
theorem words20 : True := by
  k_with "compareOp Eq ref ref" =>
    (k_here; k_dflt (refine' eq_same_tup ?N_w ?a_w ?b_w ?l_w ?u_w ?_; (case N_w => k_asm); (case a_w => k_mem); (case b_w => k_mem); (case l_w => ((repeat (first | exact SameL.nil _ | refine SameL.cons ?_ ?_ | exact SameV.same _ _ | exact SameV.int _ _ _ _ | exact SameV.str _ _ _ _ | exact SameV.bytes _ _ _ _ | refine SameV.tuple (by k_mem) (by k_mem) ?_)); done)); (case u_w => ke_room); k_whole))
  k_with "compareOp NotEq ref ref" =>
    (k_here; k_dflt (refine' ne_same_tup ?N_w ?a_w ?b_w ?l_w ?u_w ?_; (case N_w => k_asm); (case a_w => k_mem); (case b_w => k_mem); (case l_w => ((repeat (first | exact SameL.nil _ | refine SameL.cons ?_ ?_ | exact SameV.same _ _ | exact SameV.int _ _ _ _ | exact SameV.str _ _ _ _ | exact SameV.bytes _ _ _ _ | refine SameV.tuple (by k_mem) (by k_mem) ?_)); done)); (case u_w => ke_room); k_whole))
  exact trivial

local macro_rules | `(tactic| k_mem) => `(tactic| ((repeat (first | with_reducible assumption | exact List.Mem.head _ | refine List.Mem.tail _ ?_)); done))
theorem again_none {w : World} {fa L : Addr} {cd : Value} {mg mb : Str → Option Value} {mean : ExcName → Option Value} {h₀ : Heap} {m : Str → Option Value} {s : Shared} {rest : List (Addr × Obj)} {R : Result → Shared → Prop} {f1 d1 c r st h1 : Addr} {u1 u2 u3 u4 u5 u6 u7 u8 ta tw : Tok} {at1 wo : Int} {v1 : Value}
  (B : Below callerA h₀ [] h₀) (F : Fr h₀ L s.heap m) (X₀ : (hd.heap_39 w.params).In h₀) (T : Top VW (looseW VW LS) mean mg mb h₀)
  (N : News h₀ L s.heap (rest))
  (m1 : (f1, instObj 172 d1) ∈ rest) (m2 : (d1, frD w u1 u2 u3 u4 u5 u6 u7 u8 ta tw c r st h1 at1 wo v1) ∈ rest) (hv : v1 = .none)
  (H : ∀ h' tk', Fr h₀ L h' m → News h₀ L h' rest → R (.ok (.ret (.bool true))) { s with heap := h', toks := tk' }) :
  codeAny (model Challenge.rw_pc0196_01.row.prog w) (callerA.deeper (lawEnv L fa cd)) (.call (.ref 328) ⟨[.ref f1, v1], []⟩) R s := by
  obtain ⟨sh, sg, sd, sk, so⟩ := s
  dsimp only at F N H ⊢
  subst hv
  k_enter
  k_steps
  refine H _ _ (by k_asm) ?_
  (refine cb_drop (by assumption) ?_; ((repeat (refine List.forall_mem_cons.mpr ⟨by k_mem, ?_⟩)); first | exact List.forall_mem_nil _ | (intro p hp; (repeat (first | exact hp | exact List.mem_append_left _ hp | exact List.mem_append_right _ hp | exact List.mem_append_left _ (List.mem_append_left _ hp) | exact List.mem_append_left _ (List.mem_append_right _ hp) | refine List.Mem.tail _ ?_)); done)))
theorem again_some {w : World} {fa L : Addr} {cd : Value} {mg mb : Str → Option Value} {mean : ExcName → Option Value} {h₀ : Heap} {m : Str → Option Value} {s : Shared} {rest : List (Addr × Obj)} {R : Result → Shared → Prop} {f1 d1 c r st h1 : Addr} {u1 u2 u3 u4 u5 u6 u7 u8 ta tw : Tok} {at1 wo : Int} {v1 : Value} {va : Addr} {x1 x2 : Tok} {bb : Array UInt8}
  (B : Below callerA h₀ [] h₀) (F : Fr h₀ L s.heap m) (X₀ : (hd.heap_39 w.params).In h₀) (T : Top VW (looseW VW LS) mean mg mb h₀)
  (N : News h₀ L s.heap (rest))
  (m1 : (f1, instObj 172 d1) ∈ rest) (m2 : (d1, frD w u1 u2 u3 u4 u5 u6 u7 u8 ta tw c r st h1 at1 wo v1) ∈ rest) (m3 : (va, ({ cls := .type "tuple", data := .seq #[Value.str "text" x1, Value.bytes bb x2] } : Obj)) ∈ rest) (hv : v1 = .ref va)
  (H : ∀ h' tk', Fr h₀ L h' m → News h₀ L h' rest → R (.ok (.ret (.bool true))) { s with heap := h', toks := tk' }) :
  codeAny (model Challenge.rw_pc0196_01.row.prog w) (callerA.deeper (lawEnv L fa cd)) (.call (.ref 328) ⟨[.ref f1, v1], []⟩) R s := by
  obtain ⟨sh, sg, sd, sk, so⟩ := s
  dsimp only at F N H ⊢
  subst hv
  k_enter
  k_steps
  refine H _ _ (by k_asm) ?_
  (refine cb_drop (by assumption) ?_; ((repeat (refine List.forall_mem_cons.mpr ⟨by k_mem, ?_⟩)); first | exact List.forall_mem_nil _ | (intro p hp; (repeat (first | exact hp | exact List.mem_append_left _ hp | exact List.mem_append_right _ hp | exact List.mem_append_left _ (List.mem_append_left _ hp) | exact List.mem_append_left _ (List.mem_append_right _ hp) | refine List.Mem.tail _ ?_)); done)))
end
section
open PySem PySem.W PyProof.Rows PySem.Calls PyProof.V PySem.Spec
theorem map4 {a b c d a' b' c' d' : Addr × Obj} {x y : List (Addr × Obj)} (h : x.Sublist y) (h1 : a.1 = a'.1) (h2 : b.1 = b'.1) (h3 : c.1 = c'.1) (h4 : d.1 = d'.1) : (keys (a :: b :: c :: d :: x)).Sublist (keys (a' :: b' :: c' :: d' :: y)) := by
  simp only [keys, List.map_cons, h1, h2, h3, h4]
  exact .cons_cons _ (.cons_cons _ (.cons_cons _ (.cons_cons _ (h.map _))))
theorem objs_inj {w : World} {b c : Cell} (h : b.objs w = c.objs w) : b.f = c.f ∧ b.d = c.d ∧ b.h = c.h ∧ b.t = c.t ∧ b.l = c.l ∧ b.hs = c.hs := by
  simp only [Cell.objs, List.cons.injEq, Prod.mk.injEq, Obj.mk.injEq, W.listOf] at h
  obtain ⟨⟨h1, _⟩, ⟨h2, _⟩, ⟨h3, h4⟩, ⟨h5, _⟩, ⟨h6, _⟩, _⟩ := h
  refine ⟨h1, h2, h3, h5, h6, ?_⟩
  have h4 := h4
  simp at h4
  exact h4.1
theorem thrown_b {w : World} {fa L : Addr} {cd : Value} {mg mb : Str → Option Value} {mean : ExcName → Option Value} {h₀ : Heap} {m : Str → Option Value} {s : Shared} {rest : List (Addr × Obj)} {R : Result → Shared → Prop} {FO dF FL RO : Addr} {tm : Tok} {q : Int} {tq : Tok} {va : Addr} {bs : List Box} {n2 n3 nv : Nat} {vi : List Value}
  (B : Below callerA h₀ [] h₀) (F : Fr h₀ L s.heap m) (X₀ : (hd.heap_39 w.params).In h₀) (T : Top VW (looseW VW LS) mean mg mb h₀)
  (N : News h₀ L s.heap ((FO, instObj 242 dF) :: (dF, rowsD w tm FL) :: (FL, listOf (fsOf bs).toArray n2) :: (RO, listOf (tsOf bs).toArray n3) :: (boxTl w bs ++ (va, ({ cls := .type "tuple", data := .seq vi.toArray nv } : Obj)) :: rest)))
  (q0 : 0 ≤ q) (hq : q ≤ bs.length) (hl : bs.length ≤ 9) (hg : ∀ b ∈ bs, b.c.Ok ∧ b.c.ns.length ≤ 9)
  (AP : Apart ((FO, instObj 242 dF) :: (dF, rowsD w tm FL) :: (FL, listOf (fsOf bs).toArray n2) :: (RO, listOf (tsOf bs).toArray n3) :: (boxTl w bs ++ (va, ({ cls := .type "tuple", data := .seq vi.toArray nv } : Obj)) :: rest)))
  (H : ∀ h' tk' n2' n3' bs', Fr h₀ L h' m → News h₀ L h' ((FO, instObj 242 dF) :: (dF, rowsD w tm FL) :: (FL, listOf (fsOf bs').toArray n2') :: (RO, listOf (tsOf bs').toArray n3') :: (boxTl w bs' ++ rest)) →
    Apart ((FO, instObj 242 dF) :: (dF, rowsD w tm FL) :: (FL, listOf (fsOf bs').toArray n2') :: (RO, listOf (tsOf bs').toArray n3') :: (boxTl w bs' ++ rest)) → bs'.length ≤ bs.length →
    (∀ b ∈ bs', b ∈ bs ∨ (b.c.Ok ∧ (∃ b0 ∈ bs, b.c.ns.length ≤ b0.c.ns.length) ∧ b.c.v = .ref va ∧ b.ex = [(va, ({ cls := .type "tuple", data := .seq vi.toArray nv } : Obj))])) → R (.ok (.ret (.bool true))) { s with heap := h', toks := tk' }) :
  codeAny (model Challenge.rw_pc0196_01.row.prog w) (callerA.deeper (lawEnv L fa cd)) (.call (.ref 316) ⟨[.ref FO, .ref RO, .int q tq, .ref va], []⟩) R s := by
  obtain ⟨es, bs', e, h2, h1, h3⟩ := split_idle q.toNat bs (by omega)
  subst e
  have hle : es.length + bs'.length ≤ 9 := by simpa using hl
  have hces : (cellsOf es).length = es.length := by simp [cellsOf]
  have hidle : ∀ tl, (∀ p ∈ boxTl w es, p ∈ tl) → Idle w tl (cellsOf es) := by
    intro tl k c hc
    obtain ⟨b, hb, rfl⟩ := List.mem_map.mp hc
    refine ⟨h1 b hb, (hg b (List.mem_append_left _ hb)).1, fun p hp => k p (List.mem_flatMap.mpr ⟨b, hb, List.mem_append_left _ hp⟩)⟩
  rw [fs_app, ts_app, tl_app] at N AP
  rcases h3 with h3 | ⟨b, r, rfl, hb, hr⟩
  · have SB : (boxTl w bs' ++ rest).Sublist (boxTl w es ++ (boxTl w bs' ++ (va, ({ cls := .type "tuple", data := .seq vi.toArray nv } : Obj)) :: rest)) := ((List.Sublist.refl _).append (List.sublist_cons_self _ _)).trans (List.sublist_append_right _ _)
    rw [List.append_assoc] at N AP
    refine thrown_c (top := []) (fx := fsOf bs') (fy := tsOf bs') (es := cellsOf es) (rest := boxTl w es ++ (boxTl w bs' ++ (va, ({ cls := .type "tuple", data := .seq vi.toArray nv } : Obj)) :: rest)) (vi := vi) (nv := nv) (n2 := n2) (n3 := n3) (tm := tm) (dF := dF) (FL := FL) B F X₀ T N q0 (by rw [fs_len]; omega) (by rw [fs_len, ts_len]) (by rw [fs_len]; omega) (by omega) ?_ (.inl ⟨rfl, by rw [fs_len]; omega⟩) ?_ AP ?_ ?_
    · exact List.mem_append_right _ (List.mem_append_right _ (.head _))
    · exact hidle _ fun p hp => List.mem_append_right _ (List.mem_append_left _ hp)
    · intro _ h' tk' n2' n3' F' N'
      refine H h' tk' n2' n3' bs' F' (news_pick N' (.cons_cons _ (.cons_cons _ (.cons_cons _ (.cons_cons _ SB))))) (AP.sub (map4 SB rfl rfl rfl rfl)) (by simp) fun b hb => .inl (List.mem_append_right _ hb)
    · intro xs ys c _ _ ht
      exact absurd ht (by simp [Cell.objs])
  · have hgb := hg b (List.mem_append_right _ (.head _))
    have hxr : (fsOf r).length ≤ 8 := by rw [fs_len]; simp at hle; omega
    rw [fs_cons, ts_cons, tl_cons] at N AP
    have N1 : News h₀ L s.heap ((FO, instObj 242 dF) :: (dF, rowsD w tm FL) :: (FL, listOf (fsOf r ++ [Value.ref b.c.f] ++ (refF (cellsOf es)).reverse).toArray n2) :: (RO, listOf (tsOf r ++ [Value.ref b.c.t] ++ (refT (cellsOf es)).reverse).toArray n3) :: (b.c.objs w ++ (va, ({ cls := .type "tuple", data := .seq vi.toArray nv } : Obj)) :: (boxTl w r ++ (rest ++ (b.ex ++ boxTl w es))))) := cb_drop N (fun p hp => by
      simp only [List.mem_cons, List.mem_append, Box.all] at hp ⊢
      grind)
    have AP1 : Apart ((FO, instObj 242 dF) :: (dF, rowsD w tm FL) :: (FL, listOf (fsOf r ++ [Value.ref b.c.f] ++ (refF (cellsOf es)).reverse).toArray n2) :: (RO, listOf (tsOf r ++ [Value.ref b.c.t] ++ (refT (cellsOf es)).reverse).toArray n3) :: (b.c.objs w ++ (va, ({ cls := .type "tuple", data := .seq vi.toArray nv } : Obj)) :: (boxTl w r ++ (rest ++ (b.ex ++ boxTl w es))))) := AP.perm (by
      simp only [keys, List.map_cons, List.map_append, Box.all]
      refine .cons _ (.cons _ (.cons _ (.cons _ ?_)))
      generalize List.map (·.1) (boxTl w es) = E
      generalize List.map (·.1) (b.c.objs w) = C
      generalize List.map (·.1) b.ex = X
      generalize List.map (·.1) (boxTl w r) = Y
      generalize List.map (·.1) rest = Z
      simp only [List.append_assoc]
      refine List.perm_append_comm.trans ?_
      simp only [List.append_assoc]
      refine .append_left _ ?_
      refine List.perm_append_comm.trans ?_
      simp only [List.append_assoc, List.cons_append]
      refine List.perm_middle.trans (.cons _ (.append_left _ (.append_left _ ?_)))
      exact List.perm_append_comm)
    have hAP := AP1
    refine thrown_c (top := b.c.objs w) (fx := fsOf r ++ [Value.ref b.c.f]) (fy := tsOf r ++ [Value.ref b.c.t]) (es := cellsOf es) (rest := (va, ({ cls := .type "tuple", data := .seq vi.toArray nv } : Obj)) :: (boxTl w r ++ (rest ++ (b.ex ++ boxTl w es)))) (vi := vi) (nv := nv) (n2 := n2) (n3 := n3) (tm := tm) (dF := dF) (FL := FL) B F X₀ T N1 q0 (by simp only [List.length_append, List.length_cons, List.length_nil]; omega) (by simp only [List.length_append, List.length_cons, List.length_nil, fs_len, ts_len]) (by simp only [List.length_append, List.length_cons, List.length_nil, fs_len]; omega) (by omega) (.head _) (.inr ⟨fsOf r, tsOf r, b.c, rfl, rfl, rfl, by rw [fs_len]; omega, hgb.1, hb, hgb.2⟩) ?_ AP1 ?_ ?_
    · refine hidle _ fun p hp => ?_
      exact List.mem_append_right _ (.tail _ (List.mem_append_right _ (List.mem_append_right _ (List.mem_append_right _ hp))))
    · intro ht
      exact absurd ht (by simp [Cell.objs])
    · intro xs ys c ex ey et hok h' tk' n2' n3' n5' t' l' K K' ta' x' hs' ls' n0 n0' F' N' ot ol o1 o2 o3 i1 i2 e1 e2 en
      obtain ⟨ef, ed, eh, _, _, ehs⟩ := objs_inj et
      have exs : xs = fsOf r := ((List.append_inj' ex rfl).1).symm
      have eys : ys = tsOf r := ((List.append_inj' ey rfl).1).symm
      subst exs eys e1 e2
      have hnl : n0'.length ≤ b.c.ns.length := by
        have a1 := hok.hs.length
        have a2 := hgb.1.hs.length
        rw [ehs] at a2
        rw [en] at a1
        simp at a1
        omega
      have A1 : Apart ((FO, instObj 242 dF) :: (dF, rowsD w tm FL) :: (FL, listOf (fsOf r ++ [Value.ref b.c.f] ++ (refF (cellsOf es)).reverse).toArray n2) :: (RO, listOf (tsOf r ++ [Value.ref b.c.t] ++ (refT (cellsOf es)).reverse).toArray n3) :: (c.f, instObj 172 c.d) :: (c.d, frD w c.u1 c.u2 c.u3 c.u4 c.u5 c.u6 c.u7 c.u8 ta' c.tw c.c c.r c.st c.h K' c.wo (.ref va)) :: (c.h, listOf hs'.toArray n5') :: (va, ({ cls := .type "tuple", data := .seq vi.toArray nv } : Obj)) :: (boxTl w r ++ rest)) := AP1.sub (by
        rw [et]
        simp only [keys, List.map_cons, List.map_append, Cell.objs, List.cons_append, List.nil_append]
        exact .cons_cons _ (.cons_cons _ (.cons_cons _ (.cons_cons _ (.cons_cons _ (.cons_cons _ (.cons_cons _ (.cons _ (.cons _ (.cons_cons _ (.append (.refl _) (List.sublist_append_left _ _))))))))))))
      have sub : ∀ p ∈ (boxTl w r ++ rest), p ∈ (boxTl w r ++ (rest ++ (b.ex ++ boxTl w es))) := fun p hp => by
        simp only [List.mem_append] at hp ⊢
        grind
      have A2 := Apart.perm (l' := (FO, instObj 242 dF) :: (dF, rowsD w tm FL) :: (FL, listOf (fsOf r ++ [Value.ref c.f]).toArray n2') :: (RO, listOf (tsOf r ++ [Value.ref t']).toArray n3') :: (c.f, instObj 172 c.d) :: (c.d, frD w c.u1 c.u2 c.u3 c.u4 c.u5 c.u6 c.u7 c.u8 ta' c.tw c.c c.r c.st c.h K' c.wo (.ref va)) :: (c.h, listOf hs'.toArray n5') :: (t', ({ cls := .type "tuple", data := .seq #[.ref l', .int K' x', .ref va] } : Obj)) :: (l', listOf ls'.toArray 0) :: (va, ({ cls := .type "tuple", data := .seq vi.toArray nv } : Obj)) :: (boxTl w r ++ rest))
        (l := (t', ({ cls := .type "tuple", data := .seq #[.ref l', .int K' x', .ref va] } : Obj)) :: (l', listOf ls'.toArray 0) :: (FO, instObj 242 dF) :: (dF, rowsD w tm FL) :: (FL, listOf (fsOf r ++ [Value.ref b.c.f] ++ (refF (cellsOf es)).reverse).toArray n2) :: (RO, listOf (tsOf r ++ [Value.ref b.c.t] ++ (refT (cellsOf es)).reverse).toArray n3) :: (c.f, instObj 172 c.d) :: (c.d, frD w c.u1 c.u2 c.u3 c.u4 c.u5 c.u6 c.u7 c.u8 ta' c.tw c.c c.r c.st c.h K' c.wo (.ref va)) :: (c.h, listOf hs'.toArray n5') :: (va, ({ cls := .type "tuple", data := .seq vi.toArray nv } : Obj)) :: (boxTl w r ++ rest)) ⟨?_, ?_, A1⟩ ?_
      · refine H h' tk' n2' n3' (⟨⟨c.f, c.d, c.h, t', l', c.c, c.r, c.st, c.u1, c.u2, c.u3, c.u4, c.u5, c.u6, c.u7, c.u8, ta', c.tw, x', K', c.wo, .ref va, hs', ls', n0', n5', 0⟩, [(va, ({ cls := .type "tuple", data := .seq vi.toArray nv } : Obj))]⟩ :: r) F' ?_ ?_ (by simp) ?_
        · rw [fs_cons, ts_cons, tl_cons]
          exact cb_drop N' (fun p hp => by
            simp only [List.mem_cons, List.mem_append, Box.all, Cell.objs, List.not_mem_nil] at hp ⊢
            grind)
        · rw [fs_cons, ts_cons, tl_cons]
          exact A2
        · intro x hx
          rcases List.mem_cons.mp hx with rfl | hx
          · exact .inr ⟨⟨i1, i2⟩, ⟨b, List.mem_append_right _ (.head _), hnl⟩, rfl, rfl⟩
          · exact .inl (List.mem_append_right _ (.tail _ hx))
      · simp only [OffAll] at ot ol ⊢
        obtain ⟨p1, p2, p3, p4, p5, p6, p7, p8⟩ := ot
        exact ⟨o1, p1, p2, p3, o2, p4, p5, p6, p7, offAll_of fun p hp => p8.all p (sub p hp)⟩
      · simp only [OffAll] at ot ol ⊢
        obtain ⟨p1, p2, p3, p4, p5, p6, p7, p8⟩ := ol
        exact ⟨p1, p2, p3, o3, p4, p5, p6, p7, offAll_of fun p hp => p8.all p (sub p hp)⟩
      · exact List.perm_append_comm_assoc [t', l'] [FO, dF, FL, RO, c.f, c.d, c.h] (va :: keys (boxTl w r ++ rest))
end
section
open PySem PySem.W PyProof.Rows PySem.Calls PyProof.V PySem.Spec
theorem left_b {w : World} {fa L : Addr} {cd : Value} {mg mb : Str → Option Value} {mean : ExcName → Option Value} {h₀ : Heap} {m : Str → Option Value} {s : Shared} {rest : List (Addr × Obj)} {R : Result → Shared → Prop} {FO dF FL RO : Addr} {tm : Tok} {a : Int} {tk : Tok} {n2 n3 : Nat} {x : Box} {r : List Box}
  (B : Below callerA h₀ [] h₀) (F : Fr h₀ L s.heap m) (X₀ : (hd.heap_39 w.params).In h₀) (T : Top VW (looseW VW LS) mean mg mb h₀)
  (N : News h₀ L s.heap ((FO, instObj 242 dF) :: (dF, rowsD w tm FL) :: (FL, W.listOf (fsOf (x :: r)).toArray n2) :: (RO, W.listOf (tsOf (x :: r)).toArray n3) :: (boxTl w (x :: r) ++ rest)))
  (a0 : 0 ≤ a) (a3 : a < 3) (hl : r.length ≤ 9) (hok : x.c.Ok) (hn : x.c.ns.length ≤ 9)
  (AP : Apart ((FO, instObj 242 dF) :: (dF, rowsD w tm FL) :: (FL, W.listOf (fsOf (x :: r)).toArray n2) :: (RO, W.listOf (tsOf (x :: r)).toArray n3) :: (boxTl w (x :: r) ++ rest)))
  (H : ∀ h' tk' n2' n3' bs', Fr h₀ L h' m → News h₀ L h' ((FO, instObj 242 dF) :: (dF, rowsD w tm FL) :: (FL, W.listOf (fsOf bs').toArray n2') :: (RO, W.listOf (tsOf bs').toArray n3') :: (boxTl w bs' ++ rest)) → Apart ((FO, instObj 242 dF) :: (dF, rowsD w tm FL) :: (FL, W.listOf (fsOf bs').toArray n2') :: (RO, W.listOf (tsOf bs').toArray n3') :: (boxTl w bs' ++ rest)) → bs'.length ≤ (x :: r).length →
    (∀ y ∈ bs', y ∈ x :: r ∨ (y.c.Ok ∧ (∃ b0 ∈ x :: r, y.c.ns.length ≤ b0.c.ns.length) ∧ Left (x :: r) y)) → R (.ok (.ret (.bool true))) { s with heap := h', toks := tk' }) :
  codeAny (model Challenge.rw_pc0196_01.row.prog w) (callerA.deeper (lawEnv L fa cd)) (.call (.ref 309) ⟨[.ref FO, .ref RO, .int a tk], []⟩) R s := by
  have N1 := box_in N
  rw [fs_cons, ts_cons] at N1
  have AP1 := AP
  rw [fs_cons, ts_cons, tl_cons, Box.all, List.append_assoc, List.append_assoc, ← List.append_assoc x.ex] at AP1
  have N2 : News h₀ L s.heap ((x.c.d, frD w x.c.u1 x.c.u2 x.c.u3 x.c.u4 x.c.u5 x.c.u6 x.c.u7 x.c.u8 x.c.ta x.c.tw x.c.c x.c.r x.c.st x.c.h x.c.at_ x.c.wo x.c.v) :: (RO, W.listOf (tsOf r ++ [Value.ref x.c.t]).toArray n3) :: (FO, instObj 242 dF) :: (dF, rowsD w tm FL) :: (FL, W.listOf (fsOf r ++ [Value.ref x.c.f]).toArray n2) :: (x.c.f, instObj 172 x.c.d) :: (x.c.h, W.listOf x.c.hs.toArray x.c.n1) :: (x.c.t, ({ cls := .type "tuple", data := .seq #[Value.ref x.c.l, Value.int x.c.at_ x.c.x, x.c.v] } : Obj)) :: (x.c.l, W.listOf x.c.ls.toArray x.c.n4) :: (x.ex ++ boxTl w r ++ rest)) := fun p hp => N1 p (by
    simp only [Cell.objs, List.mem_cons, List.cons_append, List.nil_append] at hp ⊢
    grind)
  have A2 : Apart ((x.c.d, frD w x.c.u1 x.c.u2 x.c.u3 x.c.u4 x.c.u5 x.c.u6 x.c.u7 x.c.u8 x.c.ta x.c.tw x.c.c x.c.r x.c.st x.c.h x.c.at_ x.c.wo x.c.v) :: (RO, W.listOf (tsOf r ++ [Value.ref x.c.t]).toArray n3) :: (FO, instObj 242 dF) :: (dF, rowsD w tm FL) :: (FL, W.listOf (fsOf r ++ [Value.ref x.c.f]).toArray n2) :: (x.c.f, instObj 172 x.c.d) :: (x.c.h, W.listOf x.c.hs.toArray x.c.n1) :: (x.c.t, ({ cls := .type "tuple", data := .seq #[Value.ref x.c.l, Value.int x.c.at_ x.c.x, x.c.v] } : Obj)) :: (x.c.l, W.listOf x.c.ls.toArray x.c.n4) :: (x.ex ++ boxTl w r ++ rest)) := AP1.perm (by
    simp only [keys, Cell.objs, List.map_cons, List.map_append, List.cons_append, List.nil_append]
    exact (List.perm_middle (l₁ := [FO, dF, FL, RO, x.c.f])).trans ((List.perm_middle (l₁ := [FO, dF, FL])).cons _))
  refine left_c B F X₀ T N2 a0 a3 hok.hs hok.ls hn (by rw [fs_len]; omega) (by rw [ts_len]; omega) (.head _) (.tail _ (.head _)) (.tail _ (.tail _ (.head _))) (.tail _ (.tail _ (.tail _ (.head _)))) (.tail _ (.tail _ (.tail _ (.tail _ (.head _))))) (.tail _ (.tail _ (.tail _ (.tail _ (.tail _ (.head _)))))) (.tail _ (.tail _ (.tail _ (.tail _ (.tail _ (.tail _ (.head _))))))) A2.1.2 A2.2.1 A2.1.1 ?_ ?_
  · intro _ h' tk' F' N'
    refine H h' tk' n2 n3 (x :: r) F' ?_ AP (Nat.le_refl _) fun y hy => .inl hy
    rw [fs_cons, ts_cons, tl_cons, Box.all, List.append_assoc, List.append_assoc, ← List.append_assoc x.ex]
    exact fun p hp => N' p (by
      simp only [Cell.objs, List.mem_cons, List.cons_append, List.nil_append] at hp ⊢
      grind)
  · intro _ h' tk' D t' l' ws ws' F' N' oD ol ot i1 i2
    refine H h' tk' n2 n3 (⟨{ x.c with h := D, t := t', l := l', hs := ws, ls := ws', ns := x.c.ns.take ((x.c.ns.length : Int) - a).toNat, n1 := 0, n4 := 0 }, x.ex⟩ :: r) F' ?_ ?_ (by simp) fun y hy => ?_
    · rw [fs_cons, ts_cons, tl_cons, Box.all, List.append_assoc, List.append_assoc, ← List.append_assoc x.ex]
      exact fun p hp => N' p (by
        simp only [Cell.objs, List.mem_cons, List.cons_append, List.nil_append] at hp ⊢
        grind)
    · have kD := lt_keys oD
      have kl := lt_keys ol
      have kt := lt_keys ot
      simp only [keys, List.map_cons, List.forall_mem_cons] at kD kl kt
      refine AP1.swap (pre := [FO, dF, FL, RO, x.c.f, x.c.d]) (mid := [x.c.h, x.c.t, x.c.l]) (new := [D, t', l']) (post := keys (x.ex ++ boxTl w r ++ rest)) ?_ ?_ ?_ ?_
      · simp [keys, Cell.objs]
      · rw [tl_cons]; simp [keys, Box.all, Cell.objs]
      · simp
        grind
      · refine List.forall_mem_cons.mpr ⟨?_, List.forall_mem_cons.mpr ⟨?_, List.forall_mem_cons.mpr ⟨?_, List.forall_mem_nil _⟩⟩⟩
        all_goals simp only [List.mem_append, not_or, List.mem_cons, List.not_mem_nil, or_false]
        · exact ⟨⟨Ne.symm kD.2.2.1, Ne.symm kD.2.2.2.1, Ne.symm kD.2.2.2.2.1, Ne.symm kD.2.1, Ne.symm kD.2.2.2.2.2.1, Ne.symm kD.1⟩, fun hm => kD.2.2.2.2.2.2.2.2.2 _ hm rfl⟩
        · exact ⟨⟨Ne.symm kt.2.2.2.2.1, Ne.symm kt.2.2.2.2.2.1, Ne.symm kt.2.2.2.2.2.2.1, Ne.symm kt.2.2.2.1, Ne.symm kt.2.2.2.2.2.2.2.1, Ne.symm kt.2.2.1⟩, fun hm => kt.2.2.2.2.2.2.2.2.2.2.2 _ hm rfl⟩
        · exact ⟨⟨Ne.symm kl.2.2.2.1, Ne.symm kl.2.2.2.2.1, Ne.symm kl.2.2.2.2.2.1, Ne.symm kl.2.2.1, Ne.symm kl.2.2.2.2.2.2.1, Ne.symm kl.2.1⟩, fun hm => kl.2.2.2.2.2.2.2.2.2.2 _ hm rfl⟩
    · rcases List.mem_cons.mp hy with rfl | hy
      · exact .inr ⟨⟨i1, i2⟩, ⟨x, .head _, by simp [List.length_take]; omega⟩, ⟨x, .head _, rfl, rfl⟩⟩
      · exact .inl (.tail _ hy)
end
section
open PySem PySem.W PyProof.Rows PySem.Calls PyProof.V PySem.Spec
theorem lawM_id {S FO RO : Addr} {m : Str → Option Value} (h1 : m (Str.ofString "shaft") = some (.ref S)) (h2 : m (Str.ofString "frames") = some (.ref FO)) (h3 : m (Str.ofString "rows") = some (.ref RO)) : m = lawM S FO RO m (m (Str.ofString "turn")) := by
  rw [← lawM_of (m (Str.ofString "turn")) h1 h2 h3]
  funext z
  by_cases e : z = Str.ofString "turn"
  · rw [if_pos e, e]
  · rw [if_neg e]
theorem fs_rev (bs : List Box) : fsOf bs = refF (cellsOf bs).reverse := by simp [refF]
theorem ts_rev (bs : List Box) : tsOf bs = refT (cellsOf bs).reverse := by simp [refT]
theorem seen_b {w : World} {fa L : Addr} {cd : Value} {mg mb : Str → Option Value} {mean : ExcName → Option Value} {h₀ : Heap} {m : Str → Option Value} {s : Shared} {R : Result → Shared → Prop} {FO dF FL RO : Addr} {tm : Tok} {n2 n3 : Nat} {bs : List Box} {p1 p2 : Addr × Obj}
  (B : Below callerA h₀ [] h₀) (F : Fr h₀ L s.heap m) (X₀ : (hd.heap_39 w.params).In h₀) (T : Top VW (looseW VW LS) mean mg mb h₀)
  (N : News h₀ L s.heap (p1 :: p2 :: (FO, instObj 242 dF) :: (dF, rowsD w tm FL) :: (FL, W.listOf (fsOf bs).toArray n2) :: (RO, W.listOf (tsOf bs).toArray n3) :: boxTl w bs))
  (hl : bs.length ≤ 9) (hg : ∀ b ∈ bs, b.c.Ok ∧ b.c.ns.length ≤ 9 ∧ (b.c.v = .none ∨ ∃ va, b.c.v = .ref va))
  (H : ∀ h' tk' D vals k' news', Fr h₀ L h' m → News h₀ L h' ((D, W.listOf vals.toArray k') :: news') → (RO, W.listOf (tsOf bs).toArray n3) ∈ news' → SameL news' 8 vals (tsOf bs) →
    News h₀ L h' (p1 :: p2 :: (FO, instObj 242 dF) :: (dF, rowsD w tm FL) :: (FL, W.listOf (fsOf bs).toArray n2) :: (RO, W.listOf (tsOf bs).toArray n3) :: boxTl w bs) → R (.ok (.ret (.ref D))) { s with heap := h', toks := tk' }) :
  codeAny (model Challenge.rw_pc0196_01.row.prog w) (callerA.deeper (lawEnv L fa cd)) (.call (.ref 302) ⟨[.ref FO], []⟩) R s := by
  have N1 : News h₀ L s.heap ((FO, instObj 242 dF) :: (dF, rowsD w tm FL) :: (FL, W.listOf (refF (cellsOf bs).reverse).toArray n2) :: (RO, W.listOf (tsOf bs).toArray n3) :: (boxTl w bs ++ [p1, p2])) := by
    rw [← fs_rev]
    exact fun p hp => N p (by
      simp only [List.mem_cons, List.mem_append, List.not_mem_nil, or_false] at hp ⊢
      grind)
  refine seen_c (RO := RO) B F X₀ T N1 (by simp [refF, cellsOf]; exact hl) (fun c hc => ?_) ?_
  · obtain ⟨b, hb, rfl⟩ := List.mem_map.mp (List.mem_reverse.mp hc)
    have g := hg b hb
    exact ⟨g.1, g.2.1, g.2.2, fun p hp => .tail _ (List.mem_append_left _ (List.mem_flatMap.mpr ⟨b, hb, List.mem_append_left _ hp⟩))⟩
  · intro h' tk' D vals k' news' F' N' sub same
    refine H h' tk' D vals k' news' F' N' (sub _ (.tail _ (.tail _ (.tail _ (.head _))))) (by rw [ts_rev]; exact same) fun p hp => N' p (.tail _ (sub p ?_))
    rw [fs_rev] at hp
    simp only [List.mem_cons, List.mem_append, List.not_mem_nil, or_false] at hp ⊢
    grind
theorem again_b {w : World} {fa L : Addr} {cd : Value} {mg mb : Str → Option Value} {mean : ExcName → Option Value} {h₀ : Heap} {m : Str → Option Value} {s : Shared} {R : Result → Shared → Prop} {k : Nat} {x : Box} {tl : List (Addr × Obj)} {p1 p2 p3 p4 p5 p6 : Addr × Obj}
  (B : Below callerA h₀ [] h₀) (F : Fr h₀ L s.heap m) (X₀ : (hd.heap_39 w.params).In h₀) (T : Top VW (looseW VW LS) mean mg mb h₀)
  (N : News h₀ L s.heap (p1 :: p2 :: p3 :: p4 :: p5 :: p6 :: (x.c.objs w ++ (x.ex ++ tl)))) (hg : x.Good k)
  (H : ∀ h' tk', Fr h₀ L h' m → News h₀ L h' (p1 :: p2 :: p3 :: p4 :: p5 :: p6 :: (x.c.objs w ++ (x.ex ++ tl))) → R (.ok (.ret (.bool true))) { s with heap := h', toks := tk' }) :
  codeAny (model Challenge.rw_pc0196_01.row.prog w) (callerA.deeper (lawEnv L fa cd)) (.call (.ref 328) ⟨[.ref x.c.f, x.c.v], []⟩) R s := by
  have m1 : (x.c.f, instObj 172 x.c.d) ∈ p1 :: p2 :: p3 :: p4 :: p5 :: p6 :: (x.c.objs w ++ (x.ex ++ tl)) := .tail _ (.tail _ (.tail _ (.tail _ (.tail _ (.tail _ (List.mem_append_left _ (.head _)))))))
  have m2 : (x.c.d, frD w x.c.u1 x.c.u2 x.c.u3 x.c.u4 x.c.u5 x.c.u6 x.c.u7 x.c.u8 x.c.ta x.c.tw x.c.c x.c.r x.c.st x.c.h x.c.at_ x.c.wo x.c.v) ∈ p1 :: p2 :: p3 :: p4 :: p5 :: p6 :: (x.c.objs w ++ (x.ex ++ tl)) := .tail _ (.tail _ (.tail _ (.tail _ (.tail _ (.tail _ (List.mem_append_left _ (.tail _ (.head _))))))))
  rcases hg.val with ⟨e, _⟩ | ⟨va, x1, bb, x2, e, e2⟩
  · exact again_none B F X₀ T N m1 m2 e H
  · exact again_some B F X₀ T N m1 m2 (.tail _ (.tail _ (.tail _ (.tail _ (.tail _ (.tail _ (List.mem_append_right _ (List.mem_append_left _ (by rw [e2]; exact .head _))))))))) e H
theorem ne_seen {prog : Program} {w : World} {A : Around} {E : Value → Shared → Prop} {s : Shared} {h₀ : Heap} {L D b : Addr} {xs ys : List Value} {news : List (Addr × Obj)} {k1 k2 : Nat} {Q : Value → Shared → Prop} (N : News h₀ L s.heap ((D, W.listOf xs.toArray k1) :: news)) (hb : (b, W.listOf ys.toArray k2) ∈ news) (hl : SameL news 8 xs ys)
    (hu : A.units + 64 < cLine) (h : Q (.bool false) s) : wpAny (model prog w) A (compareOp .NotEq (.ref D) (.ref b)) Q E s := by
  have r := SeqAt.RcNeAt.lists (A := A) (e := fun _ => true) (N.isList (.head _)) ((news_tl N).isList hb) (by simpa using hl.length) (by omega) fun j j1 j2 => hl.at (news_tl N) (A := A.in1) (by rw [PyProof.Rows.units_in1]; omega) j (by simpa using j1) (by simpa using j2)
  rw [Mine.all_true] at r
  exact r prog w E Q h
theorem Box.Good.three {k : Nat} {b : Box} (h : b.Good k) (e : k ≤ 9) : b.c.Ok ∧ b.c.ns.length ≤ 9 ∧ (b.c.v = .none ∨ ∃ va, b.c.v = .ref va) := ⟨h.ok, Nat.le_trans h.len e, h.val'⟩
theorem done_in {g h : Heap} {L : Addr} {d a p q r t : Addr × Obj} {tl : List (Addr × Obj)} (N : News g L h (d :: a :: p :: q :: r :: t :: tl)) : News g L h (p :: q :: r :: t :: (tl ++ d :: [a])) := fun x hx => N x (by
  simp only [List.mem_cons, List.mem_append, List.not_mem_nil, or_false] at hx ⊢
  grind)
theorem done_out {g h : Heap} {L : Addr} {a p q r t : Addr × Obj} {tl : List (Addr × Obj)} (N : News g L h (p :: q :: r :: t :: (tl ++ [a]))) : News g L h (a :: a :: p :: q :: r :: t :: tl) := fun x hx => N x (by
  simp only [List.mem_cons, List.mem_append, List.not_mem_nil, or_false] at hx ⊢
  grind)
theorem done_ap {d a p q r t : Addr × Obj} {z1 z3 z4 z5 z6 : Obj} {tl : List (Addr × Obj)} (AP : Apart (a :: p :: q :: r :: t :: tl)) (hD : ∀ z ∈ (a.1, z1) :: (p.1, z3) :: (q.1, z4) :: (r.1, z5) :: (t.1, z6) :: tl, z.1 < d.1) : Apart (p :: q :: r :: t :: (tl ++ d :: [a])) := by
  have e : Apart (d :: a :: p :: q :: r :: t :: tl) := ⟨offAll_of_keys fun hm => by
    refine absurd (List.mem_map.mp (show d.1 ∈ keys ((a.1, z1) :: (p.1, z3) :: (q.1, z4) :: (r.1, z5) :: (t.1, z6) :: tl) from hm)) ?_
    rintro ⟨z, hz, e⟩
    exact absurd (hD z hz) (e ▸ Nat.lt_irrefl _), AP⟩
  exact e.perm (by
    simp only [keys, List.map_append, List.map_cons]
    exact List.perm_append_comm (l₁ := [d.1, a.1]))
end
section
theorem words21 : True := by
  w_top off
  k_with_none
  k_with "callWith ref" =>
    (k_here; (with_reducible show wpAny _ _ (callWith _ _ _ (backTo _ (starEach [] _)) []) _ _ _); k_dflt (refine' callWith_K0 ?k1_w ?k2_w ?_; (case k1_w => (refine' in_keeps ?F_w ?X_w; (case F_w => with_reducible assumption); (case X_w => with_reducible assumption))); (case k2_w => k_is); k_whole; (try dsimp only [List.nil_append, List.cons_append])))
  k_with "call ref nil" =>
    (k_here; dsimp only [List.cons_append, List.nil_append])
  k_with "call type:tuple" =>
    (k_here; (with_reducible show wpAny _ _ (call (Value.type _) [Value.ref _]) _ _ _); k_dflt (first | (refine' tuple_same_N ?N_w ?m_w ?_; (case N_w => k_asm); (case m_w => k_mem); k_whole) | (refine' tuple_same_K ?F_w ?X_w ?l_w ?_; (case F_w => k_asm); (case X_w => k_asm); (case l_w => k_is); k_whole)))
  k_with "CompSrc" =>
    (k_here; k_dflt (first
  | refine LCg.CompSrc.range (by rfl) (by k_asm) (by k_asm) (by assumption) (by first | exact small_one (by omega) (by omega) (by omega) (by omega) | decide) (by first | exact rangeSize_nat _ _ | rfl) (by rw [PySem.sizeLine_eq]; omega) ?_
  | refine LCg.CompSrc.ledger (by rfl) (by k_asm) (by k_asm) (by k_mem) (by first | exact ks_size (by assumption) (by omega) | (rw [PySem.sizeLine_eq]; (simp only [List.size_toArray, List.length_append, List.length_cons, List.length_nil]); omega)) ?_); intro g'w; refine StopAt.go ?_)
  k_with "CompEnd" =>
    (k_here; k_dflt (first | refine compEnd_none (by k_asm) (by k_asm) (by assumption) (by first | exact True.intro | lcg_src) ?_ | refine compEnd_one (by k_asm) (by k_asm) (by assumption) (by k_ne) (by k_ne) (by k_ne) (by first | exact True.intro | lcg_src) ?_); refine StopAt.go ?_)
  k_with "binaryOp Mult ref int" =>
    (k_here; (with_reducible show wpAny _ _ (binaryOp Operator.Mult (Value.ref _) (Value.int _ _)) _ _ _); k_dflt (refine' mul_two ?F_w ?N_w ?m_w ?e_w ?_; (case F_w => k_asm); (case N_w => k_asm); (case m_w => k_mem); (case e_w => first | rfl | exact room_is _ | ((try simp only [List.size_toArray]); split <;> omega)); k_whole); intro D'w h'w F'w N'w l1w; (try k_lt l1w); (try k_sweep))
  k_with "subscriptTail" =>
    (k_here; (with_reducible show wpAny _ _ (subscriptTail _ _ (Value.ref _) (Value.int (-1) _)) _ _ _); (with_unfolding_all refine item_last (by assumption) (by k_mem) (by omega) ?_))
  k_with "setItem ref int" =>
    (k_here; (with_reducible show wpAny _ _ (setItem (Value.ref _) (Value.int (-1) _) _) _ _ _); k_dflt (refine' set_last ?F_w ?N_w ?m_w ?U_w ?z_w ?_; (case F_w => k_asm); (case N_w => k_asm); (case m_w => k_mem); (case U_w => k_upd); (case z_w => omega)); (intro h'w F'w N'w; (try dsimp only [List.nil_append, List.cons_append] at N'w)))
  k_with "call builtin:list.pop" =>
    (k_here; (with_reducible show wpAny _ _ (call (Value.builtin _) [Value.ref _]) _ _ _); k_dflt (refine' pop_last ?F_w ?N_w ?m_w ?U_w ?z_w ?_; (case F_w => k_asm); (case N_w => k_asm); (case m_w => k_mem); (case U_w => k_upd); (case z_w => omega)); (intro h'w F'w N'w; (try dsimp only [List.nil_append, List.cons_append] at N'w)))
  k_with "call ref" =>
    (k_here; (show wpAny _ _ (call (Value.ref 52) [Value.str _ _]) _ _ _); k_dflt (refine' fault_K ?F_w ?N_w ?X_w ?hh_w ?d_w ?u_w ?_; (case F_w => k_asm); (case N_w => k_asm); (case X_w => k_asm); (case hh_w => rfl); (case d_w => (simp only [depth_deeper, depth_caller]; decide)); (case u_w => (simp only [units_deeper, units_caller]; decide)); intro h'w tk'w e'w t'w de'w F'w N'w l1w; (have l2 := l1w); (try simp only [OffAll, and_true] at l2); (repeat (rcases l2 with ⟨_, l2⟩)); (try k_sweep)))
  k_with "call ref" =>
    (k_here; (show wpAny _ _ (call (Value.ref 71) [Value.ref _]) _ _ _); k_dflt (refine' thrown_K ?F_w ?N_w ?X_w ?hh_w ?d_w ?u_w ?_; (case F_w => k_asm); (case N_w => k_asm); (case X_w => k_asm); (case hh_w => rfl); (case d_w => (simp only [depth_deeper, depth_caller]; decide)); (case u_w => (simp only [units_deeper, units_caller]; decide)); intro h'w tk'w e'w t'w de'w k1'w k2'w k3'w t1'w t2'w t3'w mv'w F'w N'w l1w l2w l3w; (try simp only [OffAll, and_true] at l1w l2w); (repeat (rcases l1w with ⟨_, l1w⟩)); (repeat (rcases l2w with ⟨_, l2w⟩)); (try k_sweep)))
  k_with "exec Raise some none" =>
    (k_here; k_dflt (refine' Raise_own ?X_w ?hh_w ?_; (case X_w => k_asm); (case hh_w => rfl)))
  k_with "RaiseQ" =>
    (k_here; k_dflt (refine' raiseQ_K ?F_w ?N_w ?X_w ?q_w ?m_w ?_; (case F_w => k_asm); (case N_w => k_asm); (case X_w => k_asm); (case m_w => k_mem); (case q_w => kts_isx); k_whole))
  k_with "leaving ref" =>
    (k_here; k_dflt (first
  | (refine' leave_raiseD ?K_w ?F_w ?N_w ?m_w ?s_w ?_; (case F_w => k_asm); (case N_w => k_asm); (case K_w => k_asm); (case m_w => k_mem); (case s_w => first | exact off_e (by assumption) | exact off_e (by (simp only [OffAll]; (repeat' (first | assumption | exact True.intro | exact ⟨by k_ne⟩ | refine And.intro ?_ ?_)); done))); k_whole)
  | (refine' leave_onD ?K_w ?F_w ?R_w ?U_w ?_; (case R_w => k_asm); (case F_w => k_asm); (case K_w => k_asm); (case U_w => k_asm); k_whole)); intro h'w R'w U'w; (try dsimp only at R'w U'w ⊢))
  k_with "noteFrame ref" =>
    (k_here; k_dflt (first
  | ((with_reducible show wpAny _ _ (noteFrame _ _) (fun _ s₂ => wpAny _ _ (setFlight _ none) (fun _ s₃ => wpAny _ _ (handleBy _ _ (ExceptHandler.ExceptHandler (some (Expr.Name _ _)) (some _) _ _ :: _)) _ _ s₃) _ s₂) _ _); refine' caught_DB ?R_w ?F_w ?K_w ?U_w ?XB_w ?TB_w ?D_w ?T0_w ?ex_w ?q_w ?_; (case R_w => k_asm); (case F_w => k_asm); (case K_w => k_asm); (case U_w => k_asm); (case XB_w => k_asm); (case TB_w => k_asm); (case D_w => k_asm); (case T0_w => first | k_asm | exact KtsTurn.refl); (case ex_w => k_is); (case q_w => kts_isx); k_whole; intro h'w g'w ws'w tk'w T'w F'w N'w K'w X'w P'w D'w)
  | ((with_reducible show wpAny _ _ (noteFrame _ _) (fun _ s₂ => wpAny _ _ (setFlight _ none) (fun _ s₃ => wpAny _ _ (handleBy _ _ (ExceptHandler.ExceptHandler (some (Expr.Name _ _)) none _ _ :: _)) _ _ s₃) _ s₂) _ _); refine' caught_D0 ?R_w ?F_w ?K_w ?U_w ?XB_w ?TB_w ?D_w ?T0_w ?ex_w ?q_w ?_; (case R_w => k_asm); (case F_w => k_asm); (case K_w => k_asm); (case U_w => k_asm); (case XB_w => k_asm); (case TB_w => k_asm); (case D_w => k_asm); (case T0_w => first | k_asm | exact KtsTurn.refl); (case ex_w => k_is); (case q_w => kts_isx); k_whole; intro h'w g'w ws'w T'w F'w N'w K'w X'w P'w D'w)
  | ((with_reducible show wpAny _ _ (noteFrame _ _) (fun _ s₂ => wpAny _ _ (setFlight _ none) (fun _ s₃ => wpAny _ _ (handleBy _ _ (ExceptHandler.ExceptHandler (some (Expr.Name _ _)) none _ _ :: _)) _ _ s₃) _ s₂) _ _); refine' caught_D0C ?R_w ?F_w ?K_w ?U_w ?XB_w ?TB_w ?D_w ?T0_w ?ex_w ?q_w ?_; (case R_w => k_asm); (case F_w => k_asm); (case K_w => k_asm); (case U_w => k_asm); (case XB_w => k_asm); (case TB_w => k_asm); (case D_w => k_asm); (case T0_w => first | k_asm | exact KtsTurn.refl); (case ex_w => k_is); (case q_w => kts_isx); k_whole; intro h'w g'w ws'w T'w F'w N'w K'w X'w P'w D'w)); (try k_lift K'w); (try k_sweep))
  k_with "getAttr ref" =>
    (k_here; (with_reducible show wpAny _ _ (getAttr (Value.ref _) (PySem.Str.ofString "value") _) _ _ _); k_dflt (refine' value_K ?F_w ?N_w ?X_w ?he_w ?hd_w ?d_w ?u_w ?_; (case F_w => k_asm); (case N_w => k_asm); (case X_w => k_asm); (case he_w => k_mem); (case hd_w => k_mem); (case d_w => (simp only [depth_mark, depth_deeper, depth_caller]; decide)); (case u_w => (simp only [Around.mark_units, units_deeper, units_caller]; decide)); intro tk'w))
  exact trivial
theorem words22 : True := by
  k_with "call builtin:len" =>
    (k_here; (with_reducible show wpAny _ _ (call (Value.builtin _) [Value.ref _]) _ _ _); k_dflt (refine' len_news ?N_w ?m_w ?z_w ?_; (case N_w => k_asm); (case m_w => k_mem); (case z_w => (simp only [List.size_toArray, List.length_append, List.length_cons, List.length_nil]; omega)); k_whole))
  k_with "call type:list" =>
    (k_here; (with_reducible show wpAny _ _ (call (Value.type _) [Value.ref _]) _ _ _); k_dflt (refine' copy_abs ?F_w ?N_w ?m_w ?z_w ?_; (case F_w => k_asm); (case N_w => k_asm); (case m_w => k_mem); (case z_w => (simp only [List.size_toArray, List.length_append, List.length_cons, List.length_nil]; omega)); k_whole); intro D'w c'w h'w F'w N'w l1w; (try k_lt l1w); (try k_sweep))
  k_with "binaryOp Add ref ref" =>
    (k_here; (with_reducible show wpAny _ _ (binaryOp _ (Value.ref _) (Value.ref _)) _ _ _); k_dflt (refine' add_abs ?F_w ?N_w ?a_w ?b_w ?z_w ?_; (case F_w => k_asm); (case N_w => k_asm); (case a_w => k_mem); (case b_w => k_mem); (case z_w => (simp only [List.length_append, List.length_cons, List.length_nil]; omega)); k_whole); intro D'w h'w F'w N'w l1w; (try k_lt l1w); (try k_sweep))
  k_with "compareOp Eq ref ref" =>
    (k_here; k_dflt (refine' eq_same_tup ?N_w ?a_w ?b_w ?l_w ?u_w ?_; (case N_w => k_asm); (case a_w => k_mem); (case b_w => k_mem); (case l_w => ((repeat (first | exact SameL.nil _ | refine SameL.cons ?_ ?_ | exact SameV.same _ _ | exact SameV.int _ _ _ _ | exact SameV.str _ _ _ _ | exact SameV.bytes _ _ _ _ | refine SameV.tuple (by k_mem) (by k_mem) ?_)); done)); (case u_w => ke_room); k_whole))
  k_with "compareOp NotEq ref ref" =>
    (k_here; k_dflt (refine' ne_same_tup ?N_w ?a_w ?b_w ?l_w ?u_w ?_; (case N_w => k_asm); (case a_w => k_mem); (case b_w => k_mem); (case l_w => ((repeat (first | exact SameL.nil _ | refine SameL.cons ?_ ?_ | exact SameV.same _ _ | exact SameV.int _ _ _ _ | exact SameV.str _ _ _ _ | exact SameV.bytes _ _ _ _ | refine SameV.tuple (by k_mem) (by k_mem) ?_)); done)); (case u_w => ke_room); k_whole))
  k_with "call ref" =>
    (k_here; (show wpAny _ _ (call (Value.ref 297) [_, _]) _ _ _); refine StopAt.go ?_)
  exact trivial

theorem e199 {X : List Value} (h : X.length = 199) : (X.length : Int) = 199 := by omega
theorem e200 {X : List Value} {v : Value} (h : X.length = 199) : ((X ++ [v]).length : Int) = 200 := by simp; omega
theorem take2 {X : List Value} {v v' : Value} (hl : X.length = 199) (h : X.take 2 = [v, v]) : (X ++ [v']).take (2 : Int).toNat = [v] ++ [v] := by
  rw [show (2 : Int).toNat = 2 from rfl, List.take_append_of_le_length (by omega), h]
  rfl
theorem len_lit {prog : Program} {w : World} {A : Around} {E : Value → Shared → Prop} {s : Shared} {h₀ : Heap} {L a : Addr} {news : List (Addr × Obj)} {xs : List Value} {n : Nat} {k : Int} {Q : Value → Shared → Prop} (N : News h₀ L s.heap news) (hm : (a, W.listOf xs.toArray n) ∈ news) (e : (xs.length : Int) = k) (hk : k ≤ 999)
    (h : Q (.int k (s.toks + 1)) { s with toks := s.toks + 1 + 1 }) : wpAny (model prog w) A (call (.builtin "len") [.ref a]) Q E s := by
  subst e
  exact len_list' N hm (by omega) h
theorem append_199 {prog : Program} {w : World} {A : Around} {E : Value → Shared → Prop} {s : Shared} {h₀ : Heap} {L D : Addr} {m : Str → Option Value} {news news' : List (Addr × Obj)} {xs : List Value} {x : Value} {n : Nat} {Q : Value → Shared → Prop} (F : Fr h₀ L s.heap m) (N : News h₀ L s.heap news) (U : Upd D (W.listOf xs.toArray n) (W.listOf (xs ++ [x]).toArray (n + 1)) news news') (hz : xs.length = 199)
    (h : ∀ h', Fr h₀ L h' m → News h₀ L h' news' → Q .none { s with heap := h' }) : wpAny (model prog w) A (call (.builtin "list.append") [.ref D, x]) Q E s := by
  rw [show (xs ++ [x]).toArray = xs.toArray.push x by simp] at U
  exact append_K F N U h (by rw [PySem.sizeLine_eq]; simp; omega)
theorem many_cut {g h : Heap} {L : Addr} {f d e r l x y : Addr × Obj} {tl ts : List (Addr × Obj)} (N : News g L h (f :: d :: e :: r :: ((l :: x :: y :: tl) ++ ts))) : News g L h (f :: d :: x :: y :: tl) := fun p hp => N p (by
  simp only [List.mem_cons, List.mem_append] at hp ⊢
  rcases hp with h | h | h | h | h
  · exact .inl h
  · exact .inr (.inl h)
  · exact .inr (.inr (.inr (.inr (.inl (.inr (.inl h))))))
  · exact .inr (.inr (.inr (.inr (.inl (.inr (.inr (.inl h)))))))
  · exact .inr (.inr (.inr (.inr (.inl (.inr (.inr (.inr h))))))))
theorem eq_nil2 {prog : Program} {w : World} {A : Around} {E : Value → Shared → Prop} {s : Shared} {h₀ : Heap} {L a b : Addr} {news : List (Addr × Obj)} {x y : Value} {k1 k2 : Nat} {Q : Value → Shared → Prop} (N : News h₀ L s.heap news) (ha : (a, W.listOf #[x, y] k1) ∈ news) (hb : (b, W.listOf #[] k2) ∈ news) (hu : A.units + 64 < cLine) (h : Q (.bool false) s) :
    wpAny (model prog w) A (compareOp .Eq (.ref a) (.ref b)) Q E s := SeqAt.eq_list_lengthsAt (N.isList ha) (N.isList hb) rfl (by omega) h
theorem e2 {x y : Value} : ((([x] : List Value) ++ [y]).length : Int) = 2 := rfl
theorem many_off {x D f dd d : Addr} {o1 o2 o3 o4 : Obj} {rest : List (Addr × Obj)} (hr : ∀ p ∈ rest, p.1 < d) (q1 : Off x d) (q2 : Off D d) (q3 : Off d f) (q4 : Off d dd) : OffAll d ((x, o1) :: (D, o2) :: (f, o3) :: (dd, o4) :: rest) :=
  ⟨q1, q2, ⟨Ne.symm q3.ne⟩, ⟨Ne.symm q4.ne⟩, offAll_of fun p hp => Nat.ne_of_lt (hr p hp)⟩
theorem many_cut2 {g h : Heap} {L : Addr} {p1 p2 p3 p4 p5 p6 p7 p8 p9 p10 D l t f dd x d : Addr × Obj} {tl : List (Addr × Obj)} (N : News g L h (p1 :: p2 :: p3 :: p4 :: p5 :: p6 :: p7 :: p8 :: p9 :: p10 :: D :: l :: t :: f :: dd :: x :: d :: tl)) : News g L h (d :: x :: D :: f :: dd :: tl) := fun p hp => N p (by
  simp only [List.mem_cons] at hp ⊢
  rcases hp with h | h | h | h | h | h <;> simp only [h, true_or, or_true])
theorem words23 : True := by
  k_with "compareOp Eq ref ref" =>
    (k_here; k_dflt (first | (refine' eq_nil2 ?N_w ?a_w ?b_w ?u_w ?_; (case N_w => k_asm); (case a_w => k_mem); (case b_w => k_mem); (case u_w => ke_room); k_whole) | (refine' eq_nil0 ?N_w ?a_w ?b_w ?u_w ?_; (case N_w => k_asm); (case a_w => k_mem); (case b_w => k_mem); (case u_w => ke_room); k_whole)))
  k_with "binaryOp Mult ref int" =>
    (k_here; k_dflt (refine mul_rep (by k_asm) (by k_asm) (by k_mem) (by omega) ?_); intro X'w D'w h'w hX1w hX2w F'w N'w l1w; (try k_lt l1w); (try k_sweep))
  k_with "call builtin:len" =>
    (k_here; (with_reducible show wpAny _ _ (call (Value.builtin _) [Value.ref _]) _ _ _); k_dflt (refine' len_lit ?N_w ?m_w ?e_w ?z_w ?_; (case N_w => k_asm); (case m_w => k_mem); (case e_w => first | exact e199 (by with_reducible assumption) | exact e200 (by with_reducible assumption) | exact e2 | exact rfl); (case z_w => decide); k_whole))
  k_with "call builtin:list.append" =>
    (k_here; (with_reducible show wpAny _ _ (call (Value.builtin _) [Value.ref _, _]) _ _ _); k_dflt (refine' append_199 ?F_w ?N_w ?U_w ?z_w ?_; (case F_w => k_asm); (case N_w => k_asm); (case U_w => k_upd); (case z_w => with_reducible assumption); k_whole); intro h'w F'w N'w; (try dsimp only [List.nil_append, List.cons_append] at N'w))
  k_with "subscriptTail Attribute" =>
    (k_here; k_dflt (refine kba_turn (value' := PySem.Expr.Name (PySem.Str.ofString "_") ⟨0, 0, 0, 0⟩) (fun _ => rfl) ?_))
  k_with "subscriptTail Name Slice ref ref" =>
    (k_here; (with_reducible show wpAny _ _ (subscriptTail (PySem.Expr.Name _ _) (PySem.Expr.Slice none _ _ _) (Value.ref _) (Value.ref _)) _ _ _); k_dflt (refine' slice_to ?F_w ?N_w ?m_w ?k_w ?e_w ?z_w ?_ ?s_w ?t_w; (case F_w => k_asm); (case N_w => k_asm); (case m_w => k_mem); (case k_w => decide); (case e_w => exact take2 (by with_reducible assumption) (by with_reducible assumption)); (case z_w => (simp only [List.length_append, List.length_cons, List.length_nil]; omega)); (case s_w => with_unfolding_all rfl); (case t_w => kmk_pure)); intro D'w h'w F'w N'w l1w; (try k_lt l1w); (try k_sweep))
  k_with "call ref" =>
    (k_here; (show wpAny _ _ (call (Value.ref 204) [_]) _ _ _); k_dflt (refine wpAny_call ?_; refine' many_m (G := ⟨_, _, _, _, _, _, _, _, _, _, _⟩) ?hd_w ?B_w ?F_w ?X_w ?T_w ?N_w ?q0_w ?q1_w ?q2_w ?q3_w ?q4_w ?_; (case B_w => k_asm); (case F_w => k_asm); (case X_w => k_asm); (case T_w => k_asm); (case N_w => k_asm); (case q0_w => k_mem); (case q1_w => k_mem); (case q2_w => k_mem); (case q3_w => first | exact e199 (by with_reducible assumption) | exact e200 (by with_reducible assumption) | exact e2 | exact rfl); (case q4_w => decide); (case hd_w => (first | decide | (dsimp only; decide) | ((simp only [depth_mark, depth_under_make, depth_under_kw, depth_in1, depth_deeper, depth_caller]); decide) | ((simp only [depth_mark, depth_under_make, depth_under_kw, depth_in1, depth_deeper]); omega))); k_whole); intro h'w tk'w t'w F'w N'w; (try dsimp only))
  k_with "call ref" =>
    (k_here; (show wpAny _ _ (call (Value.ref 218) [_, _]) _ _ _); k_dflt (refine wpAny_call ?_; refine' push_m (G := ⟨_, _, _, _, _, _, _, _, _, _, _⟩) ?hd_w ?B_w ?F_w ?X_w ?T_w ?N_w ?q0_w ?q1_w ?q2_w ?q3_w ?q4_w ?q5_w ?q6_w ?_; (case B_w => k_asm); (case F_w => k_asm); (case X_w => k_asm); (case T_w => k_asm); (case N_w => k_asm); (case q0_w => k_mem); (case q1_w => k_mem); (case q2_w => k_mem); (case q3_w => exact e199 (by with_reducible assumption)); (case q4_w => decide); (case q5_w => decide); (case q6_w => k_upd); (case hd_w => (first | decide | (dsimp only; decide) | ((simp only [depth_mark, depth_under_make, depth_under_kw, depth_in1, depth_deeper, depth_caller]); decide) | ((simp only [depth_mark, depth_under_make, depth_under_kw, depth_in1, depth_deeper]); omega))); k_whole); intro h'w tk'w F'w N'w; (try dsimp only))
  k_with "call ref" =>
    (k_here; (show wpAny _ _ (call (Value.ref 232) [_, _]) _ _ _); refine StopAt.go ?_)
  k_with "call ref" =>
    (k_here; (show wpAny _ _ (call (Value.ref 239) [_, _]) _ _ _); k_dflt (refine wpAny_call ?_; refine' world_s (G := ⟨_, _, _, _, _, _, _, _, _, _, _⟩) ?hd_w ?B_w ?F_w ?X_w ?T_w ?N_w ?q0_w ?q1_w ?q2_w ?q3_w ?q4_w ?q5_w ?q6_w ?_; (case B_w => k_asm); (case F_w => k_asm); (case X_w => k_asm); (case T_w => k_asm); (case N_w => k_asm); (case q0_w => first | decide | (dsimp only; decide) | ((simp only [Around.mark_units, units_deeper, units_caller]); decide)); (case q1_w => k_mem); (case q2_w => k_mem); (case q3_w => k_mem); (case q4_w => exact Nat.le_of_ble_eq_true rfl); (case q5_w => k_mem); (case q6_w => k_mem); (case hd_w => (first | decide | (dsimp only; decide) | ((simp only [depth_mark, depth_under_make, depth_under_kw, depth_in1, depth_deeper, depth_caller]); decide) | ((simp only [depth_mark, depth_under_make, depth_under_kw, depth_in1, depth_deeper]); omega))); k_whole); intro h'w tk'w F'w N'w; (try dsimp only))
  k_with "call ref" =>
    (k_here; (show wpAny _ _ (call (Value.ref 239) [_, _]) _ _ _); k_dflt (refine wpAny_call ?_; refine' world_n (G := ⟨_, _, _, _, _, _, _, _, _, _, _⟩) ?hd_w ?B_w ?F_w ?X_w ?T_w ?N_w ?q0_w ?q1_w ?q2_w ?q3_w ?_; (case B_w => k_asm); (case F_w => k_asm); (case X_w => k_asm); (case T_w => k_asm); (case N_w => k_asm); (case q0_w => first | decide | (dsimp only; decide) | ((simp only [Around.mark_units, units_deeper, units_caller]); decide)); (case q1_w => k_mem); (case q2_w => k_mem); (case q3_w => k_mem); (case hd_w => (first | decide | (dsimp only; decide) | ((simp only [depth_mark, depth_under_make, depth_under_kw, depth_in1, depth_deeper, depth_caller]); decide) | ((simp only [depth_mark, depth_under_make, depth_under_kw, depth_in1, depth_deeper]); omega))); k_whole); intro h'w tk'w F'w N'w; (try dsimp only))
  exact trivial
theorem many_c {w : World} {fa L : Addr} {cd : Value} {mg mb : Str → Option Value} {mean : ExcName → Option Value} {h₀ : Heap} {m : Str → Option Value} {s : Shared} {rest : List (Addr × Obj)} {R : Result → Shared → Prop} 
  (B : Below callerA h₀ [] h₀) (F : Fr h₀ L s.heap m) (X₀ : (hd.heap_39 w.params).In h₀) (T : Top VW (looseW VW LS) mean mg mb h₀)
  (N : News h₀ L s.heap (rest))
  (H : ∀ h' tk', Fr h₀ L h' m → News h₀ L h' rest → R (.ok (.ret (.bool true))) { s with heap := h', toks := tk' }) :
  codeAny (model Challenge.rw_pc0196_01.row.prog w) (callerA.deeper (lawEnv L fa cd)) (.call (.ref 335) ⟨[], []⟩) R s := by
  k_enter
  k_steps
  unfold StopAt
  refine wpAny_call ?_
  refine' new_c (G := ⟨_, _, _, _, _, _, _, _, _, _, _⟩) ?hd ?B ?F ?X ?T ?N ?n0 ?n8 ?k1 ?k3 ?H
  (case B => k_asm)
  (case F => k_asm)
  (case X => k_asm)
  (case T => k_asm)
  (case N => k_asm)
  (case hd => ((try dsimp only); (try simp only [depth_deeper, depth_caller]); decide))
  (case n0 => decide)
  (case n8 => decide)
  (case k1 => decide)
  (case k3 => decide)
  intro h' tk' f1 d1 h1 r1 c1 st1 u11 u12 u13 u14 u15 u16 u17 u18 ta1 tw1 wo1 ps F1 N1 of1 od1 oh1 or1 AP1 hw1 hl1 hp1
  dsimp only
  refine hide fun GG back => ?_
  have N2 := many_cut N1
  simp only [List.cons_append, OffAll, Apart, and_true] at of1 od1 AP1
  obtain ⟨qf1, qf2, qf3, _⟩ := of1
  obtain ⟨qd1, qd2, qd3, _⟩ := od1
  obtain ⟨⟨qfd, _⟩, _⟩ := AP1
  clear N1 oh1 or1 hl1 hp1
  subst hw1
  refine back ?_
  clear back GG
  k_steps
  unfold StopAt
  refine wpAny_call ?_
  refine' cut_m (G := ⟨_, _, _, _, _, _, _, _, _, _, _⟩) ?cd ?cB ?cF ?cX ?cT (many_cut2 (by assumption)) ?c1 ?c2 ?cz (by decide) (take2 (by assumption) (by assumption)) ?cl ?cH
  (case cB => k_asm)
  (case cF => k_asm)
  (case cX => k_asm)
  (case cT => k_asm)
  (case cd => ((try dsimp only); decide))
  (case c1 => k_mem)
  (case c2 => k_mem)
  (case cz => (refine many_off ?_ ?_ ?_ ?_ ?_ <;> first | assumption | exact ⟨Ne.symm (Nat.ne_of_lt (by assumption))⟩ | exact ⟨Ne.symm (Nat.ne_of_lt (And.left (And.right (And.right (And.right (And.right (And.right (by assumption))))))))⟩ | exact ⟨by k_ne⟩))
  (case cl => (simp only [List.length_append, List.length_cons, List.length_nil]; omega))
  intro h' tk' D F3 N3 l3
  dsimp only
  k_steps
  show R (Except.ok (Flow.ret (Value.bool true))) _
  refine H _ _ (by k_asm) ?_
  (refine cb_drop (by assumption) ?_; ((repeat (refine List.forall_mem_cons.mpr ⟨by k_mem, ?_⟩)); first | exact List.forall_mem_nil _ | (intro p hp; (repeat (first | exact hp | exact List.mem_append_left _ hp | exact List.mem_append_right _ hp | exact List.mem_append_left _ (List.mem_append_left _ hp) | exact List.mem_append_left _ (List.mem_append_right _ hp) | refine List.Mem.tail _ ?_)); done)))
end
section
theorem words24 : True := by
  w_top off
  k_with_none
  k_with "callWith ref" =>
    (k_here; (with_reducible show wpAny _ _ (callWith _ _ _ (backTo _ (starEach [] _)) []) _ _ _); k_dflt (refine' callWith_K0 ?k1_w ?k2_w ?_; (case k1_w => (refine' in_keeps ?F_w ?X_w; (case F_w => with_reducible assumption); (case X_w => with_reducible assumption))); (case k2_w => k_is); k_whole; (try dsimp only [List.nil_append, List.cons_append])))
  k_with "call ref nil" =>
    (k_here; dsimp only [List.cons_append, List.nil_append])
  k_with "call type:tuple" =>
    (k_here; (with_reducible show wpAny _ _ (call (Value.type _) [Value.ref _]) _ _ _); k_dflt (first | (refine' tuple_same_N ?N_w ?m_w ?_; (case N_w => k_asm); (case m_w => k_mem); k_whole) | (refine' tuple_same_K ?F_w ?X_w ?l_w ?_; (case F_w => k_asm); (case X_w => k_asm); (case l_w => k_is); k_whole)))
  k_with "CompSrc" =>
    (k_here; k_dflt (first
  | refine LCg.CompSrc.range (by rfl) (by k_asm) (by k_asm) (by assumption) (by first | exact small_one (by omega) (by omega) (by omega) (by omega) | decide) (by first | exact rangeSize_nat _ _ | rfl) (by rw [PySem.sizeLine_eq]; omega) ?_
  | refine LCg.CompSrc.ledger (by rfl) (by k_asm) (by k_asm) (by k_mem) (by first | exact ks_size (by assumption) (by omega) | (rw [PySem.sizeLine_eq]; (simp only [List.size_toArray, List.length_append, List.length_cons, List.length_nil]); omega)) ?_); intro g'w; refine StopAt.go ?_)
  k_with "CompEnd" =>
    (k_here; k_dflt (first | refine compEnd_none (by k_asm) (by k_asm) (by assumption) (by first | exact True.intro | lcg_src) ?_ | refine compEnd_one (by k_asm) (by k_asm) (by assumption) (by k_ne) (by k_ne) (by k_ne) (by first | exact True.intro | lcg_src) ?_); refine StopAt.go ?_)
  k_with "binaryOp Mult ref int" =>
    (k_here; (with_reducible show wpAny _ _ (binaryOp Operator.Mult (Value.ref _) (Value.int _ _)) _ _ _); k_dflt (refine' mul_two ?F_w ?N_w ?m_w ?e_w ?_; (case F_w => k_asm); (case N_w => k_asm); (case m_w => k_mem); (case e_w => first | rfl | exact room_is _ | ((try simp only [List.size_toArray]); split <;> omega)); k_whole); intro D'w h'w F'w N'w l1w; (try k_lt l1w); (try k_sweep))
  k_with "subscriptTail" =>
    (k_here; (with_reducible show wpAny _ _ (subscriptTail _ _ (Value.ref _) (Value.int (-1) _)) _ _ _); (with_unfolding_all refine item_last (by assumption) (by k_mem) (by omega) ?_))
  k_with "setItem ref int" =>
    (k_here; (with_reducible show wpAny _ _ (setItem (Value.ref _) (Value.int (-1) _) _) _ _ _); k_dflt (refine' set_last ?F_w ?N_w ?m_w ?U_w ?z_w ?_; (case F_w => k_asm); (case N_w => k_asm); (case m_w => k_mem); (case U_w => k_upd); (case z_w => omega)); (intro h'w F'w N'w; (try dsimp only [List.nil_append, List.cons_append] at N'w)))
  k_with "call builtin:list.pop" =>
    (k_here; (with_reducible show wpAny _ _ (call (Value.builtin _) [Value.ref _]) _ _ _); k_dflt (refine' pop_last ?F_w ?N_w ?m_w ?U_w ?z_w ?_; (case F_w => k_asm); (case N_w => k_asm); (case m_w => k_mem); (case U_w => k_upd); (case z_w => omega)); (intro h'w F'w N'w; (try dsimp only [List.nil_append, List.cons_append] at N'w)))
  k_with "call ref" =>
    (k_here; (show wpAny _ _ (call (Value.ref 52) [Value.str _ _]) _ _ _); k_dflt (refine' fault_K ?F_w ?N_w ?X_w ?hh_w ?d_w ?u_w ?_; (case F_w => k_asm); (case N_w => k_asm); (case X_w => k_asm); (case hh_w => rfl); (case d_w => (simp only [depth_deeper, depth_caller]; decide)); (case u_w => (simp only [units_deeper, units_caller]; decide)); intro h'w tk'w e'w t'w de'w F'w N'w l1w; (have l2 := l1w); (try simp only [OffAll, and_true] at l2); (repeat (rcases l2 with ⟨_, l2⟩)); (try k_sweep)))
  k_with "call ref" =>
    (k_here; (show wpAny _ _ (call (Value.ref 71) [Value.ref _]) _ _ _); k_dflt (refine' thrown_K ?F_w ?N_w ?X_w ?hh_w ?d_w ?u_w ?_; (case F_w => k_asm); (case N_w => k_asm); (case X_w => k_asm); (case hh_w => rfl); (case d_w => (simp only [depth_deeper, depth_caller]; decide)); (case u_w => (simp only [units_deeper, units_caller]; decide)); intro h'w tk'w e'w t'w de'w k1'w k2'w k3'w t1'w t2'w t3'w mv'w F'w N'w l1w l2w l3w; (try simp only [OffAll, and_true] at l1w l2w); (repeat (rcases l1w with ⟨_, l1w⟩)); (repeat (rcases l2w with ⟨_, l2w⟩)); (try k_sweep)))
  k_with "exec Raise some none" =>
    (k_here; k_dflt (refine' Raise_own ?X_w ?hh_w ?_; (case X_w => k_asm); (case hh_w => rfl)))
  k_with "RaiseQ" =>
    (k_here; k_dflt (refine' raiseQ_K ?F_w ?N_w ?X_w ?q_w ?m_w ?_; (case F_w => k_asm); (case N_w => k_asm); (case X_w => k_asm); (case m_w => k_mem); (case q_w => kts_isx); k_whole))
  k_with "leaving ref" =>
    (k_here; k_dflt (first
  | (refine' leave_raiseD ?K_w ?F_w ?N_w ?m_w ?s_w ?_; (case F_w => k_asm); (case N_w => k_asm); (case K_w => k_asm); (case m_w => k_mem); (case s_w => first | exact off_e (by assumption) | exact off_e (by (simp only [OffAll]; (repeat' (first | assumption | exact True.intro | exact ⟨by k_ne⟩ | refine And.intro ?_ ?_)); done))); k_whole)
  | (refine' leave_onD ?K_w ?F_w ?R_w ?U_w ?_; (case R_w => k_asm); (case F_w => k_asm); (case K_w => k_asm); (case U_w => k_asm); k_whole)); intro h'w R'w U'w; (try dsimp only at R'w U'w ⊢))
  k_with "noteFrame ref" =>
    (k_here; k_dflt (first
  | ((with_reducible show wpAny _ _ (noteFrame _ _) (fun _ s₂ => wpAny _ _ (setFlight _ none) (fun _ s₃ => wpAny _ _ (handleBy _ _ (ExceptHandler.ExceptHandler (some (Expr.Name _ _)) (some _) _ _ :: _)) _ _ s₃) _ s₂) _ _); refine' caught_DB ?R_w ?F_w ?K_w ?U_w ?XB_w ?TB_w ?D_w ?T0_w ?ex_w ?q_w ?_; (case R_w => k_asm); (case F_w => k_asm); (case K_w => k_asm); (case U_w => k_asm); (case XB_w => k_asm); (case TB_w => k_asm); (case D_w => k_asm); (case T0_w => first | k_asm | exact KtsTurn.refl); (case ex_w => k_is); (case q_w => kts_isx); k_whole; intro h'w g'w ws'w tk'w T'w F'w N'w K'w X'w P'w D'w)
  | ((with_reducible show wpAny _ _ (noteFrame _ _) (fun _ s₂ => wpAny _ _ (setFlight _ none) (fun _ s₃ => wpAny _ _ (handleBy _ _ (ExceptHandler.ExceptHandler (some (Expr.Name _ _)) none _ _ :: _)) _ _ s₃) _ s₂) _ _); refine' caught_D0 ?R_w ?F_w ?K_w ?U_w ?XB_w ?TB_w ?D_w ?T0_w ?ex_w ?q_w ?_; (case R_w => k_asm); (case F_w => k_asm); (case K_w => k_asm); (case U_w => k_asm); (case XB_w => k_asm); (case TB_w => k_asm); (case D_w => k_asm); (case T0_w => first | k_asm | exact KtsTurn.refl); (case ex_w => k_is); (case q_w => kts_isx); k_whole; intro h'w g'w ws'w T'w F'w N'w K'w X'w P'w D'w)
  | ((with_reducible show wpAny _ _ (noteFrame _ _) (fun _ s₂ => wpAny _ _ (setFlight _ none) (fun _ s₃ => wpAny _ _ (handleBy _ _ (ExceptHandler.ExceptHandler (some (Expr.Name _ _)) none _ _ :: _)) _ _ s₃) _ s₂) _ _); refine' caught_D0C ?R_w ?F_w ?K_w ?U_w ?XB_w ?TB_w ?D_w ?T0_w ?ex_w ?q_w ?_; (case R_w => k_asm); (case F_w => k_asm); (case K_w => k_asm); (case U_w => k_asm); (case XB_w => k_asm); (case TB_w => k_asm); (case D_w => k_asm); (case T0_w => first | k_asm | exact KtsTurn.refl); (case ex_w => k_is); (case q_w => kts_isx); k_whole; intro h'w g'w ws'w T'w F'w N'w K'w X'w P'w D'w)); (try k_lift K'w); (try k_sweep))
  k_with "getAttr ref" =>
    (k_here; (with_reducible show wpAny _ _ (getAttr (Value.ref _) (PySem.Str.ofString "value") _) _ _ _); k_dflt (refine' value_K ?F_w ?N_w ?X_w ?he_w ?hd_w ?d_w ?u_w ?_; (case F_w => k_asm); (case N_w => k_asm); (case X_w => k_asm); (case he_w => k_mem); (case hd_w => k_mem); (case d_w => (simp only [depth_mark, depth_deeper, depth_caller]; decide)); (case u_w => (simp only [Around.mark_units, units_deeper, units_caller]; decide)); intro tk'w))
  exact trivial
theorem ne_nil0 {prog : Program} {w : World} {A : Around} {E : Value → Shared → Prop} {s : Shared} {h₀ : Heap} {L : Addr} {news : List (Addr × Obj)} {a b : Addr} {k1 k2 : Nat} {Q : Value → Shared → Prop} (N : News h₀ L s.heap news) (ha : (a, W.listOf #[] k1) ∈ news) (hb : (b, W.listOf #[] k2) ∈ news) (hu : A.units + 64 < cLine) (h : Q (.bool false) s) :
    wpAny (model prog w) A (compareOp .NotEq (.ref a) (.ref b)) Q E s := by
  have r := SeqAt.RcNeAt.lists (A := A) (e := fun _ => true) (N.isList ha) (N.isList hb) rfl (by omega) fun j j1 _ => absurd j1 (Nat.not_lt_zero _)
  exact r prog w E Q h
theorem fs_int (bs : List Box) : ((fsOf bs).length : Int) = (bs.length : Int) := by rw [fs_len]
theorem add1 {vs : List Value} {x : Value} (h : vs.length ≤ 999) : vs.length + [x].length ≤ 1000 := by simp; omega
theorem append_abs {prog : Program} {w : World} {A : Around} {E : Value → Shared → Prop} {s : Shared} {h₀ : Heap} {L D : Addr} {m : Str → Option Value} {news news' : List (Addr × Obj)} {xs : List Value} {x : Value} {n : Nat} {Q : Value → Shared → Prop} (F : Fr h₀ L s.heap m) (N : News h₀ L s.heap news) (U : Upd D (W.listOf xs.toArray n) (W.listOf (xs ++ [x]).toArray (n + 1)) news news') (hz : xs.length ≤ 1000)
    (h : ∀ h', Fr h₀ L h' m → News h₀ L h' news' → Q .none { s with heap := h' }) : wpAny (model prog w) A (call (.builtin "list.append") [.ref D, x]) Q E s := by
  rw [show (xs ++ [x]).toArray = xs.toArray.push x by simp] at U
  exact append_K F N U h (by rw [PySem.sizeLine_eq]; simp; omega)
theorem words25 : True := by
  k_with "call builtin:list.append" =>
    (k_here; (with_reducible show wpAny _ _ (call (Value.builtin _) [Value.ref _, _]) _ _ _); k_dflt (refine' append_abs ?F_w ?N_w ?U_w ?z_w ?_; (case F_w => k_asm); (case N_w => k_asm); (case U_w => k_upd); (case z_w => with_reducible assumption); k_whole); intro h'w F'w N'w; (try dsimp only [List.nil_append, List.cons_append] at N'w))
  exact trivial
theorem len_as {prog : Program} {w : World} {A : Around} {E : Value → Shared → Prop} {s : Shared} {h₀ : Heap} {L a : Addr} {news : List (Addr × Obj)} {xs : List Value} {n k : Nat} {Q : Value → Shared → Prop} (N : News h₀ L s.heap news) (hm : (a, W.listOf xs.toArray n) ∈ news) (e : xs.length = k) (hk : k ≤ 999)
    (h : Q (.int (k : Int) (s.toks + 1)) { s with toks := s.toks + 1 + 1 }) : wpAny (model prog w) A (call (.builtin "len") [.ref a]) Q E s := by
  subst e
  exact len_list' N hm hk h

theorem words26 : True := by
  k_with "call builtin:len" =>
    (k_here; (with_reducible show wpAny _ _ (call (Value.builtin _) [Value.ref _]) _ _ _); k_dflt (refine' len_as ?N_w ?m_w ?e_w ?z_w ?_; (case N_w => k_asm); (case m_w => k_mem); (case e_w => first | exact ts_len _ | exact fs_len _); (case z_w => with_reducible assumption); k_whole))
  k_with "subscriptTail" =>
    (k_here; (with_reducible show wpAny _ _ (subscriptTail (PySem.Expr.Name _ _) _ (Value.ref _) (Value.int (-1) _)) _ _ _); (with_reducible refine' item_last (hs := ?hs_w) (hg := ?hg_w) ?N_w ?m_w ?f_w ?_); (case N_w => k_asm); (case m_w => k_mem); (case f_w => with_reducible assumption); (case hs_w => with_unfolding_all rfl); (case hg_w => (intro _; with_unfolding_all rfl)); k_whole)
  k_with "subscriptTail Attribute" =>
    (k_here; k_dflt (refine kba_turn (value' := PySem.Expr.Name (PySem.Str.ofString "_") ⟨0, 0, 0, 0⟩) (fun _ => rfl) ?_))
  k_with "setItem ref int" =>
    (k_here; (with_reducible show wpAny _ _ (setItem (Value.ref _) (Value.int (-1) _) _) _ _ _); k_dflt (refine' set_last ?F_w ?N_w ?m_w ?U_w ?z_w ?_; (case F_w => k_asm); (case N_w => k_asm); (case m_w => k_mem); (case U_w => k_upd); (case z_w => with_reducible assumption)); (intro h'w F'w N'w; (try dsimp only [List.nil_append, List.cons_append] at N'w)))
  k_with "binaryOp Add ref ref" =>
    (k_here; (with_reducible show wpAny _ _ (binaryOp _ (Value.ref _) (Value.ref _)) _ _ _); k_dflt (refine' add_abs ?F_w ?N_w ?a_w ?b_w ?z_w ?_; (case F_w => k_asm); (case N_w => k_asm); (case a_w => k_mem); (case b_w => k_mem); (case z_w => exact add1 (by with_reducible assumption)); k_whole); intro D'w h'w F'w N'w l1w; (try k_lt l1w))
  k_with "call ref" =>
    (k_here; (show wpAny _ _ (call (Value.ref 285) [_]) _ _ _); refine StopAt.go ?_)
  k_with "call ref" =>
    (k_here; (show wpAny _ _ (call (Value.ref 292) [_, _]) _ _ _); refine StopAt.go ?_)
  k_with "call ref" =>
    (k_here; (show wpAny _ _ (call (Value.ref 297) [_, _]) _ _ _); refine StopAt.go ?_)
  k_with "call ref" =>
    (k_here; (show wpAny _ _ (call (Value.ref 302) [_]) _ _ _); refine StopAt.go ?_)
  k_with "call ref" =>
    (k_here; (show wpAny _ _ (call (Value.ref 309) [_, _, _]) _ _ _); refine StopAt.go ?_)
  k_with "call ref" =>
    (k_here; (show wpAny _ _ (call (Value.ref 316) [_, _, _, _]) _ _ _); refine StopAt.go ?_)
  k_with "call ref" =>
    (k_here; (show wpAny _ _ (call (Value.ref 321) [_, _, _]) _ _ _); refine StopAt.go ?_)
  k_with "call ref" =>
    (k_here; (show wpAny _ _ (call (Value.ref 328) [_, _]) _ _ _); refine StopAt.go ?_)
  k_with "call ref" =>
    (k_here; (show wpAny _ _ (call (Value.ref 335) []) _ _ _); refine StopAt.go ?_)
  k_with "exec For Name Call cons nil" =>
    (k_here; (rename Fr _ _ _ _ => lF'); (with_unfolding_all refine' For_invVF lF' ?k1_w ?k2_w ?_; (case k1_w => exact rfl); (case k2_w => exact rfl); k_whole))
  exact trivial
local macro_rules | `(tactic| walk_at "pyIter ref") => `(tactic| (k_here; refine StopAt.go ?_))
theorem words27 : True := by
  k_with "compareOp NotEq ref ref" =>
    (k_here; first | k_dflt (refine ne_nil (by k_asm) (by k_mem) (by k_mem) (by ke_room) ?_) | k_dflt (refine ne_nil0 (by k_asm) (by k_mem) (by k_mem) (by ke_room) ?_) | refine StopAt.go ?_)
  k_with "call ref" =>
    (k_here; (show wpAny _ _ (call (Value.ref 211) [_]) _ _ _); k_dflt (refine wpAny_call ?_; refine' top_m (G := ⟨_, _, _, _, _, _, _, _, _, _, _⟩) ?hd_w ?B_w ?F_w ?X_w ?T_w ?N_w ?q0_w ?q1_w ?q2_w ?q3_w ?_; (case B_w => k_asm); (case F_w => k_asm); (case X_w => k_asm); (case T_w => k_asm); (case N_w => k_asm); (case q0_w => k_mem); (case q1_w => k_mem); (case q2_w => k_mem); (case q3_w => with_reducible assumption); (case hd_w => (first | decide | (dsimp only; decide) | ((simp only [depth_mark, depth_under_make, depth_under_kw, depth_in1, depth_deeper, depth_caller]); decide) | ((simp only [depth_mark, depth_under_make, depth_under_kw, depth_in1, depth_deeper]); omega))); k_whole); intro h'w tk'w F'w N'w; (try dsimp only))
  k_with "call ref" =>
    (k_here; (show wpAny _ _ (call (Value.ref 204) [_]) _ _ _); k_dflt (refine wpAny_call ?_; refine' many_m (G := ⟨_, _, _, _, _, _, _, _, _, _, _⟩) ?hd_w ?B_w ?F_w ?X_w ?T_w ?N_w ?q0_w ?q1_w ?q2_w ?q3_w ?q4_w ?_; (case B_w => k_asm); (case F_w => k_asm); (case X_w => k_asm); (case T_w => k_asm); (case N_w => k_asm); (case q0_w => k_mem); (case q1_w => k_mem); (case q2_w => k_mem); (case q3_w => exact fs_int _); (case q4_w => with_reducible assumption); (case hd_w => (first | decide | (dsimp only; decide) | ((simp only [depth_mark, depth_under_make, depth_under_kw, depth_in1, depth_deeper, depth_caller]); decide) | ((simp only [depth_mark, depth_under_make, depth_under_kw, depth_in1, depth_deeper]); omega))); k_whole); intro h'w tk'w t'w F'w N'w; (try dsimp only))
  k_with "call ref" =>
    (k_here; (show wpAny _ _ (call (Value.ref 218) [_, _]) _ _ _); k_dflt (refine wpAny_call ?_; refine' push_m (G := ⟨_, _, _, _, _, _, _, _, _, _, _⟩) ?hd_w ?B_w ?F_w ?X_w ?T_w ?N_w ?q0_w ?q1_w ?q2_w ?q3_w ?q4_w ?q5_w ?q6_w ?_; (case B_w => k_asm); (case F_w => k_asm); (case X_w => k_asm); (case T_w => k_asm); (case N_w => k_asm); (case q0_w => k_mem); (case q1_w => k_mem); (case q2_w => k_mem); (case q3_w => exact fs_int _); (case q4_w => with_reducible assumption); (case q5_w => with_reducible assumption); (case q6_w => k_upd); (case hd_w => (first | decide | (dsimp only; decide) | ((simp only [depth_mark, depth_under_make, depth_under_kw, depth_in1, depth_deeper, depth_caller]); decide) | ((simp only [depth_mark, depth_under_make, depth_under_kw, depth_in1, depth_deeper]); omega))); k_whole); intro h'w tk'w F'w N'w; (try dsimp only [List.nil_append, List.cons_append] at N'w); (try dsimp only))
  exact trivial
theorem law_try : PySem.Challenge.rw_pc0196_01.Holds := by
  refine hd ⟨top_left, ?_⟩
  k_go0
  k_unmd
  k_fold
  k_steps
  unfold StopAt
  refine wpAny_call ?_
  refine' shaft_c  ?Bc0 ?Fc0 ?Xc0 ?Tc0 ?Nc0 ?a0c0 ?a1c0 ?a2c0 ?Hc0
  (case Bc0 => k_asm)
  (case Fc0 => k_asm)
  (case Xc0 => k_asm)
  (case Tc0 => k_asm)
  (case Nc0 => k_asm)
  (case a0c0 => assumption)
  (case a1c0 => assumption)
  (case a2c0 => omega)
  intro h' tk' S a b ta tb F1 N1 OS a0 b0 b1
  dsimp only
  k_steps
  unfold StopAt
  refine wpAny_call ?_
  refine' lift_c  ?Bc1 ?Fc1 ?Xc1 ?Tc1 ?Nc1 ?a0c1 ?a1c1 ?a2c1 ?a3c1 ?a4c1 ?a5c1 ?Hc1
  (case Bc1 => k_asm)
  (case Fc1 => k_asm)
  (case Xc1 => k_asm)
  (case Tc1 => k_asm)
  (case Nc1 => exact news_head (pre := [_,_,_,_,_]) (by assumption))
  (case a0c1 => omega)
  (case a1c1 => omega)
  (case a2c1 => omega)
  (case a3c1 => omega)
  (case a4c1 => omega)
  (case a5c1 => (simp only [Apart, OffAll]; (repeat' (first | exact True.intro | exact ⟨by k_ne⟩ | refine And.intro ?_ ?_))))
  intro h' tk' fl a b t1 t2 t3 n' F2 N2 fl0 fl6 a0 b0 b1

  dsimp only
  k_steps
  unfold StopAt
  refine' range_law (w := _) (S := S) ?hhL ?hrL ?hsL ?hnL ?FL0 ?NL0 ⟨⟨?z1, ?z2, ?z3, ?z4⟩, ?y1, ?y2, ?y3⟩ (fun S FO dF tm FL RO => ⟨?turn, ?done⟩)
  (case hhL => rfl)
  (case FL0 => k_asm)
  (case hrL => assumption)
  (case hsL => exact small_one (by omega) (by omega) (by omega) (by omega))
  (case hnL => exact rangeSize_nat _ _)
  (case y1 => exact rfl)
  (case y2 => exact rfl)
  (case y3 => exact rfl)
  (case NL0 => refine' led_nil (cb_drop (by assumption) (mem5 (.head _) (.tail _ (.tail _ (.tail _ (.tail _ (.head _))))) (.tail _ (.tail _ (.tail _ (.tail _ (.tail _ (.head _)))))) (.tail _ (.tail _ (.tail _ (.head _)))) (.tail _ (.tail _ (.head _))))))
  (case z1 => exact a0)
  (case z2 => exact b0)
  (case z3 => exact b1)
  (case z4 => refine apart_nil ?_; (simp only [Apart, OffAll]; (repeat' (first | exact True.intro | exact ⟨by k_ne⟩ | refine And.intro ?_ ?_))))

  case turn =>
    rename World => wv
    intro i t m₁ h tk I oI a ta b tb k k2 k3 bs hi hIo hS F N hm1 hm2 hm3
    rw [lawM_of _ hm1 hm2 hm3] at F
    have AP := Apart.ins (y := (I, oI)) hS.apart hIo
    obtain ⟨a0, b0, b1⟩ := And.intro hS.a0 (And.intro hS.b0 hS.b1)
    have hlen := hS.len
    have hgood := hS.good
    clear hS hIo hm1 hm2 hm3
    refine way_cut F N ?s1 ?s2
    case s1 =>
      rcases bs with _ | ⟨bx, br⟩
      · have N0 := way_nil' (news_swap N)
        clear N
        k_steps
        refine ⟨rfl, _, _, _, _, a, ta, b, tb, k, rfl, by assumption, ?_, ⟨by omega, by omega, .inl (by omega)⟩, a0, b0, b1⟩
        refine way_nil ?_
        (refine cb_drop (by assumption) ?_; ((repeat (refine List.forall_mem_cons.mpr ⟨by k_mem, ?_⟩)); first | exact List.forall_mem_nil _ | (intro p hp; (repeat (first | exact hp | exact List.mem_append_left _ hp | exact List.mem_append_right _ hp | exact List.mem_append_left _ (List.mem_append_left _ hp) | exact List.mem_append_left _ (List.mem_append_right _ hp) | refine List.Mem.tail _ ?_)); done)))
      · have N0 := way_cons (news_swap N)
        clear N
        k_steps
        unfold StopAt
        refine wpAny_call ?_
        refine' lift_c  ?Bc2 ?Fc2 ?Xc2 ?Tc2 ?Nc2 ?a0c2 ?a1c2 ?a2c2 ?a3c2 ?a4c2 ?a5c2 ?Hc2
        (case Bc2 => k_asm)
        (case Fc2 => k_asm)
        (case Xc2 => k_asm)
        (case Tc2 => k_asm)
        (case Nc2 => exact news_tl (by assumption))
        (case a0c2 => exact a0)
        (case a1c2 => exact b0)
        (case a2c2 => exact b1)
        (case a3c2 => omega)
        (case a4c2 => omega)
        (case a5c2 => exact AP)
        intro h' tk' r a' b' t1 t2 t3 n' F2 N2 r0 r8 a0' b0' b1'

        dsimp only
        k_steps
        refine ⟨rfl, _, _, _, _, a', t1, b', t2, n', rfl, by assumption, ?_, ⟨r0, r8, .inr (by simp)⟩, a0', b0', b1'⟩
        rw [fs_cons, ts_cons]
        assumption
    case s2 =>

      clear N F
      intro h tk r t a' ta' b' tb' k' F N r0 r8 rb a0' b0' b1'
      have AP := AP.objs (y := (S, W.listOf #[.int a' ta', .int b' tb'] k')) rfl
      clear a0 b0 b1
      refine turn_cut (i + 1) N ?deed ?tail
      case deed =>

        have hi9 : i ≤ 8 := by omega
        by_cases hr2 : r < 2
        · have hb2 : decide (r < 2) = true := decide_eq_true hr2
          have hbl : bs.length ≤ 8 := Nat.le_trans hlen hi9
          have hbs : bs.length ≤ 999 := Nat.le_trans hbl (by decide)
          have hbI : ((bs.length : Nat) : Int) ≤ 999 := by omega
          have hbp : decide ((200 : Int) ≤ ((bs.length : Nat) : Int)) = false := decide_eq_false (by omega)
          have hfl : (fsOf bs).length ≤ 1000 := by rw [fs_len]; exact Nat.le_trans hbl (by decide)
          have htl : (tsOf bs).length ≤ 1000 := by rw [ts_len]; exact Nat.le_trans hbl (by decide)
          have AP1 := AP
          refine hide fun GG back => ?_
          simp only [Apart, OffAll] at AP
          obtain ⟨⟨q_I_S, q_FO_S, q_dF_S, q_FL_S, q_RO_S, z_S⟩, ⟨q_FO_I, q_dF_I, q_FL_I, q_RO_I, z_I⟩, ⟨q_dF_FO, q_FL_FO, q_RO_FO, z_FO⟩, ⟨q_FL_dF, q_RO_dF, z_dF⟩, ⟨q_RO_FL, z_FL⟩, z_RO, APr⟩ := AP
          clear APr rb
          refine back ?_
          clear back GG
          k_steps
          unfold StopAt
          refine wpAny_call ?_
          refine' lift_c  ?Bc3 ?Fc3 ?Xc3 ?Tc3 ?Nc3 ?a0c3 ?a1c3 ?a2c3 ?a3c3 ?a4c3 ?a5c3 ?Hc3
          (case Bc3 => k_asm)
          (case Fc3 => k_asm)
          (case Xc3 => k_asm)
          (case Tc3 => k_asm)
          (case Nc3 => k_asm)
          (case a0c3 => exact a0')
          (case a1c3 => exact b0')
          (case a2c3 => exact b1')
          (case a3c3 => omega)
          (case a4c3 => omega)
          (case a5c3 => exact AP)
          intro h' tk' q c' d' t1 t2 t3 n' F2 N2 q0 q3 c0 d0 d1
          dsimp only
          have AP2 := AP.objs (y := (S, W.listOf #[.int c' t1, .int d' t2] n')) rfl
          k_steps
          unfold StopAt
          refine wpAny_call ?_
          refine' new_c (G := ⟨_, _, _, _, _, _, _, _, _, _, _⟩) ?nd ?nB ?nF ?nX ?nT ?nN ?n0 ?n8 ?n1 ?n3 ?nH
          (case nB => k_asm)
          (case nd => dsimp only; decide)
          (case nF => k_asm)
          (case nX => k_asm)
          (case nT => k_asm)
          (case nN => k_asm)
          (case n0 => omega)
          (case n8 => omega)
          (case n1 => omega)
          (case n3 => omega)
          intro h' tk' f d g' rg c1 st1 u1 u2 u3 u4 u5 u6 u7 u8 ta1 tw1 wo ps F3 N3 of1 od1 oh1 or1 A4 hw hps hpr
          dsimp only
          refine hide fun GG back => ?_
          have of := of1
          have od := od1
          have og := oh1
          have or := or1
          have A := A4
          simp only [List.cons_append, OffAll, Apart, and_true] at N3 of1 od1 oh1 or1 A4
          obtain ⟨qS1, qI1, qO1, qD1, qL1, qR1, z1⟩ := of1
          obtain ⟨qS2, qI2, qO2, qD2, qL2, qR2, z2⟩ := od1
          obtain ⟨qS3, qI3, qO3, qD3, qL3, qR3, z3⟩ := oh1
          obtain ⟨qS4, qI4, qO4, qD4, qL4, qR4, z4⟩ := or1
          obtain ⟨⟨qa, qb, qc⟩, ⟨qd, qe⟩, qf⟩ := A4
          have zt_FL := off_app z_FL (off_tup (b := 10 * (i : Int)) (i := 0) (ps := ps) fun p hp => (hpr p hp (FL, _) (.tail _ (.tail _ (.tail _ (.tail _ (.head _)))))).symm)
          have zt_RO := off_app z_RO (off_tup (b := 10 * (i : Int)) (i := 0) (ps := ps) fun p hp => (hpr p hp (RO, _) (.tail _ (.tail _ (.tail _ (.tail _ (.tail _ (.head _))))))).symm)
          refine back ?_
          clear back GG
          k_steps
          unfold StopAt
          refine wpAny_call ?_
          obtain ⟨A5, y1, y2, y3⟩ := push_off of od or A (by assumption) (by assumption)
          refine' regs_c ?rB ?rF ?rX ?rT (regs_in (by assumption)) ?r0 ?r8 ?r1 ?r3 hps hw A5 y1 y2 y3 ?rH
          (case rB => k_asm)
          (case rF => k_asm)
          (case rX => k_asm)
          (case rT => k_asm)
          (case r0 => omega)
          (case r8 => omega)
          (case r1 => omega)
          (case r3 => omega)
          intro h' tk' F4 N4
          dsimp only
          k_steps
          exact push_end (by k_asm) N4 c0 d0 d1 hlen hgood AP1 of od og A (by assumption) (by assumption) rfl rfl rfl
        rcases bs with _ | ⟨bx, br⟩
        · exact absurd rb (by simp; omega)
        clear rb
        have hb2 : decide (r < 2) = false := decide_eq_false hr2
        by_cases hr5 : r < 5
        · have hb5 : decide (r < 5) = true := decide_eq_true hr5
          have N1 := way_cons N
          clear N
          have hbr : br.length ≤ 8 := by simp only [List.length_cons] at hlen; omega
          have hbs : (bx :: br).length ≤ 999 := by simp only [List.length_cons]; omega
          have hgx := hgood bx (.head _)
          have hle := hgx.len
          have hok := hgx.ok
          have hfl : (fsOf br).length ≤ 1000 := by rw [fs_len]; exact Nat.le_trans hbr (by decide)
          have htl : (tsOf br).length ≤ 1000 := by rw [ts_len]; exact Nat.le_trans hbr (by decide)
          have hll : bx.c.ls.length ≤ 999 := by rw [hok.ls.length]; omega
          have hhl : bx.c.hs.length ≤ 1000 := by rw [hok.hs.length]; omega
          have AP1 := AP
          refine hide fun GG back => ?_
          simp only [tl_cons, Box.all, Cell.objs, List.cons_append, List.append_assoc, List.nil_append] at N1 AP
          simp only [Apart, OffAll] at AP
          obtain ⟨⟨q_I_S, q_FO_S, q_dF_S, q_FL_S, q_RO_S, q_f_S, q_d_S, q_h_S, q_t_S, q_l_S, z_S⟩, ⟨q_FO_I, q_dF_I, q_FL_I, q_RO_I, q_f_I, q_d_I, q_h_I, q_t_I, q_l_I, z_I⟩, ⟨q_dF_FO, q_FL_FO, q_RO_FO, q_f_FO, q_d_FO, q_h_FO, q_t_FO, q_l_FO, z_FO⟩, ⟨q_FL_dF, q_RO_dF, q_f_dF, q_d_dF, q_h_dF, q_t_dF, q_l_dF, z_dF⟩, ⟨q_RO_FL, q_f_FL, q_d_FL, q_h_FL, q_t_FL, q_l_FL, z_FL⟩, ⟨q_f_RO, q_d_RO, q_h_RO, q_t_RO, q_l_RO, z_RO⟩, ⟨q_d_f, q_h_f, q_t_f, q_l_f, z_f⟩, ⟨q_h_d, q_t_d, q_l_d, z_d⟩, ⟨q_t_h, q_l_h, z_h⟩, ⟨q_l_t, z_t⟩, z_l, APr⟩ := AP
          refine back ?_
          clear back GG
          k_steps
          refine' enter_end bx ?eF ?eN a0' b0' b1' (by simpa using hlen) hgood AP1 ?eD ?eE ?e1 ?e2 ?e3
          (case eF => k_asm)
          (case eN => k_asm)
          (case eD => assumption)
          (case eE => assumption)
          (case e1 => exact rfl)
          (case e2 => exact rfl)
          (case e3 => exact rfl)
        have hb5 : decide (r < 5) = false := decide_eq_false hr5
        by_cases hr6 : r = 5
        · subst hr6
          have hbr : br.length ≤ 8 := by simp only [List.length_cons] at hlen; omega
          have hbs : (bx :: br).length ≤ 999 := by simp only [List.length_cons]; omega
          have hgx := hgood bx (.head _)
          have hle := hgx.len
          have hok := hgx.ok
          k_steps
          unfold StopAt
          refine wpAny_call ?_
          refine' lift_c  ?Bc4 ?Fc4 ?Xc4 ?Tc4 ?Nc4 ?a0c4 ?a1c4 ?a2c4 ?a3c4 ?a4c4 ?a5c4 ?Hc4
          (case Bc4 => k_asm)
          (case Fc4 => k_asm)
          (case Xc4 => k_asm)
          (case Tc4 => k_asm)
          (case Nc4 => k_asm)
          (case a0c4 => exact a0')
          (case a1c4 => exact b0')
          (case a2c4 => exact b1')
          (case a3c4 => omega)
          (case a4c4 => omega)
          (case a5c4 => exact AP)
          intro h' tk' q c' d' t1 t2 t3 n' F2 N2 q0 q3 c0 d0 d1
          dsimp only
          have AP2 := AP.objs (y := (S, W.listOf #[.int c' t1, .int d' t2] n')) rfl
          k_steps
          unfold StopAt
          refine wpAny_call ?_
          refine' left_b ?lB ?lF ?lX ?lT (News.rot4 (by assumption)) q0 q3 (by omega) hok (by omega) (Apart.rot4 AP2) ?lH
          (case lB => k_asm)
          (case lF => k_asm)
          (case lX => k_asm)
          (case lT => k_asm)
          intro h' tk' n2' n3' bs' F3 N3 A3 hb rel
          dsimp only
          k_steps
          exact deed_end (Left _) (left_good hgood) (by k_asm) N3 c0 d0 d1 hlen hgood A3 hb rel rfl rfl rfl
        · have hi10 : i ≤ 9 := by omega
          have hbl : (bx :: br).length ≤ 9 := Nat.le_trans hlen hi10
          have hbs : (bx :: br).length ≤ 999 := by simp only [List.length_cons] at hlen ⊢; omega
          have hb6 : (r == 5) = false := beq_eq_false_iff_ne.mpr hr6
          k_steps
          unfold StopAt
          refine wpAny_call ?_
          refine' lift_c  ?Bc5 ?Fc5 ?Xc5 ?Tc5 ?Nc5 ?a0c5 ?a1c5 ?a2c5 ?a3c5 ?a4c5 ?a5c5 ?Hc5
          (case Bc5 => k_asm)
          (case Fc5 => k_asm)
          (case Xc5 => k_asm)
          (case Tc5 => k_asm)
          (case Nc5 => k_asm)
          (case a0c5 => exact a0')
          (case a1c5 => exact b0')
          (case a2c5 => exact b1')
          (case a3c5 => omega)
          (case a4c5 => omega)
          (case a5c5 => exact AP)
          intro h' tk' q c' d' t1 t2 t3 n' F2 N2 q0 q3 c0 d0 d1
          dsimp only
          have AP2 := AP.objs (y := (S, W.listOf #[.int c' t1, .int d' t2] n')) rfl
          k_steps
          unfold StopAt
          refine wpAny_call ?_
          refine' thrown_b ?tB ?tF ?tX ?tT (thrown_in (by assumption)) (min_bd q0 _).1 (min_bd q0 _).2 (by assumption) ?tg (thrown_ap AP2 (by assumption)) ?tH
          (case tB => k_asm)
          (case tF => k_asm)
          (case tX => k_asm)
          (case tT => k_asm)
          (case tg => exact fun b hb => ⟨(hgood b hb).ok, Nat.le_trans (hgood b hb).len hi10⟩)
          intro h' tk' n2' n3' bs' F3 N3 A3 hb rel
          dsimp only
          k_steps
          exact deed_end _ thrown_good (by k_asm) N3 c0 d0 d1 hlen hgood A3 hb rel rfl rfl rfl

      case tail =>

        clear N F AP a0' b0' b1' hlen hgood r0 r8 rb
        intro h tk m a ta b tb k k2 k3 bs hS F N hIo e1 e2 e3
        have hi8 : i + 1 ≤ 9 := by omega
        have hg9 : ∀ b ∈ bs, b.Good 9 := fun b hb => (hS.good b hb).mono hi8
        have hbl : bs.length ≤ 9 := Nat.le_trans hS.len hi8
        have hbs : bs.length ≤ 999 := Nat.le_trans hbl (by decide)
        rw [lawM_id e1 e2 e3] at F
        clear e1 e2 e3
        refine turn_cut (i + 1) N ?same ?keep
        case same =>
          have hbI : ((bs.length : Nat) : Int) ≤ 999 := by omega
          have hne : (((bs.length : Nat) : Int) != ((bs.length : Nat) : Int)) = false := bne_self_eq_false _
          k_steps
          unfold StopAt
          refine wpAny_call ?_
          refine' seen_b ?sB ?sF ?sX ?sT (by assumption) hbl (fun b hb => (hg9 b hb).three (Nat.le_refl _)) ?sH
          (case sB => k_asm)
          (case sF => k_asm)
          (case sX => k_asm)
          (case sT => k_asm)
          intro h' tk' D vals k' news' F3 N3 mRO sm N4
          dsimp only
          k_steps
          unfold StopAt
          refine ne_seen N3 mRO sm ?su ?_
          (case su => ke_room)
          clear N3 sm mRO
          k_steps
          refine' TurnEnd.of (ta := ta) (tb := tb) (k := k) (k2 := k2) (k3 := k3) bs ?uF ?uN hS.a0 hS.b0 hS.b1 hS.len hS.good ?uA ?u1 ?u2 ?u3
          (case uF => k_asm)
          (case uN => k_asm)
          (case uA => exact hS.apart.ins hIo)
          (case u1 => exact rfl)
          (case u2 => exact rfl)
          (case u3 => exact rfl)
        clear hS F N hIo
        intro h tk m a ta b tb k k2 k3 bs hS F N hIo e1 e2 e3
        have hg9 : ∀ b ∈ bs, b.Good 9 := fun b hb => (hS.good b hb).mono hi8
        have hbl : bs.length ≤ 9 := Nat.le_trans hS.len hi8
        rw [lawM_id e1 e2 e3] at F
        clear e1 e2 e3
        refine turn_cut (i + 1) N ?again ?over
        case over =>
          clear hS F N hIo hg9 hbl
          intro h tk m a ta b tb k k2 k3 bs hS F N hIo e1 e2 e3
          exact wpAny_execs_nil (TurnEnd.of (ta := ta) (tb := tb) (k := k) (k2 := k2) (k3 := k3) bs F N hS.a0 hS.b0 hS.b1 hS.len hS.good (hS.apart.ins hIo) e1 e2 e3)
        case again =>
          rcases bs with _ | ⟨bx, br⟩
          · have N0 := way_nil' (news_swap N)
            clear N
            k_steps
            refine' TurnEnd.of (ta := ta) (tb := tb) (k := k) (k2 := k2) (k3 := k3) [] ?vF ?vN hS.a0 hS.b0 hS.b1 hS.len hS.good ?vA ?v1 ?v2 ?v3
            (case vF => k_asm)
            (case vN => (refine news_swap (way_nil ?_); (refine cb_drop (by assumption) ?_; ((repeat (refine List.forall_mem_cons.mpr ⟨by k_mem, ?_⟩)); first | exact List.forall_mem_nil _ | (intro p hp; (repeat (first | exact hp | exact List.mem_append_left _ hp | exact List.mem_append_right _ hp | exact List.mem_append_left _ (List.mem_append_left _ hp) | exact List.mem_append_left _ (List.mem_append_right _ hp) | refine List.Mem.tail _ ?_)); done)))))
            (case vA => exact hS.apart.ins hIo)
            (case v1 => exact rfl)
            (case v2 => exact rfl)
            (case v3 => exact rfl)
          · have N0 := way_cons N
            clear N
            simp only [tl_cons, Box.all, Cell.objs, List.cons_append, List.append_assoc, List.nil_append] at N0
            have hfl : (fsOf br).length ≤ 1000 := by rw [fs_len]; simp at hbl; omega
            have htl : (tsOf br).length ≤ 1000 := by rw [ts_len]; simp at hbl; omega
            k_steps
            unfold StopAt
            refine wpAny_call ?_
            refine' again_b (x := bx) (tl := boxTl wv br) ?aB ?aF ?aX ?aT (news_tl (by assumption)) (hg9 bx (.head _)) ?aH
            (case aB => k_asm)
            (case aF => k_asm)
            (case aX => k_asm)
            (case aT => k_asm)
            intro h' tk' F4 N4
            dsimp only
            k_steps
            refine' TurnEnd.of (ta := ta) (tb := tb) (k := k) (k2 := k2) (k3 := k3) (bx :: br) ?wF ?wN hS.a0 hS.b0 hS.b1 hS.len hS.good ?wA ?w1 ?w2 ?w3
            (case wF => k_asm)
            (case wN => (rw [fs_cons, ts_cons, tl_cons, Box.all, List.append_assoc]; assumption))
            (case wA => exact hS.apart.ins hIo)
            (case w1 => exact rfl)
            (case w2 => exact rfl)
            (case w3 => exact rfl)


  case done =>
    rename World => wv
    intro m₁ h tk a ta b tb k k2 k3 bs hS F N e1 e2 e3
    have hn9 : (4 + fl - 0).toNat ≤ 9 := by omega
    have hbl : bs.length ≤ 9 := Nat.le_trans hS.len hn9
    have hg9 : ∀ b ∈ bs, b.c.Ok ∧ b.c.ns.length ≤ 9 ∧ (b.c.v = .none ∨ ∃ va, b.c.v = .ref va) := fun b hb => (hS.good b hb).three hn9
    have AP := hS.apart
    rw [lawM_id e1 e2 e3] at F
    clear e1 e2 e3 hS
    k_steps
    unfold StopAt
    refine wpAny_call ?_
    refine' thrown_b (nv := 0) (vi := [Value.str (Str.ofString "nothing") _]) ?uB ?uF ?uX ?uT (done_in (by assumption)) (Int.le_refl 0) (Int.natCast_nonneg _) hbl (fun b hb => ⟨(hg9 b hb).1, (hg9 b hb).2.1⟩) (done_ap AP (by assumption)) ?uH
    (case uB => k_asm)
    (case uF => k_asm)
    (case uX => k_asm)
    (case uT => k_asm)
    intro h' tk' n2' n3' bs' F3 N3 A3 hb rel
    dsimp only
    have hbl' : bs'.length ≤ 9 := Nat.le_trans hb hbl
    have N4 := done_out N3
    clear N3
    k_steps
    unfold StopAt
    refine wpAny_call ?_
    refine' seen_b ?vB ?vF ?vX ?vT (by assumption) hbl' ?vG ?vH
    (case vB => k_asm)
    (case vF => k_asm)
    (case vX => k_asm)
    (case vT => k_asm)
    (case vG => exact fun b hb => (rel b hb).elim (hg9 b) fun ⟨x1, ⟨y, y1, y2⟩, x3, _⟩ => ⟨x1, Nat.le_trans y2 (hg9 y y1).2.1, .inr ⟨_, x3⟩⟩)
    intro h' tk' D vals k' news' F3 N3 mRO sm N4
    dsimp only
    k_steps
    unfold StopAt
    refine ne_seen N3 mRO sm ?wu ?_
    (case wu => ke_room)
    clear N3 sm mRO
    k_steps
    unfold StopAt
    refine wpAny_call ?_
    refine' many_c ?xB ?xF ?xX ?xT ?xN ?xH
    (case xB => k_asm)
    (case xF => k_asm)
    (case xX => k_asm)
    (case xT => k_asm)
    (case xN => k_asm)
    intro h' tk' F5 N5
    dsimp only
    k_steps
end
end Mine
theorem PySem.Challenge.cw_pc0196_01_holds : PySem.Challenge.rw_pc0196_01.Holds := by
  exact Mine.law_try
