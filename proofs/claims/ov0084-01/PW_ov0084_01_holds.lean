import PyProof.Rows.All
import Wide.All
import OpenK.AllK
import Wide.FinOn
import Lean
import PySem.Challenge.RW_ov0084_01
open PySem PySem.W PySem.Spec PySem.Calls PyProof.Rows
set_option Elab.async false
set_option maxRecDepth 100000
set_option linter.unusedVariables false
namespace Mine

section
/- the written part of the heap is laid here, once; the head itself is shown below -/
local macro_rules | `(tactic| o_head $H:term) => `(tactic| assumption)
set_option maxHeartbeats 0 in
theorem laid (h : (PySem.Challenge.rw_ov0084_01).row.Holds) : True := by
  (have x : (PySem.Challenge.rw_ov0084_01).row.Holds := by k_head)
  trivial
end

/-- the top's run out of its opening steps, six pieces and its last step -/
theorem run_of {p : Program} {w : World} {m₀ n1 n2 n3 n4 n5 n6 : Nat} {ann : Option Value} {b l1 l2 l3 l4 l5 l6 : List Stmt} {env : Env} {q pos p0 p1 p2 p3 p4 p5 p6 : Pos} {c : Code} {s r : Shared} {s0 s1 s2 s3 s4 s5 s6 : SharedT} {k j : Nat}
    (cut : b = l1 ++ (l2 ++ (l3 ++ (l4 ++ (l5 ++ (l6 ++ []))))))
    (pre : topGo treeTable p w m₀ ann k s (topStub p) = some (s0.abs, ⟨denote treeTable (.body b env), c, pos, [topFrame q]⟩))
    (block : segRun treeTable p w m₀ ann 1 j s0.abs (blockOf b env c pos [topFrame q]) = some (.next, s0.abs, c, p0))
    (g1 : segRunT treeTable p w m₀ ann 1 n1 s0 (piecesOf l1 env c p0 [topFrame q]) = some (.next, s1, c, p1))
    (g2 : segRunT treeTable p w m₀ ann 1 n2 s1 (piecesOf l2 env c p1 [topFrame q]) = some (.next, s2, c, p2))
    (g3 : segRunT treeTable p w m₀ ann 1 n3 s2 (piecesOf l3 env c p2 [topFrame q]) = some (.next, s3, c, p3))
    (g4 : segRunT treeTable p w m₀ ann 1 n4 s3 (piecesOf l4 env c p3 [topFrame q]) = some (.next, s4, c, p4))
    (g5 : segRunT treeTable p w m₀ ann 1 n5 s4 (piecesOf l5 env c p4 [topFrame q]) = some (.next, s5, c, p5))
    (g6 : segRunT treeTable p w m₀ ann 1 n6 s5 (piecesOf l6 env c p5 [topFrame q]) = some (.next, s6, c, p6))
    (fin : topRun treeTable p w m₀ ann 2 s6.abs ⟨doneF .next, c, p6, [topFrame q]⟩ = some r) :
    topRun treeTable p w m₀ ann (k + (j + (n1 + (n2 + (n3 + (n4 + (n5 + (n6 + 2)))))))) s (topStub p) = some r := by
  subst cut
  exact go_top pre (piece_block block (piece_app (segRun_of g1) (piece_app (segRun_of g2) (piece_app (segRun_of g3) (piece_app (segRun_of g4) (piece_app (segRun_of g5) (piece_app (segRun_of g6) (piece_nil fin))))))))

abbrev pw : Program := PySem.Challenge.pw_ov0084_01
def kept : List Nat := [0,2,3,4,5,7,8,10,11,12,13,14,15,16,17,18,19,20,21,23,24,25,26,27,28,29,30,31,32,33,34,36,37,38,39,40,41,43,44,45,46,47,49,50,51,52,53,54,55,56,57,58,59,60,61,62,63,64,66,67,68,69,70,71,72,73,75,76,77,78,79,80,81,82,83,84,85,87,88,89,90,91,92,93]
def view : Program := PySem.W.view PySem.Challenge.pw_ov0084_01 kept
abbrev noVals : List (Str × WData) := []
def tops : List Stmt := behindTheImports PySem.Challenge.pw_ov0084_01
def topEnv : Env := { scope := PySem.Challenge.pw_ov0084_01.main.scope, locals := mainNs, globals := mainNs, cells := [], code := .ref 13, frame := some 14 }
def noPos : Pos := ⟨0, 0, 0, 0⟩
def o11 (_ : Params) : Obj := { cls := .type "tuple", data := .seq #[] }
def o12 (_ : Params) : Obj := { cls := .none, data := .fields #[] }
def o13 (_ : Params) : Obj := { cls := .type "code", data := .fields #[.str "<module>" 182, .str "<module>" 183, .str "/claim/cut.py" 184, .int 1 0, .int 0 0, .int 0 0, .int 0 0, .int 0 0, .ref 11, .bool false, .int 181 0, .ref 12, .none, .none, .none, .none, .int 185 0, .int 1 0, .str "/claim/cut.py" 186] }
def o14 (_ : Params) : Obj := { cls := .type "frame", slots := #[some (.ref 13), some (.ref 3), some (.ref 3), none, some (.str "__main__" 164), none, some (.ref 0)] }
noncomputable def t0 (P : Params) : BT :=
  .node (boot_o_0 P) (.node (boot_o_1 P) (.node (boot_o_3 P) (.node (boot_o_7 P) .nil .nil) (.node (o11 P) .nil .nil)) (.node (boot_o_5 P) (.node (boot_o_9 P) .nil .nil) (.node (o13 P) .nil .nil)))
    (.node (boot_o_2 P) (.node (boot_o_4 P) (.node (boot_o_8 P) .nil .nil) (.node (o12 P) .nil .nil)) (.node (boot_o_6 P) (.node (boot_o_10 P) .nil .nil) (.node (o14 P) .nil .nil)))
noncomputable def sT (w : World) (os : OsState) : SharedT := { tree := t0 w.params, n := 15, life := {}, gens := #[], drawn := {}, toks := 187, os }

theorem opened : ∀ w : World, (fencedOpening treeTable pw w 7498).map (fun s => (s.heap, s.gens, s.drawn, s.toks)) = some (boot_heap w.params, Array.mk [], boot_drawn, boot_toks) :=
  boot_open (by kernel_rfl) (by decide +kernel) (by intro s; kernel_rfl)
theorem sized : ∀ w : World, ((boot_heap w.params).isNs mainGlobals && (Array.mk [] : Array GenState).size == 0, (boot_heap w.params).objs.size, (boot_heap w.params).nsMap mainGlobals "__annotations__") = (true, 11, some (.ref 6)) := by
  intro w
  kernel_rfl
theorem pre_ok (w : World) (os : OsState) : topGo treeTable pw w 11 (some (.ref 6)) 12 ⟨boot_heap w.params, Array.mk [], boot_drawn, boot_toks, os⟩ (topStub pw) = some ((sT w os).abs, ⟨denote treeTable (.body tops topEnv), .body tops topEnv, noPos, [topFrame noPos]⟩) := by
  kernel_rfl
theorem block_ok (w : World) (os : OsState) : segRun treeTable pw w 11 (some (.ref 6)) 1 1 (sT w os).abs (blockOf tops topEnv (.body tops topEnv) noPos [topFrame noPos]) = some (.next, (sT w os).abs, .body tops topEnv, noPos) := by
  kernel_rfl

def topFn (i : Nat) : Stmt := PySem.Challenge.pw_ov0084_01.main.body.getD i (.Pass noPos)
def inFn (i j : Nat) : Stmt := match topFn i with
  | .ClassDef _ _ _ body .. => body.getD j (.Pass noPos)
  | s => s
def bare : Obj := { cls := .none, data := .fields #[] }
/-- what a def leaves beside its function -/
def tmpl (n qn : Str) (d : Stmt) : Obj := match d with
  | .FunctionDef _ a b _ _ _ sc _ _ _ => { cls := .none, data := .func { name := n, qualname := qn, params := a, body := .stmts b, scope := sc, globals := 0, closure := [], defaults := .none, kwdefaults := .none } }
  | _ => bare
def kobj (F : Frag) (a : Nat) : Obj := (List.lookup a F).getD bare
noncomputable def x11 (P : Params) : Obj := { cls := Value.type "tuple", data := Data.seq #[] }
noncomputable def x12 (P : Params) : Obj := { cls := Value.none, data := Data.fields #[Value.int 1 0, Value.int 0 0, Value.ref 20, Value.int 5 0, Value.int 0 0, Value.ref 27, Value.int 9 0, Value.int 0 0, Value.ref 32, Value.int 25 0, Value.int 0 0, Value.ref 39, Value.int 30 0, Value.int 0 0, Value.ref 44, Value.int 36 0, Value.int 0 0, Value.ref 51, Value.int 38 0, Value.int 0 0, Value.ref 64, Value.int 46 0, Value.int 0 0, Value.ref 86, Value.int 50 0, Value.int 0 0, Value.ref 93, Value.int 60 0, Value.int 0 0, Value.ref 100, Value.int 64 0, Value.int 0 0, Value.ref 107, Value.int 66 0, Value.int 0 0, Value.ref 114, Value.int 68 0, Value.int 0 0, Value.ref 121, Value.int 72 0, Value.int 0 0, Value.ref 128, Value.int 77 0, Value.int 0 0, Value.ref 135, Value.int 83 0, Value.int 0 0, Value.ref 142, Value.int 96 0, Value.int 0 0, Value.ref 149, Value.int 107 0, Value.int 0 0, Value.ref 156, Value.int 115 0, Value.int 0 0, Value.ref 163, Value.int 120 0, Value.int 0 0, Value.ref 170, Value.int 129 0, Value.int 0 0, Value.ref 177, Value.int 134 0, Value.int 0 0, Value.ref 184, Value.int 141 0, Value.int 0 0, Value.ref 191, Value.int 149 0, Value.int 0 0, Value.ref 198, Value.int 156 0, Value.int 0 0, Value.ref 205, Value.int 176 0, Value.int 0 0, Value.ref 212, Value.int 183 0, Value.int 0 0, Value.ref 217, Value.int 187 0, Value.int 0 0, Value.ref 225, Value.int 189 0, Value.int 0 0, Value.ref 232, Value.int 194 0, Value.int 0 0, Value.ref 239, Value.int 198 0, Value.int 0 0, Value.ref 246, Value.int 208 0, Value.int 0 0, Value.ref 253, Value.int 218 0, Value.int 0 0, Value.ref 260, Value.int 250 0, Value.int 0 0, Value.ref 267, Value.int 268 0, Value.int 0 0, Value.ref 274, Value.int 279 0, Value.int 0 0, Value.ref 303, Value.int 281 0, Value.int 0 0, Value.ref 310, Value.int 292 0, Value.int 0 0, Value.ref 317, Value.int 294 0, Value.int 0 0, Value.ref 324, Value.int 300 0, Value.int 0 0, Value.ref 331, Value.int 303 0, Value.int 0 0, Value.ref 338, Value.int 309 0, Value.int 0 0, Value.ref 345, Value.int 317 0, Value.int 0 0, Value.ref 352, Value.int 323 0, Value.int 0 0, Value.ref 359, Value.int 333 0, Value.int 0 0, Value.ref 366, Value.int 341 0, Value.int 0 0, Value.ref 373, Value.int 347 0, Value.int 0 0, Value.ref 380, Value.int 355 0, Value.int 0 0, Value.ref 387, Value.int 369 0, Value.int 0 0, Value.ref 394, Value.int 371 0, Value.int 0 0, Value.ref 401, Value.int 377 0, Value.int 0 0, Value.ref 408, Value.int 379 0, Value.int 0 0, Value.ref 413, Value.int 393 0, Value.int 0 0, Value.ref 420, Value.int 397 0, Value.int 0 0, Value.ref 425, Value.int 407 0, Value.int 0 0, Value.ref 432, Value.int 415 0, Value.int 0 0, Value.ref 453, Value.int 417 0, Value.int 0 0, Value.ref 460, Value.int 426 0, Value.int 0 0, Value.ref 467, Value.int 452 0, Value.int 0 0, Value.ref 502, Value.int 485 0, Value.int 0 0, Value.ref 509, Value.int 489 0, Value.int 0 0, Value.ref 517, Value.int 503 0, Value.int 0 0, Value.ref 524, Value.int 510 0, Value.int 0 0, Value.ref 531, Value.int 518 0, Value.int 0 0, Value.ref 538, Value.int 528 0, Value.int 0 0, Value.ref 545, Value.int 546 0, Value.int 0 0, Value.ref 552, Value.int 555 0, Value.int 0 0, Value.ref 559, Value.int 563 0, Value.int 0 0, Value.ref 566, Value.int 585 0, Value.int 0 0, Value.ref 573, Value.int 592 0, Value.int 0 0, Value.ref 580, Value.int 601 0, Value.int 0 0, Value.ref 587, Value.int 614 0, Value.int 0 0, Value.ref 594, Value.int 630 0, Value.int 0 0, Value.ref 601, Value.int 632 0, Value.int 0 0, Value.ref 608, Value.int 650 0, Value.int 0 0, Value.ref 615, Value.int 652 0, Value.int 0 0, Value.ref 622, Value.int 656 0, Value.int 0 0, Value.ref 629, Value.int 671 0, Value.int 0 0, Value.ref 636, Value.int 673 0, Value.int 0 0, Value.ref 643] }
noncomputable def x13 (P : Params) : Obj := { cls := Value.type "code", data := Data.fields #[Value.str (Str.ofString "<module>") 182, Value.str (Str.ofString "<module>") 183, Value.str (Str.ofString "/claim/cut.py") 184, Value.int 1 0, Value.int 0 0, Value.int 0 0, Value.int 0 0, Value.int 0 0, Value.ref 11, Value.bool false, Value.int 181 0, Value.ref 12, Value.none, Value.none, Value.none, Value.none, Value.int 185 0, Value.int 1 0, Value.str (Str.ofString "/claim/cut.py") 186] }
noncomputable def x14 (P : Params) : Obj := { cls := Value.type "frame", slots := #[some (Value.ref 13), some (Value.ref 3), some (Value.ref 3), none, some (Value.str (Str.ofString "__main__") 164), none, some (Value.ref 0)] }
noncomputable def x19 (P : Params) : Obj := tmpl "_wall" "_wall" (topFn 0)
noncomputable def x26 (P : Params) : Obj := tmpl "get_attr" "get_attr" (topFn 2)
noncomputable def x31 (P : Params) : Obj := tmpl "names_of" "names_of" (topFn 3)
noncomputable def x38 (P : Params) : Obj := tmpl "dim_of" "dim_of" (topFn 4)
noncomputable def x43 (P : Params) : Obj := tmpl "dimnames_of" "dimnames_of" (topFn 5)
noncomputable def x47 (P : Params) : Obj := { cls := Value.type "builtin_function_or_method", data := Data.fields #[Value.builtin "type.__prepare__", Value.type "type"] }
noncomputable def x48 (P : Params) : Obj := { cls := Value.type "dict", data := Data.dict #[{ hash := PyData.keyHash P (Str.ofString "__module__"), key := Value.str (Str.ofString "__module__") 233, val := Value.str (Str.ofString "vectorcove.errors") 224 }, { hash := PyData.keyHash P (Str.ofString "__qualname__"), key := Value.str (Str.ofString "__qualname__") 235, val := Value.str (Str.ofString "CoveError") 234 }, { hash := PyData.keyHash P (Str.ofString "__firstlineno__"), key := Value.str (Str.ofString "__firstlineno__") 237, val := Value.int 36 236 }, { hash := PyData.keyHash P (Str.ofString "__static_attributes__"), key := Value.str (Str.ofString "__static_attributes__") 238, val := Value.ref 53 }] 4 }
noncomputable def x49 (P : Params) : Obj := { cls := Value.type "tuple", data := Data.seq #[] }
noncomputable def x51 (P : Params) : Obj := { cls := Value.type "code", data := Data.fields #[Value.str (Str.ofString "CoveError") 228, Value.str (Str.ofString "CoveError") 229, Value.str (Str.ofString "/claim/cut.py") 230, Value.int 36 0, Value.int 0 0, Value.int 0 0, Value.int 0 0, Value.int 0 0, Value.ref 49, Value.bool false, Value.int 181 0, Value.ref 50, Value.none, Value.none, Value.none, Value.none, Value.int 231 0, Value.int 36 0, Value.str (Str.ofString "/claim/cut.py") 232] }
noncomputable def x52 (P : Params) : Obj := { cls := Value.type "frame", slots := #[some (Value.ref 51), some (Value.ref 3), some (Value.ref 48), none, some (Value.str (Str.ofString "vectorcove.errors") 224), none, some (Value.ref 0)] }
noncomputable def x57 (P : Params) : Obj := { cls := Value.type "super", data := Data.fields #[Value.ref 55, Value.ref 55, Value.ref 55] }
noncomputable def x58 (P : Params) : Obj := { cls := Value.type "builtin_function_or_method", data := Data.fields #[Value.builtin "object.__init_subclass__", Value.ref 55] }
noncomputable def x60 (P : Params) : Obj := { cls := Value.type "builtin_function_or_method", data := Data.fields #[Value.builtin "type.__prepare__", Value.type "type"] }
noncomputable def x61 (P : Params) : Obj := { cls := Value.type "dict", data := Data.dict #[{ hash := PyData.keyHash P (Str.ofString "__module__"), key := Value.str (Str.ofString "__module__") 253, val := Value.str (Str.ofString "vectorcove.errors") 224 }, { hash := PyData.keyHash P (Str.ofString "__qualname__"), key := Value.str (Str.ofString "__qualname__") 255, val := Value.str (Str.ofString "Refusal") 254 }, { hash := PyData.keyHash P (Str.ofString "__firstlineno__"), key := Value.str (Str.ofString "__firstlineno__") 257, val := Value.int 38 256 }, { hash := PyData.keyHash P (Str.ofString "__init__"), key := Value.str (Str.ofString "__init__") 265, val := Value.ref 72 }, { hash := PyData.keyHash P (Str.ofString "__static_attributes__"), key := Value.str (Str.ofString "__static_attributes__") 267, val := Value.ref 73 }] 5 }
noncomputable def x62 (P : Params) : Obj := { cls := Value.type "tuple", data := Data.seq #[] }
noncomputable def x63 (P : Params) : Obj := { cls := Value.none, data := Data.fields #[Value.int 40 0, Value.int 4 0, Value.ref 71] }
noncomputable def x64 (P : Params) : Obj := { cls := Value.type "code", data := Data.fields #[Value.str (Str.ofString "Refusal") 248, Value.str (Str.ofString "Refusal") 249, Value.str (Str.ofString "/claim/cut.py") 250, Value.int 38 0, Value.int 0 0, Value.int 0 0, Value.int 0 0, Value.int 0 0, Value.ref 62, Value.bool false, Value.int 181 0, Value.ref 63, Value.none, Value.none, Value.none, Value.none, Value.int 251 0, Value.int 38 0, Value.str (Str.ofString "/claim/cut.py") 252] }
noncomputable def x65 (P : Params) : Obj := { cls := Value.type "frame", slots := #[some (Value.ref 64), some (Value.ref 3), some (Value.ref 61), none, some (Value.str (Str.ofString "vectorcove.errors") 224), none, some (Value.ref 0)] }
noncomputable def x70 (P : Params) : Obj := tmpl "__init__" "Refusal.__init__" (inFn 8 0)
noncomputable def x76 (P : Params) : Obj := { cls := Value.type "super", data := Data.fields #[Value.ref 75, Value.ref 75, Value.ref 75] }
noncomputable def x77 (P : Params) : Obj := { cls := Value.type "builtin_function_or_method", data := Data.fields #[Value.builtin "object.__init_subclass__", Value.ref 75] }
noncomputable def x85 (P : Params) : Obj := tmpl "gcd" "gcd" (topFn 13)
noncomputable def x92 (P : Params) : Obj := tmpl "make" "make" (topFn 14)
noncomputable def x99 (P : Params) : Obj := tmpl "from_int" "from_int" (topFn 15)
noncomputable def x106 (P : Params) : Obj := tmpl "is_na" "is_na" (topFn 16)
noncomputable def x113 (P : Params) : Obj := tmpl "is_finite" "is_finite" (topFn 17)
noncomputable def x120 (P : Params) : Obj := tmpl "neg" "neg" (topFn 18)
noncomputable def x127 (P : Params) : Obj := tmpl "to_whole" "to_whole" (topFn 19)
noncomputable def x134 (P : Params) : Obj := tmpl "nearest_whole" "nearest_whole" (topFn 20)
noncomputable def x141 (P : Params) : Obj := tmpl "exponent" "exponent" (topFn 21)
noncomputable def x148 (P : Params) : Obj := tmpl "whole_text" "whole_text" (topFn 24)
noncomputable def x155 (P : Params) : Obj := tmpl "special_text" "special_text" (topFn 25)
noncomputable def x162 (P : Params) : Obj := tmpl "scaled" "scaled" (topFn 26)
noncomputable def x169 (P : Params) : Obj := tmpl "significant" "significant" (topFn 27)
noncomputable def x176 (P : Params) : Obj := tmpl "without_tail" "without_tail" (topFn 28)
noncomputable def x183 (P : Params) : Obj := tmpl "scientific_text" "scientific_text" (topFn 29)
noncomputable def x190 (P : Params) : Obj := tmpl "fixed_text" "fixed_text" (topFn 30)
noncomputable def x197 (P : Params) : Obj := tmpl "measures" "measures" (topFn 31)
noncomputable def x204 (P : Params) : Obj := tmpl "chosen_form" "chosen_form" (topFn 32)
noncomputable def x211 (P : Params) : Obj := tmpl "formed" "formed" (topFn 33)
noncomputable def x216 (P : Params) : Obj := tmpl "common_texts" "common_texts" (topFn 34)
noncomputable def x224 (P : Params) : Obj := tmpl "number_text" "number_text" (topFn 35)
noncomputable def x231 (P : Params) : Obj := tmpl "digits_value" "digits_value" (topFn 36)
noncomputable def x238 (P : Params) : Obj := tmpl "digit_run" "digit_run" (topFn 37)
noncomputable def x245 (P : Params) : Obj := tmpl "exponent_value" "exponent_value" (topFn 38)
noncomputable def x252 (P : Params) : Obj := tmpl "powered" "powered" (topFn 39)
noncomputable def x259 (P : Params) : Obj := tmpl "unsigned_number" "unsigned_number" (topFn 40)
noncomputable def x266 (P : Params) : Obj := tmpl "parse_number" "parse_number" (topFn 41)
noncomputable def x269 (P : Params) : Obj := { cls := Value.type "tuple", data := Data.seq #[] }
noncomputable def x270 (P : Params) : Obj := { cls := Value.type "builtin_function_or_method", data := Data.fields #[Value.builtin "type.__prepare__", Value.type "type"] }
noncomputable def x271 (P : Params) : Obj := { cls := Value.type "dict", data := Data.dict #[{ hash := PyData.keyHash P (Str.ofString "__module__"), key := Value.str (Str.ofString "__module__") 557, val := Value.str (Str.ofString "vectorcove.values") 548 }, { hash := PyData.keyHash P (Str.ofString "__qualname__"), key := Value.str (Str.ofString "__qualname__") 559, val := Value.str (Str.ofString "Vector") 558 }, { hash := PyData.keyHash P (Str.ofString "__firstlineno__"), key := Value.str (Str.ofString "__firstlineno__") 561, val := Value.int 268 560 }, { hash := PyData.keyHash P (Str.ofString "__init__"), key := Value.str (Str.ofString "__init__") 571, val := Value.ref 283 }, { hash := PyData.keyHash P (Str.ofString "copy"), key := Value.str (Str.ofString "copy") 578, val := Value.ref 290 }, { hash := PyData.keyHash P (Str.ofString "__static_attributes__"), key := Value.str (Str.ofString "__static_attributes__") 584, val := Value.ref 291 }] 6 }
noncomputable def x272 (P : Params) : Obj := { cls := Value.type "tuple", data := Data.seq #[] }
noncomputable def x273 (P : Params) : Obj := { cls := Value.none, data := Data.fields #[Value.int 270 0, Value.int 4 0, Value.ref 282, Value.int 277 0, Value.int 4 0, Value.ref 289] }
noncomputable def x274 (P : Params) : Obj := { cls := Value.type "code", data := Data.fields #[Value.str (Str.ofString "Vector") 552, Value.str (Str.ofString "Vector") 553, Value.str (Str.ofString "/claim/cut.py") 554, Value.int 268 0, Value.int 0 0, Value.int 0 0, Value.int 0 0, Value.int 0 0, Value.ref 272, Value.bool false, Value.int 181 0, Value.ref 273, Value.none, Value.none, Value.none, Value.none, Value.int 555 0, Value.int 268 0, Value.str (Str.ofString "/claim/cut.py") 556] }
noncomputable def x275 (P : Params) : Obj := { cls := Value.type "frame", slots := #[some (Value.ref 274), some (Value.ref 3), some (Value.ref 271), none, some (Value.str (Str.ofString "vectorcove.values") 548), none, some (Value.ref 0)] }
noncomputable def x281 (P : Params) : Obj := tmpl "__init__" "Vector.__init__" (inFn 43 0)
noncomputable def x288 (P : Params) : Obj := tmpl "copy" "Vector.copy" (inFn 43 1)
noncomputable def x296 (P : Params) : Obj := { cls := Value.type "super", data := Data.fields #[Value.ref 293, Value.ref 293, Value.ref 293] }
noncomputable def x297 (P : Params) : Obj := { cls := Value.type "builtin_function_or_method", data := Data.fields #[Value.builtin "object.__init_subclass__", Value.ref 293] }
noncomputable def x302 (P : Params) : Obj := tmpl "character" "character" (topFn 44)
noncomputable def x309 (P : Params) : Obj := tmpl "length" "length" (topFn 45)
noncomputable def x316 (P : Params) : Obj := tmpl "is_atomic" "is_atomic" (topFn 46)
noncomputable def x323 (P : Params) : Obj := tmpl "share" "share" (topFn 47)
noncomputable def x330 (P : Params) : Obj := tmpl "note" "note" (topFn 50)
noncomputable def x337 (P : Params) : Obj := tmpl "as_logical_text" "as_logical_text" (topFn 51)
noncomputable def x344 (P : Params) : Obj := tmpl "double_to_integer" "double_to_integer" (topFn 52)
noncomputable def x351 (P : Params) : Obj := tmpl "text_to_double" "text_to_double" (topFn 53)
noncomputable def x358 (P : Params) : Obj := tmpl "to_logical" "to_logical" (topFn 54)
noncomputable def x365 (P : Params) : Obj := tmpl "to_integer" "to_integer" (topFn 55)
noncomputable def x372 (P : Params) : Obj := tmpl "to_double" "to_double" (topFn 56)
noncomputable def x379 (P : Params) : Obj := tmpl "to_text" "to_text" (topFn 57)
noncomputable def x386 (P : Params) : Obj := tmpl "item_as" "item_as" (topFn 58)
noncomputable def x393 (P : Params) : Obj := tmpl "is_atomic_kind" "is_atomic_kind" (topFn 59)
noncomputable def x400 (P : Params) : Obj := tmpl "list_item_as" "list_item_as" (topFn 60)
noncomputable def x407 (P : Params) : Obj := tmpl "refuse_type" "refuse_type" (topFn 61)
noncomputable def x412 (P : Params) : Obj := tmpl "as_vector_kind" "as_vector_kind" (topFn 62)
noncomputable def x419 (P : Params) : Obj := tmpl "with_names" "with_names" (topFn 63)
noncomputable def x424 (P : Params) : Obj := tmpl "as_kind" "as_kind" (topFn 64)
noncomputable def x427 (P : Params) : Obj := { cls := Value.type "tuple", data := Data.seq #[] }
noncomputable def x428 (P : Params) : Obj := { cls := Value.type "builtin_function_or_method", data := Data.fields #[Value.builtin "type.__prepare__", Value.type "type"] }
noncomputable def x429 (P : Params) : Obj := { cls := Value.type "dict", data := Data.dict #[{ hash := PyData.keyHash P (Str.ofString "__module__"), key := Value.str (Str.ofString "__module__") 761, val := Value.str (Str.ofString "vectorcove.sprintf") 748 }, { hash := PyData.keyHash P (Str.ofString "__qualname__"), key := Value.str (Str.ofString "__qualname__") 763, val := Value.str (Str.ofString "Spec") 762 }, { hash := PyData.keyHash P (Str.ofString "__firstlineno__"), key := Value.str (Str.ofString "__firstlineno__") 765, val := Value.int 407 764 }, { hash := PyData.keyHash P (Str.ofString "__init__"), key := Value.str (Str.ofString "__init__") 772, val := Value.ref 440 }, { hash := PyData.keyHash P (Str.ofString "__static_attributes__"), key := Value.str (Str.ofString "__static_attributes__") 778, val := Value.ref 441 }] 5 }
noncomputable def x430 (P : Params) : Obj := { cls := Value.type "tuple", data := Data.seq #[] }
noncomputable def x431 (P : Params) : Obj := { cls := Value.none, data := Data.fields #[Value.int 409 0, Value.int 4 0, Value.ref 439] }
noncomputable def x432 (P : Params) : Obj := { cls := Value.type "code", data := Data.fields #[Value.str (Str.ofString "Spec") 756, Value.str (Str.ofString "Spec") 757, Value.str (Str.ofString "/claim/cut.py") 758, Value.int 407 0, Value.int 0 0, Value.int 0 0, Value.int 0 0, Value.int 0 0, Value.ref 430, Value.bool false, Value.int 181 0, Value.ref 431, Value.none, Value.none, Value.none, Value.none, Value.int 759 0, Value.int 407 0, Value.str (Str.ofString "/claim/cut.py") 760] }
noncomputable def x433 (P : Params) : Obj := { cls := Value.type "frame", slots := #[some (Value.ref 432), some (Value.ref 3), some (Value.ref 429), none, some (Value.str (Str.ofString "vectorcove.sprintf") 748), none, some (Value.ref 0)] }
noncomputable def x438 (P : Params) : Obj := tmpl "__init__" "Spec.__init__" (inFn 68 0)
noncomputable def x446 (P : Params) : Obj := { cls := Value.type "super", data := Data.fields #[Value.ref 443, Value.ref 443, Value.ref 443] }
noncomputable def x447 (P : Params) : Obj := { cls := Value.type "builtin_function_or_method", data := Data.fields #[Value.builtin "object.__init_subclass__", Value.ref 443] }
noncomputable def x452 (P : Params) : Obj := tmpl "is_digit" "is_digit" (topFn 69)
noncomputable def x459 (P : Params) : Obj := tmpl "digits_at" "digits_at" (topFn 70)
noncomputable def x462 (P : Params) : Obj := { cls := Value.type "tuple", data := Data.seq #[] }
noncomputable def x463 (P : Params) : Obj := { cls := Value.type "builtin_function_or_method", data := Data.fields #[Value.builtin "type.__prepare__", Value.type "type"] }
noncomputable def x464 (P : Params) : Obj := { cls := Value.type "dict", data := Data.dict #[{ hash := PyData.keyHash P (Str.ofString "__module__"), key := Value.str (Str.ofString "__module__") 809, val := Value.str (Str.ofString "vectorcove.sprintf") 748 }, { hash := PyData.keyHash P (Str.ofString "__qualname__"), key := Value.str (Str.ofString "__qualname__") 811, val := Value.str (Str.ofString "Source") 810 }, { hash := PyData.keyHash P (Str.ofString "__firstlineno__"), key := Value.str (Str.ofString "__firstlineno__") 813, val := Value.int 426 812 }, { hash := PyData.keyHash P (Str.ofString "__init__"), key := Value.str (Str.ofString "__init__") 822, val := Value.ref 475 }, { hash := PyData.keyHash P (Str.ofString "take"), key := Value.str (Str.ofString "take") 832, val := Value.ref 482 }, { hash := PyData.keyHash P (Str.ofString "take_whole"), key := Value.str (Str.ofString "take_whole") 841, val := Value.ref 489 }, { hash := PyData.keyHash P (Str.ofString "__static_attributes__"), key := Value.str (Str.ofString "__static_attributes__") 845, val := Value.ref 490 }] 7 }
noncomputable def x465 (P : Params) : Obj := { cls := Value.type "tuple", data := Data.seq #[] }
noncomputable def x466 (P : Params) : Obj := { cls := Value.none, data := Data.fields #[Value.int 428 0, Value.int 4 0, Value.ref 474, Value.int 433 0, Value.int 4 0, Value.ref 481, Value.int 445 0, Value.int 4 0, Value.ref 488] }
noncomputable def x467 (P : Params) : Obj := { cls := Value.type "code", data := Data.fields #[Value.str (Str.ofString "Source") 804, Value.str (Str.ofString "Source") 805, Value.str (Str.ofString "/claim/cut.py") 806, Value.int 426 0, Value.int 0 0, Value.int 0 0, Value.int 0 0, Value.int 0 0, Value.ref 465, Value.bool false, Value.int 181 0, Value.ref 466, Value.none, Value.none, Value.none, Value.none, Value.int 807 0, Value.int 426 0, Value.str (Str.ofString "/claim/cut.py") 808] }
noncomputable def x468 (P : Params) : Obj := { cls := Value.type "frame", slots := #[some (Value.ref 467), some (Value.ref 3), some (Value.ref 464), none, some (Value.str (Str.ofString "vectorcove.sprintf") 748), none, some (Value.ref 0)] }
noncomputable def x473 (P : Params) : Obj := tmpl "__init__" "Source.__init__" (inFn 71 0)
noncomputable def x480 (P : Params) : Obj := tmpl "take" "Source.take" (inFn 71 1)
noncomputable def x487 (P : Params) : Obj := tmpl "take_whole" "Source.take_whole" (inFn 71 2)
noncomputable def x495 (P : Params) : Obj := { cls := Value.type "super", data := Data.fields #[Value.ref 492, Value.ref 492, Value.ref 492] }
noncomputable def x496 (P : Params) : Obj := { cls := Value.type "builtin_function_or_method", data := Data.fields #[Value.builtin "object.__init_subclass__", Value.ref 492] }
noncomputable def x501 (P : Params) : Obj := tmpl "read_spec" "read_spec" (topFn 72)
noncomputable def x508 (P : Params) : Obj := tmpl "padded" "padded" (topFn 73)
noncomputable def x516 (P : Params) : Obj := tmpl "signed" "signed" (topFn 74)
noncomputable def x523 (P : Params) : Obj := tmpl "marked" "marked" (topFn 75)
noncomputable def x530 (P : Params) : Obj := tmpl "base_digits" "base_digits" (topFn 76)
noncomputable def x537 (P : Params) : Obj := tmpl "whole_item" "whole_item" (topFn 77)
noncomputable def x544 (P : Params) : Obj := tmpl "whole_form" "whole_form" (topFn 78)
noncomputable def x551 (P : Params) : Obj := tmpl "without_zeros" "without_zeros" (topFn 79)
noncomputable def x558 (P : Params) : Obj := tmpl "general_text" "general_text" (topFn 80)
noncomputable def x565 (P : Params) : Obj := tmpl "number_form" "number_form" (topFn 81)
noncomputable def x572 (P : Params) : Obj := tmpl "text_form" "text_form" (topFn 82)
noncomputable def x579 (P : Params) : Obj := tmpl "one_form" "one_form" (topFn 83)
noncomputable def x586 (P : Params) : Obj := tmpl "sprintf_one" "sprintf_one" (topFn 84)
noncomputable def x593 (P : Params) : Obj := tmpl "sprintf_vectors" "sprintf_vectors" (topFn 85)
noncomputable def x600 (P : Params) : Obj := tmpl "_law_bare" "_law_bare" (topFn 87)
noncomputable def x607 (P : Params) : Obj := tmpl "_law_drawn" "_law_drawn" (topFn 88)
noncomputable def x614 (P : Params) : Obj := tmpl "_law_blanks" "_law_blanks" (topFn 89)
noncomputable def x621 (P : Params) : Obj := tmpl "_law_wide" "_law_wide" (topFn 90)
noncomputable def x628 (P : Params) : Obj := tmpl "_law_number_shown" "_law_number_shown" (topFn 91)
noncomputable def x635 (P : Params) : Obj := tmpl "_law_asked" "_law_asked" (topFn 92)
noncomputable def x642 (P : Params) : Obj := tmpl "law" "law" (topFn 93)
noncomputable def tF (F : Frag) (P : Params) : BT := (.node (boot_o_0 P) (.node (boot_o_1 P) (.node (kobj F 3) (.node (boot_o_7 P) (.node (kobj F 15) (.node (x31 P) (.node (x63 P) (.node (x127 P) (.node (kobj F 255) (.node (kobj F 511) .nil .nil) .nil) (.node bare (.node bare .nil .nil) .nil)) (.node (kobj F 191) (.node (kobj F 319) (.node (kobj F 575) .nil .nil) .nil) (.node (x447 P) .nil .nil))) (.node (kobj F 95) (.node bare (.node (kobj F 287) (.node (kobj F 543) .nil .nil) .nil) (.node (kobj F 415) .nil .nil)) (.node (kobj F 223) (.node (x351 P) (.node (x607 P) .nil .nil) .nil) (.node (kobj F 479) .nil .nil)))) (.node (x47 P) (.node (kobj F 79) (.node (kobj F 143) (.node (x271 P) (.node bare .nil .nil) .nil) (.node (kobj F 399) .nil .nil)) (.node (kobj F 207) (.node (kobj F 335) (.node (kobj F 591) .nil .nil) .nil) (.node (x463 P) .nil .nil))) (.node (kobj F 111) (.node (kobj F 175) (.node (kobj F 303) (.node (kobj F 559) .nil .nil) .nil) (.node (x431 P) .nil .nil)) (.node (kobj F 239) (.node (kobj F 367) (.node (kobj F 623) .nil .nil) .nil) (.node (x495 P) .nil .nil))))) (.node bare (.node (kobj F 39) (.node (kobj F 71) (.node (kobj F 135) (.node bare (.node (kobj F 519) .nil .nil) .nil) (.node (kobj F 391) .nil .nil)) (.node (kobj F 199) (.node bare (.node bare .nil .nil) .nil) (.node (kobj F 455) .nil .nil))) (.node bare (.node (kobj F 167) (.node (kobj F 295) (.node (x551 P) .nil .nil) .nil) (.node bare .nil .nil)) (.node (x231 P) (.node (kobj F 359) (.node (kobj F 615) .nil .nil) .nil) (.node (x487 P) .nil .nil)))) (.node (kobj F 55) (.node (kobj F 87) (.node (kobj F 151) (.node (kobj F 279) (.node (kobj F 535) .nil .nil) .nil) (.node (x407 P) .nil .nil)) (.node bare (.node (kobj F 343) (.node (kobj F 599) .nil .nil) .nil) (.node (kobj F 471) .nil .nil))) (.node (kobj F 119) (.node (x183 P) (.node (kobj F 311) (.node (kobj F 567) .nil .nil) .nil) (.node (kobj F 439) .nil .nil)) (.node (kobj F 247) (.node (kobj F 375) (.node (kobj F 631) .nil .nil) .nil) (.node (kobj F 503) .nil .nil)))))) (.node (x11 P) (.node (x19 P) (.node bare (.node bare (.node bare (.node (x259 P) (.node (kobj F 515) .nil .nil) .nil) (.node (kobj F 387) (.node (kobj F 643) .nil .nil) .nil)) (.node (kobj F 195) (.node (x323 P) (.node (x579 P) .nil .nil) .nil) (.node (kobj F 451) .nil .nil))) (.node (x99 P) (.node (kobj F 163) (.node (kobj F 291) (.node (kobj F 547) .nil .nil) .nil) (.node (x419 P) .nil .nil)) (.node (kobj F 227) (.node bare (.node bare .nil .nil) .nil) (.node (kobj F 483) .nil .nil)))) (.node (x51 P) (.node (kobj F 83) (.node (kobj F 147) (.node (x275 P) (.node (kobj F 531) .nil .nil) .nil) (.node (kobj F 403) .nil .nil)) (.node (x211 P) (.node (kobj F 339) (.node (kobj F 595) .nil .nil) .nil) (.node (x467 P) .nil .nil))) (.node (kobj F 115) (.node (kobj F 179) (.node (kobj F 307) (.node (kobj F 563) .nil .nil) .nil) (.node bare .nil .nil)) (.node (kobj F 243) (.node (kobj F 371) (.node (kobj F 627) .nil .nil) .nil) (.node (kobj F 499) .nil .nil))))) (.node (kobj F 27) (.node (x43 P) (.node (kobj F 75) (.node (kobj F 139) (.node (kobj F 267) (.node (x523 P) .nil .nil) .nil) (.node (kobj F 395) .nil .nil)) (.node (kobj F 203) (.node (kobj F 331) (.node (kobj F 587) .nil .nil) .nil) (.node (x459 P) .nil .nil))) (.node (kobj F 107) (.node (kobj F 171) (.node bare (.node bare .nil .nil) .nil) (.node (x427 P) .nil .nil)) (.node bare (.node (kobj F 363) (.node (kobj F 619) .nil .nil) .nil) (.node (kobj F 491) .nil .nil)))) (.node (kobj F 59) (.node (kobj F 91) (.node (x155 P) (.node (kobj F 283) (.node (kobj F 539) .nil .nil) .nil) (.node bare .nil .nil)) (.node (kobj F 219) (.node (kobj F 347) (.node (kobj F 603) .nil .nil) .nil) (.node (kobj F 475) .nil .nil))) (.node (kobj F 123) (.node bare (.node (kobj F 315) (.node (kobj F 571) .nil .nil) .nil) (.node (kobj F 443) .nil .nil)) (.node (kobj F 251) (.node (x379 P) (.node (x635 P) .nil .nil) .nil) (.node (kobj F 507) .nil .nil))))))) (.node (boot_o_5 P) (.node (boot_o_9 P) (.node (kobj F 17) (.node (kobj F 33) (.node (x65 P) (.node (kobj F 129) (.node (kobj F 257) (.node bare .nil .nil) .nil) (.node (kobj F 385) (.node (kobj F 641) .nil .nil) .nil)) (.node (kobj F 193) (.node (kobj F 321) (.node (kobj F 577) .nil .nil) .nil) (.node bare .nil .nil))) (.node (kobj F 97) (.node (kobj F 161) (.node (kobj F 289) (.node (kobj F 545) .nil .nil) .nil) (.node (kobj F 417) .nil .nil)) (.node (kobj F 225) (.node (kobj F 353) (.node (kobj F 609) .nil .nil) .nil) (.node (kobj F 481) .nil .nil)))) (.node (x49 P) (.node (kobj F 81) (.node bare (.node (x273 P) (.node (kobj F 529) .nil .nil) .nil) (.node (kobj F 401) .nil .nil)) (.node (kobj F 209) (.node (x337 P) (.node (x593 P) .nil .nil) .nil) (.node (x465 P) .nil .nil))) (.node (x113 P) (.node (kobj F 177) (.node (kobj F 305) (.node (kobj F 561) .nil .nil) .nil) (.node (x433 P) .nil .nil)) (.node (kobj F 241) (.node bare (.node bare .nil .nil) .nil) (.node (kobj F 497) .nil .nil))))) (.node (kobj F 25) (.node (kobj F 41) (.node (kobj F 73) (.node (kobj F 137) (.node (kobj F 265) (.node (kobj F 521) .nil .nil) .nil) (.node (x393 P) .nil .nil)) (.node bare (.node (kobj F 329) (.node (kobj F 585) .nil .nil) .nil) (.node (kobj F 457) .nil .nil))) (.node (kobj F 105) (.node (x169 P) (.node (x297 P) (.node (kobj F 553) .nil .nil) .nil) (.node (kobj F 425) .nil .nil)) (.node (kobj F 233) (.node (kobj F 361) (.node (kobj F 617) .nil .nil) .nil) (.node (kobj F 489) .nil .nil)))) (.node (x57 P) (.node bare (.node (kobj F 153) (.node (x281 P) (.node (x537 P) .nil .nil) .nil) (.node (kobj F 409) .nil .nil)) (.node (kobj F 217) (.node (kobj F 345) (.node (kobj F 601) .nil .nil) .nil) (.node (x473 P) .nil .nil))) (.node (kobj F 121) (.node (kobj F 185) (.node bare (.node bare .nil .nil) .nil) (.node (kobj F 441) .nil .nil)) (.node bare (.node (kobj F 377) (.node (kobj F 633) .nil .nil) .nil) (.node bare .nil .nil)))))) (.node (x13 P) (.node (kobj F 21) (.node (kobj F 37) (.node (kobj F 69) (.node (kobj F 133) (.node (kobj F 261) (.node (kobj F 517) .nil .nil) .nil) (.node (kobj F 389) .nil .nil)) (.node (x197 P) (.node (kobj F 325) (.node (kobj F 581) .nil .nil) .nil) (.node (kobj F 453) .nil .nil))) (.node (kobj F 101) (.node (kobj F 165) (.node (kobj F 293) (.node (kobj F 549) .nil .nil) .nil) (.node (kobj F 421) .nil .nil)) (.node (kobj F 229) (.node (kobj F 357) (.node (kobj F 613) .nil .nil) .nil) (.node (kobj F 485) .nil .nil)))) (.node (kobj F 53) (.node (x85 P) (.node (kobj F 149) (.node (kobj F 277) (.node (kobj F 533) .nil .nil) .nil) (.node (kobj F 405) .nil .nil)) (.node (kobj F 213) (.node bare (.node bare .nil .nil) .nil) (.node (kobj F 469) .nil .nil))) (.node bare (.node (kobj F 181) (.node (x309 P) (.node (x565 P) .nil .nil) .nil) (.node (kobj F 437) .nil .nil)) (.node (x245 P) (.node (kobj F 373) (.node (kobj F 629) .nil .nil) .nil) (.node (x501 P) .nil .nil))))) (.node (kobj F 29) (.node (kobj F 45) (.node (x77 P) (.node (x141 P) (.node (x269 P) (.node (kobj F 525) .nil .nil) .nil) (.node bare .nil .nil)) (.node (kobj F 205) (.node (kobj F 333) (.node (kobj F 589) .nil .nil) .nil) (.node (kobj F 461) .nil .nil))) (.node (kobj F 109) (.node bare (.node (kobj F 301) (.node (kobj F 557) .nil .nil) .nil) (.node (x429 P) .nil .nil)) (.node (kobj F 237) (.node (x365 P) (.node (x621 P) .nil .nil) .nil) (.node (kobj F 493) .nil .nil)))) (.node (x61 P) (.node (kobj F 93) (.node (kobj F 157) (.node bare (.node bare .nil .nil) .nil) (.node (kobj F 413) .nil .nil)) (.node bare (.node (kobj F 349) (.node (kobj F 605) .nil .nil) .nil) (.node bare .nil .nil))) (.node (kobj F 125) (.node (kobj F 189) (.node (kobj F 317) (.node (kobj F 573) .nil .nil) .nil) (.node (kobj F 445) .nil .nil)) (.node (kobj F 253) (.node (kobj F 381) (.node (kobj F 637) .nil .nil) .nil) (.node (kobj F 509) .nil .nil)))))))) (.node (kobj F 2) (.node (boot_o_4 P) (.node (boot_o_8 P) (.node bare (.node (kobj F 32) (.node (x64 P) (.node (kobj F 128) (.node bare (.node (kobj F 512) .nil .nil) .nil) (.node (kobj F 384) (.node (kobj F 640) .nil .nil) .nil)) (.node (kobj F 192) (.node bare (.node bare .nil .nil) .nil) (.node (kobj F 448) .nil .nil))) (.node bare (.node (kobj F 160) (.node (x288 P) (.node (x544 P) .nil .nil) .nil) (.node bare .nil .nil)) (.node (x224 P) (.node (kobj F 352) (.node (kobj F 608) .nil .nil) .nil) (.node (x480 P) .nil .nil)))) (.node (x48 P) (.node (kobj F 80) (.node (kobj F 144) (.node (x272 P) (.node (kobj F 528) .nil .nil) .nil) (.node (x400 P) .nil .nil)) (.node bare (.node (kobj F 336) (.node (kobj F 592) .nil .nil) .nil) (.node (x464 P) .nil .nil))) (.node (kobj F 112) (.node (x176 P) (.node (kobj F 304) (.node (kobj F 560) .nil .nil) .nil) (.node (x432 P) .nil .nil)) (.node (kobj F 240) (.node (kobj F 368) (.node (kobj F 624) .nil .nil) .nil) (.node (x496 P) .nil .nil))))) (.node (kobj F 24) (.node (kobj F 40) (.node (kobj F 72) (.node (kobj F 136) (.node (kobj F 264) (.node bare .nil .nil) .nil) (.node (kobj F 392) .nil .nil)) (.node (kobj F 200) (.node (kobj F 328) (.node (kobj F 584) .nil .nil) .nil) (.node bare .nil .nil))) (.node (kobj F 104) (.node (kobj F 168) (.node (x296 P) (.node (kobj F 552) .nil .nil) .nil) (.node (x424 P) .nil .nil)) (.node (kobj F 232) (.node (kobj F 360) (.node (kobj F 616) .nil .nil) .nil) (.node (kobj F 488) .nil .nil)))) (.node (kobj F 56) (.node (kobj F 88) (.node bare (.node (kobj F 280) (.node (kobj F 536) .nil .nil) .nil) (.node (kobj F 408) .nil .nil)) (.node (x216 P) (.node (x344 P) (.node (x600 P) .nil .nil) .nil) (.node (kobj F 472) .nil .nil))) (.node (x120 P) (.node (kobj F 184) (.node (kobj F 312) (.node (kobj F 568) .nil .nil) .nil) (.node (kobj F 440) .nil .nil)) (.node (kobj F 248) (.node bare (.node bare .nil .nil) .nil) (.node (kobj F 504) .nil .nil)))))) (.node (x12 P) (.node (kobj F 20) (.node (kobj F 36) (.node (kobj F 68) (.node (kobj F 132) (.node (kobj F 260) (.node (x516 P) .nil .nil) .nil) (.node (kobj F 388) (.node (kobj F 644) .nil .nil) .nil)) (.node (kobj F 196) (.node (kobj F 324) (.node (kobj F 580) .nil .nil) .nil) (.node (x452 P) .nil .nil))) (.node (kobj F 100) (.node (kobj F 164) (.node (kobj F 292) (.node bare .nil .nil) .nil) (.node (kobj F 420) .nil .nil)) (.node bare (.node (kobj F 356) (.node (kobj F 612) .nil .nil) .nil) (.node bare .nil .nil)))) (.node (x52 P) (.node (kobj F 84) (.node (x148 P) (.node (kobj F 276) (.node (kobj F 532) .nil .nil) .nil) (.node bare .nil .nil)) (.node (kobj F 212) (.node (kobj F 340) (.node (kobj F 596) .nil .nil) .nil) (.node (x468 P) .nil .nil))) (.node (kobj F 116) (.node bare (.node (kobj F 308) (.node (kobj F 564) .nil .nil) .nil) (.node (kobj F 436) .nil .nil)) (.node (kobj F 244) (.node (x372 P) (.node (x628 P) .nil .nil) .nil) (.node (kobj F 500) .nil .nil))))) (.node (kobj F 28) (.node (kobj F 44) (.node (x76 P) (.node (kobj F 140) (.node (kobj F 268) (.node (kobj F 524) .nil .nil) .nil) (.node (kobj F 396) .nil .nil)) (.node (x204 P) (.node (kobj F 332) (.node (kobj F 588) .nil .nil) .nil) (.node (kobj F 460) .nil .nil))) (.node (kobj F 108) (.node (kobj F 172) (.node (kobj F 300) (.node (kobj F 556) .nil .nil) .nil) (.node (x428 P) .nil .nil)) (.node (kobj F 236) (.node (kobj F 364) (.node (kobj F 620) .nil .nil) .nil) (.node (kobj F 492) .nil .nil)))) (.node (x60 P) (.node (x92 P) (.node (kobj F 156) (.node (kobj F 284) (.node (kobj F 540) .nil .nil) .nil) (.node (x412 P) .nil .nil)) (.node (kobj F 220) (.node bare (.node bare .nil .nil) .nil) (.node (kobj F 476) .nil .nil))) (.node bare (.node (kobj F 188) (.node (x316 P) (.node (x572 P) .nil .nil) .nil) (.node (kobj F 444) .nil .nil)) (.node (x252 P) (.node (kobj F 380) (.node (kobj F 636) .nil .nil) .nil) (.node (x508 P) .nil .nil))))))) (.node (boot_o_6 P) (.node (boot_o_10 P) (.node (kobj F 18) (.node (kobj F 34) (.node (kobj F 66) (.node (kobj F 130) (.node (kobj F 258) (.node (kobj F 514) .nil .nil) .nil) (.node (x386 P) (.node (x642 P) .nil .nil) .nil)) (.node bare (.node (kobj F 322) (.node (kobj F 578) .nil .nil) .nil) (.node (kobj F 450) .nil .nil))) (.node (kobj F 98) (.node (x162 P) (.node (kobj F 290) (.node (kobj F 546) .nil .nil) .nil) (.node (kobj F 418) .nil .nil)) (.node (kobj F 226) (.node (kobj F 354) (.node (kobj F 610) .nil .nil) .nil) (.node (kobj F 482) .nil .nil)))) (.node bare (.node bare (.node (kobj F 146) (.node (x274 P) (.node (x530 P) .nil .nil) .nil) (.node (kobj F 402) .nil .nil)) (.node (kobj F 210) (.node (kobj F 338) (.node (kobj F 594) .nil .nil) .nil) (.node (x466 P) .nil .nil))) (.node (kobj F 114) (.node (kobj F 178) (.node bare (.node bare .nil .nil) .nil) (.node (kobj F 434) .nil .nil)) (.node bare (.node (kobj F 370) (.node (kobj F 626) .nil .nil) .nil) (.node bare .nil .nil))))) (.node (x26 P) (.node bare (.node (kobj F 74) (.node bare (.node (x266 P) (.node (kobj F 522) .nil .nil) .nil) (.node (kobj F 394) .nil .nil)) (.node (kobj F 202) (.node (x330 P) (.node (x586 P) .nil .nil) .nil) (.node (kobj F 458) .nil .nil))) (.node (x106 P) (.node (kobj F 170) (.node (kobj F 298) (.node (kobj F 554) .nil .nil) .nil) (.node (kobj F 426) .nil .nil)) (.node (kobj F 234) (.node bare (.node bare .nil .nil) .nil) (.node (kobj F 490) .nil .nil)))) (.node (x58 P) (.node (kobj F 90) (.node (kobj F 154) (.node (kobj F 282) (.node (kobj F 538) .nil .nil) .nil) (.node (kobj F 410) .nil .nil)) (.node (kobj F 218) (.node (kobj F 346) (.node (kobj F 602) .nil .nil) .nil) (.node (kobj F 474) .nil .nil))) (.node (kobj F 122) (.node (kobj F 186) (.node (kobj F 314) (.node (kobj F 570) .nil .nil) .nil) (.node (kobj F 442) .nil .nil)) (.node (kobj F 250) (.node (kobj F 378) (.node (kobj F 634) .nil .nil) .nil) (.node (kobj F 506) .nil .nil)))))) (.node (x14 P) (.node (kobj F 22) (.node (x38 P) (.node (x70 P) (.node (x134 P) (.node (kobj F 262) (.node (kobj F 518) .nil .nil) .nil) (.node bare .nil .nil)) (.node (kobj F 198) (.node (kobj F 326) (.node (kobj F 582) .nil .nil) .nil) (.node (kobj F 454) .nil .nil))) (.node (kobj F 102) (.node bare (.node (kobj F 294) (.node (kobj F 550) .nil .nil) .nil) (.node (kobj F 422) .nil .nil)) (.node (kobj F 230) (.node (x358 P) (.node (x614 P) .nil .nil) .nil) (.node (kobj F 486) .nil .nil)))) (.node (kobj F 54) (.node (kobj F 86) (.node (kobj F 150) (.node bare (.node bare .nil .nil) .nil) (.node (kobj F 406) .nil .nil)) (.node (kobj F 214) (.node (kobj F 342) (.node (kobj F 598) .nil .nil) .nil) (.node bare .nil .nil))) (.node (kobj F 118) (.node (kobj F 182) (.node (kobj F 310) (.node (kobj F 566) .nil .nil) .nil) (.node (x438 P) .nil .nil)) (.node (kobj F 246) (.node (kobj F 374) (.node (kobj F 630) .nil .nil) .nil) (.node (kobj F 502) .nil .nil))))) (.node bare (.node (kobj F 46) (.node (kobj F 78) (.node (kobj F 142) (.node (x270 P) (.node (kobj F 526) .nil .nil) .nil) (.node (kobj F 398) .nil .nil)) (.node (kobj F 206) (.node bare (.node bare .nil .nil) .nil) (.node (x462 P) .nil .nil))) (.node bare (.node (kobj F 174) (.node (x302 P) (.node (x558 P) .nil .nil) .nil) (.node (x430 P) .nil .nil)) (.node (x238 P) (.node (kobj F 366) (.node (kobj F 622) .nil .nil) .nil) (.node (kobj F 494) .nil .nil)))) (.node (x62 P) (.node (kobj F 94) (.node (kobj F 158) (.node (kobj F 286) (.node (kobj F 542) .nil .nil) .nil) (.node (kobj F 414) .nil .nil)) (.node (kobj F 222) (.node (kobj F 350) (.node (kobj F 606) .nil .nil) .nil) (.node (kobj F 478) .nil .nil))) (.node (kobj F 126) (.node (x190 P) (.node (kobj F 318) (.node (kobj F 574) .nil .nil) .nil) (.node (x446 P) .nil .nil)) (.node (kobj F 254) (.node (kobj F 382) (.node (kobj F 638) .nil .nil) .nil) (.node (kobj F 510) .nil .nil)))))))))
noncomputable def hF (F : Frag) (P : Params) : Heap := ⟨#[(boot_o_0 P), (boot_o_1 P), (kobj F 2), (kobj F 3), (boot_o_4 P), (boot_o_5 P), (boot_o_6 P), (boot_o_7 P), (boot_o_8 P), (boot_o_9 P), (boot_o_10 P), (x11 P), (x12 P), (x13 P), (x14 P), (kobj F 15), bare, (kobj F 17), (kobj F 18), (x19 P), (kobj F 20), (kobj F 21), (kobj F 22), bare, (kobj F 24), (kobj F 25), (x26 P), (kobj F 27), (kobj F 28), (kobj F 29), bare, (x31 P), (kobj F 32), (kobj F 33), (kobj F 34), bare, (kobj F 36), (kobj F 37), (x38 P), (kobj F 39), (kobj F 40), (kobj F 41), bare, (x43 P), (kobj F 44), (kobj F 45), (kobj F 46), (x47 P), (x48 P), (x49 P), bare, (x51 P), (x52 P), (kobj F 53), (kobj F 54), (kobj F 55), (kobj F 56), (x57 P), (x58 P), (kobj F 59), (x60 P), (x61 P), (x62 P), (x63 P), (x64 P), (x65 P), (kobj F 66), bare, (kobj F 68), (kobj F 69), (x70 P), (kobj F 71), (kobj F 72), (kobj F 73), (kobj F 74), (kobj F 75), (x76 P), (x77 P), (kobj F 78), (kobj F 79), (kobj F 80), (kobj F 81), bare, (kobj F 83), (kobj F 84), (x85 P), (kobj F 86), (kobj F 87), (kobj F 88), bare, (kobj F 90), (kobj F 91), (x92 P), (kobj F 93), (kobj F 94), (kobj F 95), bare, (kobj F 97), (kobj F 98), (x99 P), (kobj F 100), (kobj F 101), (kobj F 102), bare, (kobj F 104), (kobj F 105), (x106 P), (kobj F 107), (kobj F 108), (kobj F 109), bare, (kobj F 111), (kobj F 112), (x113 P), (kobj F 114), (kobj F 115), (kobj F 116), bare, (kobj F 118), (kobj F 119), (x120 P), (kobj F 121), (kobj F 122), (kobj F 123), bare, (kobj F 125), (kobj F 126), (x127 P), (kobj F 128), (kobj F 129), (kobj F 130), bare, (kobj F 132), (kobj F 133), (x134 P), (kobj F 135), (kobj F 136), (kobj F 137), bare, (kobj F 139), (kobj F 140), (x141 P), (kobj F 142), (kobj F 143), (kobj F 144), bare, (kobj F 146), (kobj F 147), (x148 P), (kobj F 149), (kobj F 150), (kobj F 151), bare, (kobj F 153), (kobj F 154), (x155 P), (kobj F 156), (kobj F 157), (kobj F 158), bare, (kobj F 160), (kobj F 161), (x162 P), (kobj F 163), (kobj F 164), (kobj F 165), bare, (kobj F 167), (kobj F 168), (x169 P), (kobj F 170), (kobj F 171), (kobj F 172), bare, (kobj F 174), (kobj F 175), (x176 P), (kobj F 177), (kobj F 178), (kobj F 179), bare, (kobj F 181), (kobj F 182), (x183 P), (kobj F 184), (kobj F 185), (kobj F 186), bare, (kobj F 188), (kobj F 189), (x190 P), (kobj F 191), (kobj F 192), (kobj F 193), bare, (kobj F 195), (kobj F 196), (x197 P), (kobj F 198), (kobj F 199), (kobj F 200), bare, (kobj F 202), (kobj F 203), (x204 P), (kobj F 205), (kobj F 206), (kobj F 207), bare, (kobj F 209), (kobj F 210), (x211 P), (kobj F 212), (kobj F 213), (kobj F 214), bare, (x216 P), (kobj F 217), (kobj F 218), (kobj F 219), (kobj F 220), bare, (kobj F 222), (kobj F 223), (x224 P), (kobj F 225), (kobj F 226), (kobj F 227), bare, (kobj F 229), (kobj F 230), (x231 P), (kobj F 232), (kobj F 233), (kobj F 234), bare, (kobj F 236), (kobj F 237), (x238 P), (kobj F 239), (kobj F 240), (kobj F 241), bare, (kobj F 243), (kobj F 244), (x245 P), (kobj F 246), (kobj F 247), (kobj F 248), bare, (kobj F 250), (kobj F 251), (x252 P), (kobj F 253), (kobj F 254), (kobj F 255), bare, (kobj F 257), (kobj F 258), (x259 P), (kobj F 260), (kobj F 261), (kobj F 262), bare, (kobj F 264), (kobj F 265), (x266 P), (kobj F 267), (kobj F 268), (x269 P), (x270 P), (x271 P), (x272 P), (x273 P), (x274 P), (x275 P), (kobj F 276), (kobj F 277), bare, (kobj F 279), (kobj F 280), (x281 P), (kobj F 282), (kobj F 283), (kobj F 284), bare, (kobj F 286), (kobj F 287), (x288 P), (kobj F 289), (kobj F 290), (kobj F 291), (kobj F 292), (kobj F 293), (kobj F 294), (kobj F 295), (x296 P), (x297 P), (kobj F 298), bare, (kobj F 300), (kobj F 301), (x302 P), (kobj F 303), (kobj F 304), (kobj F 305), bare, (kobj F 307), (kobj F 308), (x309 P), (kobj F 310), (kobj F 311), (kobj F 312), bare, (kobj F 314), (kobj F 315), (x316 P), (kobj F 317), (kobj F 318), (kobj F 319), bare, (kobj F 321), (kobj F 322), (x323 P), (kobj F 324), (kobj F 325), (kobj F 326), bare, (kobj F 328), (kobj F 329), (x330 P), (kobj F 331), (kobj F 332), (kobj F 333), bare, (kobj F 335), (kobj F 336), (x337 P), (kobj F 338), (kobj F 339), (kobj F 340), bare, (kobj F 342), (kobj F 343), (x344 P), (kobj F 345), (kobj F 346), (kobj F 347), bare, (kobj F 349), (kobj F 350), (x351 P), (kobj F 352), (kobj F 353), (kobj F 354), bare, (kobj F 356), (kobj F 357), (x358 P), (kobj F 359), (kobj F 360), (kobj F 361), bare, (kobj F 363), (kobj F 364), (x365 P), (kobj F 366), (kobj F 367), (kobj F 368), bare, (kobj F 370), (kobj F 371), (x372 P), (kobj F 373), (kobj F 374), (kobj F 375), bare, (kobj F 377), (kobj F 378), (x379 P), (kobj F 380), (kobj F 381), (kobj F 382), bare, (kobj F 384), (kobj F 385), (x386 P), (kobj F 387), (kobj F 388), (kobj F 389), bare, (kobj F 391), (kobj F 392), (x393 P), (kobj F 394), (kobj F 395), (kobj F 396), bare, (kobj F 398), (kobj F 399), (x400 P), (kobj F 401), (kobj F 402), (kobj F 403), bare, (kobj F 405), (kobj F 406), (x407 P), (kobj F 408), (kobj F 409), (kobj F 410), bare, (x412 P), (kobj F 413), (kobj F 414), (kobj F 415), bare, (kobj F 417), (kobj F 418), (x419 P), (kobj F 420), (kobj F 421), (kobj F 422), bare, (x424 P), (kobj F 425), (kobj F 426), (x427 P), (x428 P), (x429 P), (x430 P), (x431 P), (x432 P), (x433 P), (kobj F 434), bare, (kobj F 436), (kobj F 437), (x438 P), (kobj F 439), (kobj F 440), (kobj F 441), (kobj F 442), (kobj F 443), (kobj F 444), (kobj F 445), (x446 P), (x447 P), (kobj F 448), bare, (kobj F 450), (kobj F 451), (x452 P), (kobj F 453), (kobj F 454), (kobj F 455), bare, (kobj F 457), (kobj F 458), (x459 P), (kobj F 460), (kobj F 461), (x462 P), (x463 P), (x464 P), (x465 P), (x466 P), (x467 P), (x468 P), (kobj F 469), bare, (kobj F 471), (kobj F 472), (x473 P), (kobj F 474), (kobj F 475), (kobj F 476), bare, (kobj F 478), (kobj F 479), (x480 P), (kobj F 481), (kobj F 482), (kobj F 483), bare, (kobj F 485), (kobj F 486), (x487 P), (kobj F 488), (kobj F 489), (kobj F 490), (kobj F 491), (kobj F 492), (kobj F 493), (kobj F 494), (x495 P), (x496 P), (kobj F 497), bare, (kobj F 499), (kobj F 500), (x501 P), (kobj F 502), (kobj F 503), (kobj F 504), bare, (kobj F 506), (kobj F 507), (x508 P), (kobj F 509), (kobj F 510), (kobj F 511), (kobj F 512), bare, (kobj F 514), (kobj F 515), (x516 P), (kobj F 517), (kobj F 518), (kobj F 519), bare, (kobj F 521), (kobj F 522), (x523 P), (kobj F 524), (kobj F 525), (kobj F 526), bare, (kobj F 528), (kobj F 529), (x530 P), (kobj F 531), (kobj F 532), (kobj F 533), bare, (kobj F 535), (kobj F 536), (x537 P), (kobj F 538), (kobj F 539), (kobj F 540), bare, (kobj F 542), (kobj F 543), (x544 P), (kobj F 545), (kobj F 546), (kobj F 547), bare, (kobj F 549), (kobj F 550), (x551 P), (kobj F 552), (kobj F 553), (kobj F 554), bare, (kobj F 556), (kobj F 557), (x558 P), (kobj F 559), (kobj F 560), (kobj F 561), bare, (kobj F 563), (kobj F 564), (x565 P), (kobj F 566), (kobj F 567), (kobj F 568), bare, (kobj F 570), (kobj F 571), (x572 P), (kobj F 573), (kobj F 574), (kobj F 575), bare, (kobj F 577), (kobj F 578), (x579 P), (kobj F 580), (kobj F 581), (kobj F 582), bare, (kobj F 584), (kobj F 585), (x586 P), (kobj F 587), (kobj F 588), (kobj F 589), bare, (kobj F 591), (kobj F 592), (x593 P), (kobj F 594), (kobj F 595), (kobj F 596), bare, (kobj F 598), (kobj F 599), (x600 P), (kobj F 601), (kobj F 602), (kobj F 603), bare, (kobj F 605), (kobj F 606), (x607 P), (kobj F 608), (kobj F 609), (kobj F 610), bare, (kobj F 612), (kobj F 613), (x614 P), (kobj F 615), (kobj F 616), (kobj F 617), bare, (kobj F 619), (kobj F 620), (x621 P), (kobj F 622), (kobj F 623), (kobj F 624), bare, (kobj F 626), (kobj F 627), (x628 P), (kobj F 629), (kobj F 630), (kobj F 631), bare, (kobj F 633), (kobj F 634), (x635 P), (kobj F 636), (kobj F 637), (kobj F 638), bare, (kobj F 640), (kobj F 641), (x642 P), (kobj F 643), (kobj F 644)], {}⟩

noncomputable def sF (F : Frag) (w : World) (os : OsState) : SharedT := { tree := tF F w.params, n := 645, life := {}, gens := #[], drawn := {}, toks := 1094, os }
noncomputable def shF (F : Frag) (w : World) (os : OsState) : Shared := { heap := hF F w.params, gens := #[], drawn := {}, toks := 1094, os }
theorem fin_of {p : Program} {w : World} {m₀ : Nat} {ann : Option Value} {s' : SharedT} {r : Shared} {c : Code} {q pos : Pos} (e : s'.abs = r) : topRun treeTable p w m₀ ann 2 s'.abs ⟨doneF .next, c, pos, [topFrame q]⟩ = some r := by
  subst e
  rfl


noncomputable def y1x3 (P : Params) : Obj := { cls := Value.type "dict", data := Data.dict #[{ hash := PyData.keyHash P (Str.ofString "__name__"), key := Value.str (Str.ofString "__name__") 165, val := Value.str (Str.ofString "vectorcove.rational") 271 }, { hash := PyData.keyHash P (Str.ofString "__doc__"), key := Value.str (Str.ofString "__doc__") 166, val := Value.none }, { hash := PyData.keyHash P (Str.ofString "__package__"), key := Value.str (Str.ofString "__package__") 167, val := Value.none }, { hash := PyData.keyHash P (Str.ofString "__loader__"), key := Value.str (Str.ofString "__loader__") 168, val := Value.builtin "__main__.__loader__#opaque" }, { hash := PyData.keyHash P (Str.ofString "__spec__"), key := Value.str (Str.ofString "__spec__") 169, val := Value.none }, { hash := PyData.keyHash P (Str.ofString "__annotations__"), key := Value.str (Str.ofString "__annotations__") 170, val := Value.ref 6 }, { hash := PyData.keyHash P (Str.ofString "__builtins__"), key := Value.str (Str.ofString "__builtins__") 171, val := Value.ref 4 }, { hash := PyData.keyHash P (Str.ofString "__file__"), key := Value.str (Str.ofString "__file__") 173, val := Value.str (Str.ofString "/claim/cut.py") 172 }, { hash := PyData.keyHash P (Str.ofString "__cached__"), key := Value.str (Str.ofString "__cached__") 174, val := Value.none }, { hash := PyData.keyHash P (Str.ofString "_wall"), key := Value.str (Str.ofString "_wall") 193, val := Value.ref 21 }, { hash := PyData.keyHash P (Str.ofString "get_attr"), key := Value.str (Str.ofString "get_attr") 203, val := Value.ref 28 }, { hash := PyData.keyHash P (Str.ofString "names_of"), key := Value.str (Str.ofString "names_of") 209, val := Value.ref 33 }, { hash := PyData.keyHash P (Str.ofString "dim_of"), key := Value.str (Str.ofString "dim_of") 217, val := Value.ref 40 }, { hash := PyData.keyHash P (Str.ofString "dimnames_of"), key := Value.str (Str.ofString "dimnames_of") 223, val := Value.ref 45 }, { hash := PyData.keyHash P (Str.ofString "CoveError"), key := Value.str (Str.ofString "CoveError") 245, val := Value.ref 55 }, { hash := PyData.keyHash P (Str.ofString "Refusal"), key := Value.str (Str.ofString "Refusal") 270, val := Value.ref 75 }] 16 }
noncomputable def y1x12 (P : Params) : Obj := { cls := Value.none, data := Data.fields #[Value.int 1 0, Value.int 0 0, Value.ref 20, Value.int 5 0, Value.int 0 0, Value.ref 27, Value.int 9 0, Value.int 0 0, Value.ref 32, Value.int 25 0, Value.int 0 0, Value.ref 39, Value.int 30 0, Value.int 0 0, Value.ref 44, Value.int 36 0, Value.int 0 0, Value.ref 51, Value.int 38 0, Value.int 0 0, Value.ref 64] }
noncomputable def tM1 (F : Frag) (P : Params) : BT := (.node (boot_o_0 P) (.node (boot_o_1 P) (.node (y1x3 P) (.node (boot_o_7 P) (.node (kobj F 15) (.node (x31 P) (.node (x63 P) .nil .nil) .nil) (.node (x47 P) .nil .nil)) (.node bare (.node (kobj F 39) (.node (kobj F 71) .nil .nil) .nil) (.node (kobj F 55) .nil .nil))) (.node (x11 P) (.node (x19 P) (.node bare (.node bare .nil .nil) .nil) (.node (x51 P) .nil .nil)) (.node (kobj F 27) (.node (x43 P) (.node (kobj F 75) .nil .nil) .nil) (.node (kobj F 59) .nil .nil)))) (.node (boot_o_5 P) (.node (boot_o_9 P) (.node (kobj F 17) (.node (kobj F 33) (.node (x65 P) .nil .nil) .nil) (.node (x49 P) .nil .nil)) (.node (kobj F 25) (.node (kobj F 41) (.node (kobj F 73) .nil .nil) .nil) (.node (x57 P) .nil .nil))) (.node (x13 P) (.node (kobj F 21) (.node (kobj F 37) (.node (kobj F 69) .nil .nil) .nil) (.node (kobj F 53) .nil .nil)) (.node (kobj F 29) (.node (kobj F 45) (.node (x77 P) .nil .nil) .nil) (.node (x61 P) .nil .nil))))) (.node (kobj F 2) (.node (boot_o_4 P) (.node (boot_o_8 P) (.node bare (.node (kobj F 32) (.node (x64 P) .nil .nil) .nil) (.node (x48 P) .nil .nil)) (.node (kobj F 24) (.node (kobj F 40) (.node (kobj F 72) .nil .nil) .nil) (.node (kobj F 56) .nil .nil))) (.node (y1x12 P) (.node (kobj F 20) (.node (kobj F 36) (.node (kobj F 68) .nil .nil) .nil) (.node (x52 P) .nil .nil)) (.node (kobj F 28) (.node (kobj F 44) (.node (x76 P) .nil .nil) .nil) (.node (x60 P) .nil .nil)))) (.node (boot_o_6 P) (.node (boot_o_10 P) (.node (kobj F 18) (.node (kobj F 34) (.node (kobj F 66) .nil .nil) .nil) (.node bare .nil .nil)) (.node (x26 P) (.node bare (.node (kobj F 74) .nil .nil) .nil) (.node (x58 P) .nil .nil))) (.node (x14 P) (.node (kobj F 22) (.node (x38 P) (.node (x70 P) .nil .nil) .nil) (.node (kobj F 54) .nil .nil)) (.node bare (.node (kobj F 46) .nil .nil) (.node (x62 P) .nil .nil))))))
noncomputable def y2x3 (P : Params) : Obj := { cls := Value.type "dict", data := Data.dict #[{ hash := PyData.keyHash P (Str.ofString "__name__"), key := Value.str (Str.ofString "__name__") 165, val := Value.str (Str.ofString "vectorcove.numtext") 355 }, { hash := PyData.keyHash P (Str.ofString "__doc__"), key := Value.str (Str.ofString "__doc__") 166, val := Value.none }, { hash := PyData.keyHash P (Str.ofString "__package__"), key := Value.str (Str.ofString "__package__") 167, val := Value.none }, { hash := PyData.keyHash P (Str.ofString "__loader__"), key := Value.str (Str.ofString "__loader__") 168, val := Value.builtin "__main__.__loader__#opaque" }, { hash := PyData.keyHash P (Str.ofString "__spec__"), key := Value.str (Str.ofString "__spec__") 169, val := Value.none }, { hash := PyData.keyHash P (Str.ofString "__annotations__"), key := Value.str (Str.ofString "__annotations__") 170, val := Value.ref 6 }, { hash := PyData.keyHash P (Str.ofString "__builtins__"), key := Value.str (Str.ofString "__builtins__") 171, val := Value.ref 4 }, { hash := PyData.keyHash P (Str.ofString "__file__"), key := Value.str (Str.ofString "__file__") 173, val := Value.str (Str.ofString "/claim/cut.py") 172 }, { hash := PyData.keyHash P (Str.ofString "__cached__"), key := Value.str (Str.ofString "__cached__") 174, val := Value.none }, { hash := PyData.keyHash P (Str.ofString "_wall"), key := Value.str (Str.ofString "_wall") 193, val := Value.ref 21 }, { hash := PyData.keyHash P (Str.ofString "get_attr"), key := Value.str (Str.ofString "get_attr") 203, val := Value.ref 28 }, { hash := PyData.keyHash P (Str.ofString "names_of"), key := Value.str (Str.ofString "names_of") 209, val := Value.ref 33 }, { hash := PyData.keyHash P (Str.ofString "dim_of"), key := Value.str (Str.ofString "dim_of") 217, val := Value.ref 40 }, { hash := PyData.keyHash P (Str.ofString "dimnames_of"), key := Value.str (Str.ofString "dimnames_of") 223, val := Value.ref 45 }, { hash := PyData.keyHash P (Str.ofString "CoveError"), key := Value.str (Str.ofString "CoveError") 245, val := Value.ref 55 }, { hash := PyData.keyHash P (Str.ofString "Refusal"), key := Value.str (Str.ofString "Refusal") 270, val := Value.ref 75 }, { hash := PyData.keyHash P (Str.ofString "NAN"), key := Value.str (Str.ofString "NAN") 275, val := Value.ref 78 }, { hash := PyData.keyHash P (Str.ofString "INF"), key := Value.str (Str.ofString "INF") 278, val := Value.ref 79 }, { hash := PyData.keyHash P (Str.ofString "ZERO"), key := Value.str (Str.ofString "ZERO") 281, val := Value.ref 80 }, { hash := PyData.keyHash P (Str.ofString "gcd"), key := Value.str (Str.ofString "gcd") 289, val := Value.ref 87 }, { hash := PyData.keyHash P (Str.ofString "make"), key := Value.str (Str.ofString "make") 298, val := Value.ref 94 }, { hash := PyData.keyHash P (Str.ofString "from_int"), key := Value.str (Str.ofString "from_int") 305, val := Value.ref 101 }, { hash := PyData.keyHash P (Str.ofString "is_na"), key := Value.str (Str.ofString "is_na") 312, val := Value.ref 108 }, { hash := PyData.keyHash P (Str.ofString "is_finite"), key := Value.str (Str.ofString "is_finite") 319, val := Value.ref 115 }, { hash := PyData.keyHash P (Str.ofString "neg"), key := Value.str (Str.ofString "neg") 326, val := Value.ref 122 }, { hash := PyData.keyHash P (Str.ofString "to_whole"), key := Value.str (Str.ofString "to_whole") 334, val := Value.ref 129 }, { hash := PyData.keyHash P (Str.ofString "nearest_whole"), key := Value.str (Str.ofString "nearest_whole") 344, val := Value.ref 136 }, { hash := PyData.keyHash P (Str.ofString "exponent"), key := Value.str (Str.ofString "exponent") 354, val := Value.ref 143 }, { hash := PyData.keyHash P (Str.ofString "MOST_EXPONENT"), key := Value.str (Str.ofString "MOST_EXPONENT") 358, val := Value.int 4096 357 }, { hash := PyData.keyHash P (Str.ofString "whole_text"), key := Value.str (Str.ofString "whole_text") 368, val := Value.ref 150 }, { hash := PyData.keyHash P (Str.ofString "special_text"), key := Value.str (Str.ofString "special_text") 375, val := Value.ref 157 }, { hash := PyData.keyHash P (Str.ofString "scaled"), key := Value.str (Str.ofString "scaled") 385, val := Value.ref 164 }, { hash := PyData.keyHash P (Str.ofString "significant"), key := Value.str (Str.ofString "significant") 395, val := Value.ref 171 }, { hash := PyData.keyHash P (Str.ofString "without_tail"), key := Value.str (Str.ofString "without_tail") 403, val := Value.ref 178 }, { hash := PyData.keyHash P (Str.ofString "scientific_text"), key := Value.str (Str.ofString "scientific_text") 415, val := Value.ref 185 }, { hash := PyData.keyHash P (Str.ofString "fixed_text"), key := Value.str (Str.ofString "fixed_text") 425, val := Value.ref 192 }] 36 }
noncomputable def y2x12 (P : Params) : Obj := { cls := Value.none, data := Data.fields #[Value.int 1 0, Value.int 0 0, Value.ref 20, Value.int 5 0, Value.int 0 0, Value.ref 27, Value.int 9 0, Value.int 0 0, Value.ref 32, Value.int 25 0, Value.int 0 0, Value.ref 39, Value.int 30 0, Value.int 0 0, Value.ref 44, Value.int 36 0, Value.int 0 0, Value.ref 51, Value.int 38 0, Value.int 0 0, Value.ref 64, Value.int 46 0, Value.int 0 0, Value.ref 86, Value.int 50 0, Value.int 0 0, Value.ref 93, Value.int 60 0, Value.int 0 0, Value.ref 100, Value.int 64 0, Value.int 0 0, Value.ref 107, Value.int 66 0, Value.int 0 0, Value.ref 114, Value.int 68 0, Value.int 0 0, Value.ref 121, Value.int 72 0, Value.int 0 0, Value.ref 128, Value.int 77 0, Value.int 0 0, Value.ref 135, Value.int 83 0, Value.int 0 0, Value.ref 142, Value.int 96 0, Value.int 0 0, Value.ref 149, Value.int 107 0, Value.int 0 0, Value.ref 156, Value.int 115 0, Value.int 0 0, Value.ref 163, Value.int 120 0, Value.int 0 0, Value.ref 170, Value.int 129 0, Value.int 0 0, Value.ref 177, Value.int 134 0, Value.int 0 0, Value.ref 184, Value.int 141 0, Value.int 0 0, Value.ref 191] }
noncomputable def tM2 (F : Frag) (P : Params) : BT := (.node (boot_o_0 P) (.node (boot_o_1 P) (.node (y2x3 P) (.node (boot_o_7 P) (.node (kobj F 15) (.node (x31 P) (.node (x63 P) (.node (x127 P) .nil .nil) (.node (kobj F 191) .nil .nil)) (.node (kobj F 95) (.node bare .nil .nil) .nil)) (.node (x47 P) (.node (kobj F 79) (.node (kobj F 143) .nil .nil) .nil) (.node (kobj F 111) (.node (kobj F 175) .nil .nil) .nil))) (.node bare (.node (kobj F 39) (.node (kobj F 71) (.node (kobj F 135) .nil .nil) .nil) (.node bare (.node (kobj F 167) .nil .nil) .nil)) (.node (kobj F 55) (.node (kobj F 87) (.node (kobj F 151) .nil .nil) .nil) (.node (kobj F 119) (.node (x183 P) .nil .nil) .nil)))) (.node (x11 P) (.node (x19 P) (.node bare (.node bare (.node bare .nil .nil) .nil) (.node (x99 P) (.node (kobj F 163) .nil .nil) .nil)) (.node (x51 P) (.node (kobj F 83) (.node (kobj F 147) .nil .nil) .nil) (.node (kobj F 115) (.node (kobj F 179) .nil .nil) .nil))) (.node (kobj F 27) (.node (x43 P) (.node (kobj F 75) (.node (kobj F 139) .nil .nil) .nil) (.node (kobj F 107) (.node (kobj F 171) .nil .nil) .nil)) (.node (kobj F 59) (.node (kobj F 91) (.node (x155 P) .nil .nil) .nil) (.node (kobj F 123) (.node bare .nil .nil) .nil))))) (.node (boot_o_5 P) (.node (boot_o_9 P) (.node (kobj F 17) (.node (kobj F 33) (.node (x65 P) (.node (kobj F 129) .nil .nil) .nil) (.node (kobj F 97) (.node (kobj F 161) .nil .nil) .nil)) (.node (x49 P) (.node (kobj F 81) (.node bare .nil .nil) .nil) (.node (x113 P) (.node (kobj F 177) .nil .nil) .nil))) (.node (kobj F 25) (.node (kobj F 41) (.node (kobj F 73) (.node (kobj F 137) .nil .nil) .nil) (.node (kobj F 105) (.node (x169 P) .nil .nil) .nil)) (.node (x57 P) (.node bare (.node (kobj F 153) .nil .nil) .nil) (.node (kobj F 121) (.node (kobj F 185) .nil .nil) .nil)))) (.node (x13 P) (.node (kobj F 21) (.node (kobj F 37) (.node (kobj F 69) (.node (kobj F 133) .nil .nil) .nil) (.node (kobj F 101) (.node (kobj F 165) .nil .nil) .nil)) (.node (kobj F 53) (.node (x85 P) (.node (kobj F 149) .nil .nil) .nil) (.node bare (.node (kobj F 181) .nil .nil) .nil))) (.node (kobj F 29) (.node (kobj F 45) (.node (x77 P) (.node (x141 P) .nil .nil) .nil) (.node (kobj F 109) (.node bare .nil .nil) .nil)) (.node (x61 P) (.node (kobj F 93) (.node (kobj F 157) .nil .nil) .nil) (.node (kobj F 125) (.node (kobj F 189) .nil .nil) .nil)))))) (.node (kobj F 2) (.node (boot_o_4 P) (.node (boot_o_8 P) (.node bare (.node (kobj F 32) (.node (x64 P) (.node (kobj F 128) .nil .nil) (.node (kobj F 192) .nil .nil)) (.node bare (.node (kobj F 160) .nil .nil) .nil)) (.node (x48 P) (.node (kobj F 80) (.node (kobj F 144) .nil .nil) .nil) (.node (kobj F 112) (.node (x176 P) .nil .nil) .nil))) (.node (kobj F 24) (.node (kobj F 40) (.node (kobj F 72) (.node (kobj F 136) .nil .nil) .nil) (.node (kobj F 104) (.node (kobj F 168) .nil .nil) .nil)) (.node (kobj F 56) (.node (kobj F 88) (.node bare .nil .nil) .nil) (.node (x120 P) (.node (kobj F 184) .nil .nil) .nil)))) (.node (y2x12 P) (.node (kobj F 20) (.node (kobj F 36) (.node (kobj F 68) (.node (kobj F 132) .nil .nil) .nil) (.node (kobj F 100) (.node (kobj F 164) .nil .nil) .nil)) (.node (x52 P) (.node (kobj F 84) (.node (x148 P) .nil .nil) .nil) (.node (kobj F 116) (.node bare .nil .nil) .nil))) (.node (kobj F 28) (.node (kobj F 44) (.node (x76 P) (.node (kobj F 140) .nil .nil) .nil) (.node (kobj F 108) (.node (kobj F 172) .nil .nil) .nil)) (.node (x60 P) (.node (x92 P) (.node (kobj F 156) .nil .nil) .nil) (.node bare (.node (kobj F 188) .nil .nil) .nil))))) (.node (boot_o_6 P) (.node (boot_o_10 P) (.node (kobj F 18) (.node (kobj F 34) (.node (kobj F 66) (.node (kobj F 130) .nil .nil) .nil) (.node (kobj F 98) (.node (x162 P) .nil .nil) .nil)) (.node bare (.node bare (.node (kobj F 146) .nil .nil) .nil) (.node (kobj F 114) (.node (kobj F 178) .nil .nil) .nil))) (.node (x26 P) (.node bare (.node (kobj F 74) (.node bare .nil .nil) .nil) (.node (x106 P) (.node (kobj F 170) .nil .nil) .nil)) (.node (x58 P) (.node (kobj F 90) (.node (kobj F 154) .nil .nil) .nil) (.node (kobj F 122) (.node (kobj F 186) .nil .nil) .nil)))) (.node (x14 P) (.node (kobj F 22) (.node (x38 P) (.node (x70 P) (.node (x134 P) .nil .nil) .nil) (.node (kobj F 102) (.node bare .nil .nil) .nil)) (.node (kobj F 54) (.node (kobj F 86) (.node (kobj F 150) .nil .nil) .nil) (.node (kobj F 118) (.node (kobj F 182) .nil .nil) .nil))) (.node bare (.node (kobj F 46) (.node (kobj F 78) (.node (kobj F 142) .nil .nil) .nil) (.node bare (.node (kobj F 174) .nil .nil) .nil)) (.node (x62 P) (.node (kobj F 94) (.node (kobj F 158) .nil .nil) .nil) (.node (kobj F 126) (.node (x190 P) .nil .nil) .nil)))))))
noncomputable def y3x3 (P : Params) : Obj := { cls := Value.type "dict", data := Data.dict #[{ hash := PyData.keyHash P (Str.ofString "__name__"), key := Value.str (Str.ofString "__name__") 165, val := Value.str (Str.ofString "vectorcove.values") 548 }, { hash := PyData.keyHash P (Str.ofString "__doc__"), key := Value.str (Str.ofString "__doc__") 166, val := Value.none }, { hash := PyData.keyHash P (Str.ofString "__package__"), key := Value.str (Str.ofString "__package__") 167, val := Value.none }, { hash := PyData.keyHash P (Str.ofString "__loader__"), key := Value.str (Str.ofString "__loader__") 168, val := Value.builtin "__main__.__loader__#opaque" }, { hash := PyData.keyHash P (Str.ofString "__spec__"), key := Value.str (Str.ofString "__spec__") 169, val := Value.none }, { hash := PyData.keyHash P (Str.ofString "__annotations__"), key := Value.str (Str.ofString "__annotations__") 170, val := Value.ref 6 }, { hash := PyData.keyHash P (Str.ofString "__builtins__"), key := Value.str (Str.ofString "__builtins__") 171, val := Value.ref 4 }, { hash := PyData.keyHash P (Str.ofString "__file__"), key := Value.str (Str.ofString "__file__") 173, val := Value.str (Str.ofString "/claim/cut.py") 172 }, { hash := PyData.keyHash P (Str.ofString "__cached__"), key := Value.str (Str.ofString "__cached__") 174, val := Value.none }, { hash := PyData.keyHash P (Str.ofString "_wall"), key := Value.str (Str.ofString "_wall") 193, val := Value.ref 21 }, { hash := PyData.keyHash P (Str.ofString "get_attr"), key := Value.str (Str.ofString "get_attr") 203, val := Value.ref 28 }, { hash := PyData.keyHash P (Str.ofString "names_of"), key := Value.str (Str.ofString "names_of") 209, val := Value.ref 33 }, { hash := PyData.keyHash P (Str.ofString "dim_of"), key := Value.str (Str.ofString "dim_of") 217, val := Value.ref 40 }, { hash := PyData.keyHash P (Str.ofString "dimnames_of"), key := Value.str (Str.ofString "dimnames_of") 223, val := Value.ref 45 }, { hash := PyData.keyHash P (Str.ofString "CoveError"), key := Value.str (Str.ofString "CoveError") 245, val := Value.ref 55 }, { hash := PyData.keyHash P (Str.ofString "Refusal"), key := Value.str (Str.ofString "Refusal") 270, val := Value.ref 75 }, { hash := PyData.keyHash P (Str.ofString "NAN"), key := Value.str (Str.ofString "NAN") 275, val := Value.ref 78 }, { hash := PyData.keyHash P (Str.ofString "INF"), key := Value.str (Str.ofString "INF") 278, val := Value.ref 79 }, { hash := PyData.keyHash P (Str.ofString "ZERO"), key := Value.str (Str.ofString "ZERO") 281, val := Value.ref 80 }, { hash := PyData.keyHash P (Str.ofString "gcd"), key := Value.str (Str.ofString "gcd") 289, val := Value.ref 87 }, { hash := PyData.keyHash P (Str.ofString "make"), key := Value.str (Str.ofString "make") 298, val := Value.ref 94 }, { hash := PyData.keyHash P (Str.ofString "from_int"), key := Value.str (Str.ofString "from_int") 305, val := Value.ref 101 }, { hash := PyData.keyHash P (Str.ofString "is_na"), key := Value.str (Str.ofString "is_na") 312, val := Value.ref 108 }, { hash := PyData.keyHash P (Str.ofString "is_finite"), key := Value.str (Str.ofString "is_finite") 319, val := Value.ref 115 }, { hash := PyData.keyHash P (Str.ofString "neg"), key := Value.str (Str.ofString "neg") 326, val := Value.ref 122 }, { hash := PyData.keyHash P (Str.ofString "to_whole"), key := Value.str (Str.ofString "to_whole") 334, val := Value.ref 129 }, { hash := PyData.keyHash P (Str.ofString "nearest_whole"), key := Value.str (Str.ofString "nearest_whole") 344, val := Value.ref 136 }, { hash := PyData.keyHash P (Str.ofString "exponent"), key := Value.str (Str.ofString "exponent") 354, val := Value.ref 143 }, { hash := PyData.keyHash P (Str.ofString "MOST_EXPONENT"), key := Value.str (Str.ofString "MOST_EXPONENT") 358, val := Value.int 4096 357 }, { hash := PyData.keyHash P (Str.ofString "whole_text"), key := Value.str (Str.ofString "whole_text") 368, val := Value.ref 150 }, { hash := PyData.keyHash P (Str.ofString "special_text"), key := Value.str (Str.ofString "special_text") 375, val := Value.ref 157 }, { hash := PyData.keyHash P (Str.ofString "scaled"), key := Value.str (Str.ofString "scaled") 385, val := Value.ref 164 }, { hash := PyData.keyHash P (Str.ofString "significant"), key := Value.str (Str.ofString "significant") 395, val := Value.ref 171 }, { hash := PyData.keyHash P (Str.ofString "without_tail"), key := Value.str (Str.ofString "without_tail") 403, val := Value.ref 178 }, { hash := PyData.keyHash P (Str.ofString "scientific_text"), key := Value.str (Str.ofString "scientific_text") 415, val := Value.ref 185 }, { hash := PyData.keyHash P (Str.ofString "fixed_text"), key := Value.str (Str.ofString "fixed_text") 425, val := Value.ref 192 }, { hash := PyData.keyHash P (Str.ofString "measures"), key := Value.str (Str.ofString "measures") 438, val := Value.ref 199 }, { hash := PyData.keyHash P (Str.ofString "chosen_form"), key := Value.str (Str.ofString "chosen_form") 455, val := Value.ref 206 }, { hash := PyData.keyHash P (Str.ofString "formed"), key := Value.str (Str.ofString "formed") 464, val := Value.ref 213 }, { hash := PyData.keyHash P (Str.ofString "common_texts"), key := Value.str (Str.ofString "common_texts") 470, val := Value.ref 218 }, { hash := PyData.keyHash P (Str.ofString "number_text"), key := Value.str (Str.ofString "number_text") 479, val := Value.ref 226 }, { hash := PyData.keyHash P (Str.ofString "digits_value"), key := Value.str (Str.ofString "digits_value") 489, val := Value.ref 233 }, { hash := PyData.keyHash P (Str.ofString "digit_run"), key := Value.str (Str.ofString "digit_run") 498, val := Value.ref 240 }, { hash := PyData.keyHash P (Str.ofString "exponent_value"), key := Value.str (Str.ofString "exponent_value") 507, val := Value.ref 247 }, { hash := PyData.keyHash P (Str.ofString "powered"), key := Value.str (Str.ofString "powered") 516, val := Value.ref 254 }, { hash := PyData.keyHash P (Str.ofString "unsigned_number"), key := Value.str (Str.ofString "unsigned_number") 535, val := Value.ref 261 }, { hash := PyData.keyHash P (Str.ofString "parse_number"), key := Value.str (Str.ofString "parse_number") 547, val := Value.ref 268 }, { hash := PyData.keyHash P (Str.ofString "Vector"), key := Value.str (Str.ofString "Vector") 591, val := Value.ref 293 }] 48 }
noncomputable def y3x12 (P : Params) : Obj := { cls := Value.none, data := Data.fields #[Value.int 1 0, Value.int 0 0, Value.ref 20, Value.int 5 0, Value.int 0 0, Value.ref 27, Value.int 9 0, Value.int 0 0, Value.ref 32, Value.int 25 0, Value.int 0 0, Value.ref 39, Value.int 30 0, Value.int 0 0, Value.ref 44, Value.int 36 0, Value.int 0 0, Value.ref 51, Value.int 38 0, Value.int 0 0, Value.ref 64, Value.int 46 0, Value.int 0 0, Value.ref 86, Value.int 50 0, Value.int 0 0, Value.ref 93, Value.int 60 0, Value.int 0 0, Value.ref 100, Value.int 64 0, Value.int 0 0, Value.ref 107, Value.int 66 0, Value.int 0 0, Value.ref 114, Value.int 68 0, Value.int 0 0, Value.ref 121, Value.int 72 0, Value.int 0 0, Value.ref 128, Value.int 77 0, Value.int 0 0, Value.ref 135, Value.int 83 0, Value.int 0 0, Value.ref 142, Value.int 96 0, Value.int 0 0, Value.ref 149, Value.int 107 0, Value.int 0 0, Value.ref 156, Value.int 115 0, Value.int 0 0, Value.ref 163, Value.int 120 0, Value.int 0 0, Value.ref 170, Value.int 129 0, Value.int 0 0, Value.ref 177, Value.int 134 0, Value.int 0 0, Value.ref 184, Value.int 141 0, Value.int 0 0, Value.ref 191, Value.int 149 0, Value.int 0 0, Value.ref 198, Value.int 156 0, Value.int 0 0, Value.ref 205, Value.int 176 0, Value.int 0 0, Value.ref 212, Value.int 183 0, Value.int 0 0, Value.ref 217, Value.int 187 0, Value.int 0 0, Value.ref 225, Value.int 189 0, Value.int 0 0, Value.ref 232, Value.int 194 0, Value.int 0 0, Value.ref 239, Value.int 198 0, Value.int 0 0, Value.ref 246, Value.int 208 0, Value.int 0 0, Value.ref 253, Value.int 218 0, Value.int 0 0, Value.ref 260, Value.int 250 0, Value.int 0 0, Value.ref 267, Value.int 268 0, Value.int 0 0, Value.ref 274] }
noncomputable def tM3 (F : Frag) (P : Params) : BT := (.node (boot_o_0 P) (.node (boot_o_1 P) (.node (y3x3 P) (.node (boot_o_7 P) (.node (kobj F 15) (.node (x31 P) (.node (x63 P) (.node (x127 P) (.node (kobj F 255) .nil .nil) .nil) (.node (kobj F 191) .nil .nil)) (.node (kobj F 95) (.node bare (.node (kobj F 287) .nil .nil) .nil) (.node (kobj F 223) .nil .nil))) (.node (x47 P) (.node (kobj F 79) (.node (kobj F 143) (.node (x271 P) .nil .nil) .nil) (.node (kobj F 207) .nil .nil)) (.node (kobj F 111) (.node (kobj F 175) .nil .nil) (.node (kobj F 239) .nil .nil)))) (.node bare (.node (kobj F 39) (.node (kobj F 71) (.node (kobj F 135) (.node bare .nil .nil) .nil) (.node (kobj F 199) .nil .nil)) (.node bare (.node (kobj F 167) (.node (kobj F 295) .nil .nil) .nil) (.node (x231 P) .nil .nil))) (.node (kobj F 55) (.node (kobj F 87) (.node (kobj F 151) (.node (kobj F 279) .nil .nil) .nil) (.node bare .nil .nil)) (.node (kobj F 119) (.node (x183 P) .nil .nil) (.node (kobj F 247) .nil .nil))))) (.node (x11 P) (.node (x19 P) (.node bare (.node bare (.node bare (.node (x259 P) .nil .nil) .nil) (.node (kobj F 195) .nil .nil)) (.node (x99 P) (.node (kobj F 163) (.node (kobj F 291) .nil .nil) .nil) (.node (kobj F 227) .nil .nil))) (.node (x51 P) (.node (kobj F 83) (.node (kobj F 147) (.node (x275 P) .nil .nil) .nil) (.node (x211 P) .nil .nil)) (.node (kobj F 115) (.node (kobj F 179) .nil .nil) (.node (kobj F 243) .nil .nil)))) (.node (kobj F 27) (.node (x43 P) (.node (kobj F 75) (.node (kobj F 139) (.node (kobj F 267) .nil .nil) .nil) (.node (kobj F 203) .nil .nil)) (.node (kobj F 107) (.node (kobj F 171) .nil .nil) (.node bare .nil .nil))) (.node (kobj F 59) (.node (kobj F 91) (.node (x155 P) (.node (kobj F 283) .nil .nil) .nil) (.node (kobj F 219) .nil .nil)) (.node (kobj F 123) (.node bare .nil .nil) (.node (kobj F 251) .nil .nil)))))) (.node (boot_o_5 P) (.node (boot_o_9 P) (.node (kobj F 17) (.node (kobj F 33) (.node (x65 P) (.node (kobj F 129) (.node (kobj F 257) .nil .nil) .nil) (.node (kobj F 193) .nil .nil)) (.node (kobj F 97) (.node (kobj F 161) (.node (kobj F 289) .nil .nil) .nil) (.node (kobj F 225) .nil .nil))) (.node (x49 P) (.node (kobj F 81) (.node bare (.node (x273 P) .nil .nil) .nil) (.node (kobj F 209) .nil .nil)) (.node (x113 P) (.node (kobj F 177) .nil .nil) (.node (kobj F 241) .nil .nil)))) (.node (kobj F 25) (.node (kobj F 41) (.node (kobj F 73) (.node (kobj F 137) (.node (kobj F 265) .nil .nil) .nil) (.node bare .nil .nil)) (.node (kobj F 105) (.node (x169 P) (.node (x297 P) .nil .nil) .nil) (.node (kobj F 233) .nil .nil))) (.node (x57 P) (.node bare (.node (kobj F 153) (.node (x281 P) .nil .nil) .nil) (.node (kobj F 217) .nil .nil)) (.node (kobj F 121) (.node (kobj F 185) .nil .nil) (.node bare .nil .nil))))) (.node (x13 P) (.node (kobj F 21) (.node (kobj F 37) (.node (kobj F 69) (.node (kobj F 133) (.node (kobj F 261) .nil .nil) .nil) (.node (x197 P) .nil .nil)) (.node (kobj F 101) (.node (kobj F 165) (.node (kobj F 293) .nil .nil) .nil) (.node (kobj F 229) .nil .nil))) (.node (kobj F 53) (.node (x85 P) (.node (kobj F 149) (.node (kobj F 277) .nil .nil) .nil) (.node (kobj F 213) .nil .nil)) (.node bare (.node (kobj F 181) .nil .nil) (.node (x245 P) .nil .nil)))) (.node (kobj F 29) (.node (kobj F 45) (.node (x77 P) (.node (x141 P) (.node (x269 P) .nil .nil) .nil) (.node (kobj F 205) .nil .nil)) (.node (kobj F 109) (.node bare .nil .nil) (.node (kobj F 237) .nil .nil))) (.node (x61 P) (.node (kobj F 93) (.node (kobj F 157) (.node bare .nil .nil) .nil) (.node bare .nil .nil)) (.node (kobj F 125) (.node (kobj F 189) .nil .nil) (.node (kobj F 253) .nil .nil))))))) (.node (kobj F 2) (.node (boot_o_4 P) (.node (boot_o_8 P) (.node bare (.node (kobj F 32) (.node (x64 P) (.node (kobj F 128) (.node bare .nil .nil) .nil) (.node (kobj F 192) .nil .nil)) (.node bare (.node (kobj F 160) (.node (x288 P) .nil .nil) .nil) (.node (x224 P) .nil .nil))) (.node (x48 P) (.node (kobj F 80) (.node (kobj F 144) (.node (x272 P) .nil .nil) .nil) (.node bare .nil .nil)) (.node (kobj F 112) (.node (x176 P) .nil .nil) (.node (kobj F 240) .nil .nil)))) (.node (kobj F 24) (.node (kobj F 40) (.node (kobj F 72) (.node (kobj F 136) (.node (kobj F 264) .nil .nil) .nil) (.node (kobj F 200) .nil .nil)) (.node (kobj F 104) (.node (kobj F 168) (.node (x296 P) .nil .nil) .nil) (.node (kobj F 232) .nil .nil))) (.node (kobj F 56) (.node (kobj F 88) (.node bare (.node (kobj F 280) .nil .nil) .nil) (.node (x216 P) .nil .nil)) (.node (x120 P) (.node (kobj F 184) .nil .nil) (.node (kobj F 248) .nil .nil))))) (.node (y3x12 P) (.node (kobj F 20) (.node (kobj F 36) (.node (kobj F 68) (.node (kobj F 132) (.node (kobj F 260) .nil .nil) .nil) (.node (kobj F 196) .nil .nil)) (.node (kobj F 100) (.node (kobj F 164) (.node (kobj F 292) .nil .nil) .nil) (.node bare .nil .nil))) (.node (x52 P) (.node (kobj F 84) (.node (x148 P) (.node (kobj F 276) .nil .nil) .nil) (.node (kobj F 212) .nil .nil)) (.node (kobj F 116) (.node bare .nil .nil) (.node (kobj F 244) .nil .nil)))) (.node (kobj F 28) (.node (kobj F 44) (.node (x76 P) (.node (kobj F 140) (.node (kobj F 268) .nil .nil) .nil) (.node (x204 P) .nil .nil)) (.node (kobj F 108) (.node (kobj F 172) .nil .nil) (.node (kobj F 236) .nil .nil))) (.node (x60 P) (.node (x92 P) (.node (kobj F 156) (.node (kobj F 284) .nil .nil) .nil) (.node (kobj F 220) .nil .nil)) (.node bare (.node (kobj F 188) .nil .nil) (.node (x252 P) .nil .nil)))))) (.node (boot_o_6 P) (.node (boot_o_10 P) (.node (kobj F 18) (.node (kobj F 34) (.node (kobj F 66) (.node (kobj F 130) (.node (kobj F 258) .nil .nil) .nil) (.node bare .nil .nil)) (.node (kobj F 98) (.node (x162 P) (.node (kobj F 290) .nil .nil) .nil) (.node (kobj F 226) .nil .nil))) (.node bare (.node bare (.node (kobj F 146) (.node (x274 P) .nil .nil) .nil) (.node (kobj F 210) .nil .nil)) (.node (kobj F 114) (.node (kobj F 178) .nil .nil) (.node bare .nil .nil)))) (.node (x26 P) (.node bare (.node (kobj F 74) (.node bare (.node (x266 P) .nil .nil) .nil) (.node (kobj F 202) .nil .nil)) (.node (x106 P) (.node (kobj F 170) .nil .nil) (.node (kobj F 234) .nil .nil))) (.node (x58 P) (.node (kobj F 90) (.node (kobj F 154) (.node (kobj F 282) .nil .nil) .nil) (.node (kobj F 218) .nil .nil)) (.node (kobj F 122) (.node (kobj F 186) .nil .nil) (.node (kobj F 250) .nil .nil))))) (.node (x14 P) (.node (kobj F 22) (.node (x38 P) (.node (x70 P) (.node (x134 P) (.node (kobj F 262) .nil .nil) .nil) (.node (kobj F 198) .nil .nil)) (.node (kobj F 102) (.node bare (.node (kobj F 294) .nil .nil) .nil) (.node (kobj F 230) .nil .nil))) (.node (kobj F 54) (.node (kobj F 86) (.node (kobj F 150) (.node bare .nil .nil) .nil) (.node (kobj F 214) .nil .nil)) (.node (kobj F 118) (.node (kobj F 182) .nil .nil) (.node (kobj F 246) .nil .nil)))) (.node bare (.node (kobj F 46) (.node (kobj F 78) (.node (kobj F 142) (.node (x270 P) .nil .nil) .nil) (.node (kobj F 206) .nil .nil)) (.node bare (.node (kobj F 174) .nil .nil) (.node (x238 P) .nil .nil))) (.node (x62 P) (.node (kobj F 94) (.node (kobj F 158) (.node (kobj F 286) .nil .nil) .nil) (.node (kobj F 222) .nil .nil)) (.node (kobj F 126) (.node (x190 P) .nil .nil) (.node (kobj F 254) .nil .nil))))))))
noncomputable def y4x3 (P : Params) : Obj := { cls := Value.type "dict", data := Data.dict #[{ hash := PyData.keyHash P (Str.ofString "__name__"), key := Value.str (Str.ofString "__name__") 165, val := Value.str (Str.ofString "vectorcove.coerce") 621 }, { hash := PyData.keyHash P (Str.ofString "__doc__"), key := Value.str (Str.ofString "__doc__") 166, val := Value.none }, { hash := PyData.keyHash P (Str.ofString "__package__"), key := Value.str (Str.ofString "__package__") 167, val := Value.none }, { hash := PyData.keyHash P (Str.ofString "__loader__"), key := Value.str (Str.ofString "__loader__") 168, val := Value.builtin "__main__.__loader__#opaque" }, { hash := PyData.keyHash P (Str.ofString "__spec__"), key := Value.str (Str.ofString "__spec__") 169, val := Value.none }, { hash := PyData.keyHash P (Str.ofString "__annotations__"), key := Value.str (Str.ofString "__annotations__") 170, val := Value.ref 6 }, { hash := PyData.keyHash P (Str.ofString "__builtins__"), key := Value.str (Str.ofString "__builtins__") 171, val := Value.ref 4 }, { hash := PyData.keyHash P (Str.ofString "__file__"), key := Value.str (Str.ofString "__file__") 173, val := Value.str (Str.ofString "/claim/cut.py") 172 }, { hash := PyData.keyHash P (Str.ofString "__cached__"), key := Value.str (Str.ofString "__cached__") 174, val := Value.none }, { hash := PyData.keyHash P (Str.ofString "_wall"), key := Value.str (Str.ofString "_wall") 193, val := Value.ref 21 }, { hash := PyData.keyHash P (Str.ofString "get_attr"), key := Value.str (Str.ofString "get_attr") 203, val := Value.ref 28 }, { hash := PyData.keyHash P (Str.ofString "names_of"), key := Value.str (Str.ofString "names_of") 209, val := Value.ref 33 }, { hash := PyData.keyHash P (Str.ofString "dim_of"), key := Value.str (Str.ofString "dim_of") 217, val := Value.ref 40 }, { hash := PyData.keyHash P (Str.ofString "dimnames_of"), key := Value.str (Str.ofString "dimnames_of") 223, val := Value.ref 45 }, { hash := PyData.keyHash P (Str.ofString "CoveError"), key := Value.str (Str.ofString "CoveError") 245, val := Value.ref 55 }, { hash := PyData.keyHash P (Str.ofString "Refusal"), key := Value.str (Str.ofString "Refusal") 270, val := Value.ref 75 }, { hash := PyData.keyHash P (Str.ofString "NAN"), key := Value.str (Str.ofString "NAN") 275, val := Value.ref 78 }, { hash := PyData.keyHash P (Str.ofString "INF"), key := Value.str (Str.ofString "INF") 278, val := Value.ref 79 }, { hash := PyData.keyHash P (Str.ofString "ZERO"), key := Value.str (Str.ofString "ZERO") 281, val := Value.ref 80 }, { hash := PyData.keyHash P (Str.ofString "gcd"), key := Value.str (Str.ofString "gcd") 289, val := Value.ref 87 }, { hash := PyData.keyHash P (Str.ofString "make"), key := Value.str (Str.ofString "make") 298, val := Value.ref 94 }, { hash := PyData.keyHash P (Str.ofString "from_int"), key := Value.str (Str.ofString "from_int") 305, val := Value.ref 101 }, { hash := PyData.keyHash P (Str.ofString "is_na"), key := Value.str (Str.ofString "is_na") 312, val := Value.ref 108 }, { hash := PyData.keyHash P (Str.ofString "is_finite"), key := Value.str (Str.ofString "is_finite") 319, val := Value.ref 115 }, { hash := PyData.keyHash P (Str.ofString "neg"), key := Value.str (Str.ofString "neg") 326, val := Value.ref 122 }, { hash := PyData.keyHash P (Str.ofString "to_whole"), key := Value.str (Str.ofString "to_whole") 334, val := Value.ref 129 }, { hash := PyData.keyHash P (Str.ofString "nearest_whole"), key := Value.str (Str.ofString "nearest_whole") 344, val := Value.ref 136 }, { hash := PyData.keyHash P (Str.ofString "exponent"), key := Value.str (Str.ofString "exponent") 354, val := Value.ref 143 }, { hash := PyData.keyHash P (Str.ofString "MOST_EXPONENT"), key := Value.str (Str.ofString "MOST_EXPONENT") 358, val := Value.int 4096 357 }, { hash := PyData.keyHash P (Str.ofString "whole_text"), key := Value.str (Str.ofString "whole_text") 368, val := Value.ref 150 }, { hash := PyData.keyHash P (Str.ofString "special_text"), key := Value.str (Str.ofString "special_text") 375, val := Value.ref 157 }, { hash := PyData.keyHash P (Str.ofString "scaled"), key := Value.str (Str.ofString "scaled") 385, val := Value.ref 164 }, { hash := PyData.keyHash P (Str.ofString "significant"), key := Value.str (Str.ofString "significant") 395, val := Value.ref 171 }, { hash := PyData.keyHash P (Str.ofString "without_tail"), key := Value.str (Str.ofString "without_tail") 403, val := Value.ref 178 }, { hash := PyData.keyHash P (Str.ofString "scientific_text"), key := Value.str (Str.ofString "scientific_text") 415, val := Value.ref 185 }, { hash := PyData.keyHash P (Str.ofString "fixed_text"), key := Value.str (Str.ofString "fixed_text") 425, val := Value.ref 192 }, { hash := PyData.keyHash P (Str.ofString "measures"), key := Value.str (Str.ofString "measures") 438, val := Value.ref 199 }, { hash := PyData.keyHash P (Str.ofString "chosen_form"), key := Value.str (Str.ofString "chosen_form") 455, val := Value.ref 206 }, { hash := PyData.keyHash P (Str.ofString "formed"), key := Value.str (Str.ofString "formed") 464, val := Value.ref 213 }, { hash := PyData.keyHash P (Str.ofString "common_texts"), key := Value.str (Str.ofString "common_texts") 470, val := Value.ref 218 }, { hash := PyData.keyHash P (Str.ofString "number_text"), key := Value.str (Str.ofString "number_text") 479, val := Value.ref 226 }, { hash := PyData.keyHash P (Str.ofString "digits_value"), key := Value.str (Str.ofString "digits_value") 489, val := Value.ref 233 }, { hash := PyData.keyHash P (Str.ofString "digit_run"), key := Value.str (Str.ofString "digit_run") 498, val := Value.ref 240 }, { hash := PyData.keyHash P (Str.ofString "exponent_value"), key := Value.str (Str.ofString "exponent_value") 507, val := Value.ref 247 }, { hash := PyData.keyHash P (Str.ofString "powered"), key := Value.str (Str.ofString "powered") 516, val := Value.ref 254 }, { hash := PyData.keyHash P (Str.ofString "unsigned_number"), key := Value.str (Str.ofString "unsigned_number") 535, val := Value.ref 261 }, { hash := PyData.keyHash P (Str.ofString "parse_number"), key := Value.str (Str.ofString "parse_number") 547, val := Value.ref 268 }, { hash := PyData.keyHash P (Str.ofString "Vector"), key := Value.str (Str.ofString "Vector") 591, val := Value.ref 293 }, { hash := PyData.keyHash P (Str.ofString "character"), key := Value.str (Str.ofString "character") 598, val := Value.ref 304 }, { hash := PyData.keyHash P (Str.ofString "length"), key := Value.str (Str.ofString "length") 606, val := Value.ref 311 }, { hash := PyData.keyHash P (Str.ofString "is_atomic"), key := Value.str (Str.ofString "is_atomic") 613, val := Value.ref 318 }, { hash := PyData.keyHash P (Str.ofString "share"), key := Value.str (Str.ofString "share") 620, val := Value.ref 325 }, { hash := PyData.keyHash P (Str.ofString "MOST_INTEGER"), key := Value.str (Str.ofString "MOST_INTEGER") 624, val := Value.int 2147483647 623 }, { hash := PyData.keyHash P (Str.ofString "note"), key := Value.str (Str.ofString "note") 632, val := Value.ref 332 }, { hash := PyData.keyHash P (Str.ofString "as_logical_text"), key := Value.str (Str.ofString "as_logical_text") 639, val := Value.ref 339 }, { hash := PyData.keyHash P (Str.ofString "double_to_integer"), key := Value.str (Str.ofString "double_to_integer") 648, val := Value.ref 346 }, { hash := PyData.keyHash P (Str.ofString "text_to_double"), key := Value.str (Str.ofString "text_to_double") 658, val := Value.ref 353 }, { hash := PyData.keyHash P (Str.ofString "to_logical"), key := Value.str (Str.ofString "to_logical") 666, val := Value.ref 360 }, { hash := PyData.keyHash P (Str.ofString "to_integer"), key := Value.str (Str.ofString "to_integer") 675, val := Value.ref 367 }, { hash := PyData.keyHash P (Str.ofString "to_double"), key := Value.str (Str.ofString "to_double") 684, val := Value.ref 374 }, { hash := PyData.keyHash P (Str.ofString "to_text"), key := Value.str (Str.ofString "to_text") 692, val := Value.ref 381 }, { hash := PyData.keyHash P (Str.ofString "item_as"), key := Value.str (Str.ofString "item_as") 702, val := Value.ref 388 }, { hash := PyData.keyHash P (Str.ofString "is_atomic_kind"), key := Value.str (Str.ofString "is_atomic_kind") 709, val := Value.ref 395 }, { hash := PyData.keyHash P (Str.ofString "list_item_as"), key := Value.str (Str.ofString "list_item_as") 719, val := Value.ref 402 }, { hash := PyData.keyHash P (Str.ofString "refuse_type"), key := Value.str (Str.ofString "refuse_type") 727, val := Value.ref 409 }, { hash := PyData.keyHash P (Str.ofString "as_vector_kind"), key := Value.str (Str.ofString "as_vector_kind") 733, val := Value.ref 414 }] 66 }
noncomputable def y4x12 (P : Params) : Obj := { cls := Value.none, data := Data.fields #[Value.int 1 0, Value.int 0 0, Value.ref 20, Value.int 5 0, Value.int 0 0, Value.ref 27, Value.int 9 0, Value.int 0 0, Value.ref 32, Value.int 25 0, Value.int 0 0, Value.ref 39, Value.int 30 0, Value.int 0 0, Value.ref 44, Value.int 36 0, Value.int 0 0, Value.ref 51, Value.int 38 0, Value.int 0 0, Value.ref 64, Value.int 46 0, Value.int 0 0, Value.ref 86, Value.int 50 0, Value.int 0 0, Value.ref 93, Value.int 60 0, Value.int 0 0, Value.ref 100, Value.int 64 0, Value.int 0 0, Value.ref 107, Value.int 66 0, Value.int 0 0, Value.ref 114, Value.int 68 0, Value.int 0 0, Value.ref 121, Value.int 72 0, Value.int 0 0, Value.ref 128, Value.int 77 0, Value.int 0 0, Value.ref 135, Value.int 83 0, Value.int 0 0, Value.ref 142, Value.int 96 0, Value.int 0 0, Value.ref 149, Value.int 107 0, Value.int 0 0, Value.ref 156, Value.int 115 0, Value.int 0 0, Value.ref 163, Value.int 120 0, Value.int 0 0, Value.ref 170, Value.int 129 0, Value.int 0 0, Value.ref 177, Value.int 134 0, Value.int 0 0, Value.ref 184, Value.int 141 0, Value.int 0 0, Value.ref 191, Value.int 149 0, Value.int 0 0, Value.ref 198, Value.int 156 0, Value.int 0 0, Value.ref 205, Value.int 176 0, Value.int 0 0, Value.ref 212, Value.int 183 0, Value.int 0 0, Value.ref 217, Value.int 187 0, Value.int 0 0, Value.ref 225, Value.int 189 0, Value.int 0 0, Value.ref 232, Value.int 194 0, Value.int 0 0, Value.ref 239, Value.int 198 0, Value.int 0 0, Value.ref 246, Value.int 208 0, Value.int 0 0, Value.ref 253, Value.int 218 0, Value.int 0 0, Value.ref 260, Value.int 250 0, Value.int 0 0, Value.ref 267, Value.int 268 0, Value.int 0 0, Value.ref 274, Value.int 279 0, Value.int 0 0, Value.ref 303, Value.int 281 0, Value.int 0 0, Value.ref 310, Value.int 292 0, Value.int 0 0, Value.ref 317, Value.int 294 0, Value.int 0 0, Value.ref 324, Value.int 300 0, Value.int 0 0, Value.ref 331, Value.int 303 0, Value.int 0 0, Value.ref 338, Value.int 309 0, Value.int 0 0, Value.ref 345, Value.int 317 0, Value.int 0 0, Value.ref 352, Value.int 323 0, Value.int 0 0, Value.ref 359, Value.int 333 0, Value.int 0 0, Value.ref 366, Value.int 341 0, Value.int 0 0, Value.ref 373, Value.int 347 0, Value.int 0 0, Value.ref 380, Value.int 355 0, Value.int 0 0, Value.ref 387, Value.int 369 0, Value.int 0 0, Value.ref 394, Value.int 371 0, Value.int 0 0, Value.ref 401, Value.int 377 0, Value.int 0 0, Value.ref 408, Value.int 379 0, Value.int 0 0, Value.ref 413] }
noncomputable def tM4 (F : Frag) (P : Params) : BT := (.node (boot_o_0 P) (.node (boot_o_1 P) (.node (y4x3 P) (.node (boot_o_7 P) (.node (kobj F 15) (.node (x31 P) (.node (x63 P) (.node (x127 P) (.node (kobj F 255) .nil .nil) (.node bare .nil .nil)) (.node (kobj F 191) (.node (kobj F 319) .nil .nil) .nil)) (.node (kobj F 95) (.node bare (.node (kobj F 287) .nil .nil) .nil) (.node (kobj F 223) (.node (x351 P) .nil .nil) .nil))) (.node (x47 P) (.node (kobj F 79) (.node (kobj F 143) (.node (x271 P) .nil .nil) (.node (kobj F 399) .nil .nil)) (.node (kobj F 207) (.node (kobj F 335) .nil .nil) .nil)) (.node (kobj F 111) (.node (kobj F 175) (.node (kobj F 303) .nil .nil) .nil) (.node (kobj F 239) (.node (kobj F 367) .nil .nil) .nil)))) (.node bare (.node (kobj F 39) (.node (kobj F 71) (.node (kobj F 135) (.node bare .nil .nil) (.node (kobj F 391) .nil .nil)) (.node (kobj F 199) (.node bare .nil .nil) .nil)) (.node bare (.node (kobj F 167) (.node (kobj F 295) .nil .nil) .nil) (.node (x231 P) (.node (kobj F 359) .nil .nil) .nil))) (.node (kobj F 55) (.node (kobj F 87) (.node (kobj F 151) (.node (kobj F 279) .nil .nil) (.node (x407 P) .nil .nil)) (.node bare (.node (kobj F 343) .nil .nil) .nil)) (.node (kobj F 119) (.node (x183 P) (.node (kobj F 311) .nil .nil) .nil) (.node (kobj F 247) (.node (kobj F 375) .nil .nil) .nil))))) (.node (x11 P) (.node (x19 P) (.node bare (.node bare (.node bare (.node (x259 P) .nil .nil) (.node (kobj F 387) .nil .nil)) (.node (kobj F 195) (.node (x323 P) .nil .nil) .nil)) (.node (x99 P) (.node (kobj F 163) (.node (kobj F 291) .nil .nil) .nil) (.node (kobj F 227) (.node bare .nil .nil) .nil))) (.node (x51 P) (.node (kobj F 83) (.node (kobj F 147) (.node (x275 P) .nil .nil) (.node (kobj F 403) .nil .nil)) (.node (x211 P) (.node (kobj F 339) .nil .nil) .nil)) (.node (kobj F 115) (.node (kobj F 179) (.node (kobj F 307) .nil .nil) .nil) (.node (kobj F 243) (.node (kobj F 371) .nil .nil) .nil)))) (.node (kobj F 27) (.node (x43 P) (.node (kobj F 75) (.node (kobj F 139) (.node (kobj F 267) .nil .nil) (.node (kobj F 395) .nil .nil)) (.node (kobj F 203) (.node (kobj F 331) .nil .nil) .nil)) (.node (kobj F 107) (.node (kobj F 171) (.node bare .nil .nil) .nil) (.node bare (.node (kobj F 363) .nil .nil) .nil))) (.node (kobj F 59) (.node (kobj F 91) (.node (x155 P) (.node (kobj F 283) .nil .nil) (.node bare .nil .nil)) (.node (kobj F 219) (.node (kobj F 347) .nil .nil) .nil)) (.node (kobj F 123) (.node bare (.node (kobj F 315) .nil .nil) .nil) (.node (kobj F 251) (.node (x379 P) .nil .nil) .nil)))))) (.node (boot_o_5 P) (.node (boot_o_9 P) (.node (kobj F 17) (.node (kobj F 33) (.node (x65 P) (.node (kobj F 129) (.node (kobj F 257) .nil .nil) (.node (kobj F 385) .nil .nil)) (.node (kobj F 193) (.node (kobj F 321) .nil .nil) .nil)) (.node (kobj F 97) (.node (kobj F 161) (.node (kobj F 289) .nil .nil) .nil) (.node (kobj F 225) (.node (kobj F 353) .nil .nil) .nil))) (.node (x49 P) (.node (kobj F 81) (.node bare (.node (x273 P) .nil .nil) (.node (kobj F 401) .nil .nil)) (.node (kobj F 209) (.node (x337 P) .nil .nil) .nil)) (.node (x113 P) (.node (kobj F 177) (.node (kobj F 305) .nil .nil) .nil) (.node (kobj F 241) (.node bare .nil .nil) .nil)))) (.node (kobj F 25) (.node (kobj F 41) (.node (kobj F 73) (.node (kobj F 137) (.node (kobj F 265) .nil .nil) (.node (x393 P) .nil .nil)) (.node bare (.node (kobj F 329) .nil .nil) .nil)) (.node (kobj F 105) (.node (x169 P) (.node (x297 P) .nil .nil) .nil) (.node (kobj F 233) (.node (kobj F 361) .nil .nil) .nil))) (.node (x57 P) (.node bare (.node (kobj F 153) (.node (x281 P) .nil .nil) (.node (kobj F 409) .nil .nil)) (.node (kobj F 217) (.node (kobj F 345) .nil .nil) .nil)) (.node (kobj F 121) (.node (kobj F 185) (.node bare .nil .nil) .nil) (.node bare (.node (kobj F 377) .nil .nil) .nil))))) (.node (x13 P) (.node (kobj F 21) (.node (kobj F 37) (.node (kobj F 69) (.node (kobj F 133) (.node (kobj F 261) .nil .nil) (.node (kobj F 389) .nil .nil)) (.node (x197 P) (.node (kobj F 325) .nil .nil) .nil)) (.node (kobj F 101) (.node (kobj F 165) (.node (kobj F 293) .nil .nil) .nil) (.node (kobj F 229) (.node (kobj F 357) .nil .nil) .nil))) (.node (kobj F 53) (.node (x85 P) (.node (kobj F 149) (.node (kobj F 277) .nil .nil) (.node (kobj F 405) .nil .nil)) (.node (kobj F 213) (.node bare .nil .nil) .nil)) (.node bare (.node (kobj F 181) (.node (x309 P) .nil .nil) .nil) (.node (x245 P) (.node (kobj F 373) .nil .nil) .nil)))) (.node (kobj F 29) (.node (kobj F 45) (.node (x77 P) (.node (x141 P) (.node (x269 P) .nil .nil) (.node bare .nil .nil)) (.node (kobj F 205) (.node (kobj F 333) .nil .nil) .nil)) (.node (kobj F 109) (.node bare (.node (kobj F 301) .nil .nil) .nil) (.node (kobj F 237) (.node (x365 P) .nil .nil) .nil))) (.node (x61 P) (.node (kobj F 93) (.node (kobj F 157) (.node bare .nil .nil) (.node (kobj F 413) .nil .nil)) (.node bare (.node (kobj F 349) .nil .nil) .nil)) (.node (kobj F 125) (.node (kobj F 189) (.node (kobj F 317) .nil .nil) .nil) (.node (kobj F 253) (.node (kobj F 381) .nil .nil) .nil))))))) (.node (kobj F 2) (.node (boot_o_4 P) (.node (boot_o_8 P) (.node bare (.node (kobj F 32) (.node (x64 P) (.node (kobj F 128) (.node bare .nil .nil) (.node (kobj F 384) .nil .nil)) (.node (kobj F 192) (.node bare .nil .nil) .nil)) (.node bare (.node (kobj F 160) (.node (x288 P) .nil .nil) .nil) (.node (x224 P) (.node (kobj F 352) .nil .nil) .nil))) (.node (x48 P) (.node (kobj F 80) (.node (kobj F 144) (.node (x272 P) .nil .nil) (.node (x400 P) .nil .nil)) (.node bare (.node (kobj F 336) .nil .nil) .nil)) (.node (kobj F 112) (.node (x176 P) (.node (kobj F 304) .nil .nil) .nil) (.node (kobj F 240) (.node (kobj F 368) .nil .nil) .nil)))) (.node (kobj F 24) (.node (kobj F 40) (.node (kobj F 72) (.node (kobj F 136) (.node (kobj F 264) .nil .nil) (.node (kobj F 392) .nil .nil)) (.node (kobj F 200) (.node (kobj F 328) .nil .nil) .nil)) (.node (kobj F 104) (.node (kobj F 168) (.node (x296 P) .nil .nil) .nil) (.node (kobj F 232) (.node (kobj F 360) .nil .nil) .nil))) (.node (kobj F 56) (.node (kobj F 88) (.node bare (.node (kobj F 280) .nil .nil) (.node (kobj F 408) .nil .nil)) (.node (x216 P) (.node (x344 P) .nil .nil) .nil)) (.node (x120 P) (.node (kobj F 184) (.node (kobj F 312) .nil .nil) .nil) (.node (kobj F 248) (.node bare .nil .nil) .nil))))) (.node (y4x12 P) (.node (kobj F 20) (.node (kobj F 36) (.node (kobj F 68) (.node (kobj F 132) (.node (kobj F 260) .nil .nil) (.node (kobj F 388) .nil .nil)) (.node (kobj F 196) (.node (kobj F 324) .nil .nil) .nil)) (.node (kobj F 100) (.node (kobj F 164) (.node (kobj F 292) .nil .nil) .nil) (.node bare (.node (kobj F 356) .nil .nil) .nil))) (.node (x52 P) (.node (kobj F 84) (.node (x148 P) (.node (kobj F 276) .nil .nil) (.node bare .nil .nil)) (.node (kobj F 212) (.node (kobj F 340) .nil .nil) .nil)) (.node (kobj F 116) (.node bare (.node (kobj F 308) .nil .nil) .nil) (.node (kobj F 244) (.node (x372 P) .nil .nil) .nil)))) (.node (kobj F 28) (.node (kobj F 44) (.node (x76 P) (.node (kobj F 140) (.node (kobj F 268) .nil .nil) (.node (kobj F 396) .nil .nil)) (.node (x204 P) (.node (kobj F 332) .nil .nil) .nil)) (.node (kobj F 108) (.node (kobj F 172) (.node (kobj F 300) .nil .nil) .nil) (.node (kobj F 236) (.node (kobj F 364) .nil .nil) .nil))) (.node (x60 P) (.node (x92 P) (.node (kobj F 156) (.node (kobj F 284) .nil .nil) (.node (x412 P) .nil .nil)) (.node (kobj F 220) (.node bare .nil .nil) .nil)) (.node bare (.node (kobj F 188) (.node (x316 P) .nil .nil) .nil) (.node (x252 P) (.node (kobj F 380) .nil .nil) .nil)))))) (.node (boot_o_6 P) (.node (boot_o_10 P) (.node (kobj F 18) (.node (kobj F 34) (.node (kobj F 66) (.node (kobj F 130) (.node (kobj F 258) .nil .nil) (.node (x386 P) .nil .nil)) (.node bare (.node (kobj F 322) .nil .nil) .nil)) (.node (kobj F 98) (.node (x162 P) (.node (kobj F 290) .nil .nil) .nil) (.node (kobj F 226) (.node (kobj F 354) .nil .nil) .nil))) (.node bare (.node bare (.node (kobj F 146) (.node (x274 P) .nil .nil) (.node (kobj F 402) .nil .nil)) (.node (kobj F 210) (.node (kobj F 338) .nil .nil) .nil)) (.node (kobj F 114) (.node (kobj F 178) (.node bare .nil .nil) .nil) (.node bare (.node (kobj F 370) .nil .nil) .nil)))) (.node (x26 P) (.node bare (.node (kobj F 74) (.node bare (.node (x266 P) .nil .nil) (.node (kobj F 394) .nil .nil)) (.node (kobj F 202) (.node (x330 P) .nil .nil) .nil)) (.node (x106 P) (.node (kobj F 170) (.node (kobj F 298) .nil .nil) .nil) (.node (kobj F 234) (.node bare .nil .nil) .nil))) (.node (x58 P) (.node (kobj F 90) (.node (kobj F 154) (.node (kobj F 282) .nil .nil) (.node (kobj F 410) .nil .nil)) (.node (kobj F 218) (.node (kobj F 346) .nil .nil) .nil)) (.node (kobj F 122) (.node (kobj F 186) (.node (kobj F 314) .nil .nil) .nil) (.node (kobj F 250) (.node (kobj F 378) .nil .nil) .nil))))) (.node (x14 P) (.node (kobj F 22) (.node (x38 P) (.node (x70 P) (.node (x134 P) (.node (kobj F 262) .nil .nil) (.node bare .nil .nil)) (.node (kobj F 198) (.node (kobj F 326) .nil .nil) .nil)) (.node (kobj F 102) (.node bare (.node (kobj F 294) .nil .nil) .nil) (.node (kobj F 230) (.node (x358 P) .nil .nil) .nil))) (.node (kobj F 54) (.node (kobj F 86) (.node (kobj F 150) (.node bare .nil .nil) (.node (kobj F 406) .nil .nil)) (.node (kobj F 214) (.node (kobj F 342) .nil .nil) .nil)) (.node (kobj F 118) (.node (kobj F 182) (.node (kobj F 310) .nil .nil) .nil) (.node (kobj F 246) (.node (kobj F 374) .nil .nil) .nil)))) (.node bare (.node (kobj F 46) (.node (kobj F 78) (.node (kobj F 142) (.node (x270 P) .nil .nil) (.node (kobj F 398) .nil .nil)) (.node (kobj F 206) (.node bare .nil .nil) .nil)) (.node bare (.node (kobj F 174) (.node (x302 P) .nil .nil) .nil) (.node (x238 P) (.node (kobj F 366) .nil .nil) .nil))) (.node (x62 P) (.node (kobj F 94) (.node (kobj F 158) (.node (kobj F 286) .nil .nil) (.node (kobj F 414) .nil .nil)) (.node (kobj F 222) (.node (kobj F 350) .nil .nil) .nil)) (.node (kobj F 126) (.node (x190 P) (.node (kobj F 318) .nil .nil) .nil) (.node (kobj F 254) (.node (kobj F 382) .nil .nil) .nil))))))))
noncomputable def y5x3 (P : Params) : Obj := { cls := Value.type "dict", data := Data.dict #[{ hash := PyData.keyHash P (Str.ofString "__name__"), key := Value.str (Str.ofString "__name__") 165, val := Value.str (Str.ofString "vectorcove.sprintf") 748 }, { hash := PyData.keyHash P (Str.ofString "__doc__"), key := Value.str (Str.ofString "__doc__") 166, val := Value.none }, { hash := PyData.keyHash P (Str.ofString "__package__"), key := Value.str (Str.ofString "__package__") 167, val := Value.none }, { hash := PyData.keyHash P (Str.ofString "__loader__"), key := Value.str (Str.ofString "__loader__") 168, val := Value.builtin "__main__.__loader__#opaque" }, { hash := PyData.keyHash P (Str.ofString "__spec__"), key := Value.str (Str.ofString "__spec__") 169, val := Value.none }, { hash := PyData.keyHash P (Str.ofString "__annotations__"), key := Value.str (Str.ofString "__annotations__") 170, val := Value.ref 6 }, { hash := PyData.keyHash P (Str.ofString "__builtins__"), key := Value.str (Str.ofString "__builtins__") 171, val := Value.ref 4 }, { hash := PyData.keyHash P (Str.ofString "__file__"), key := Value.str (Str.ofString "__file__") 173, val := Value.str (Str.ofString "/claim/cut.py") 172 }, { hash := PyData.keyHash P (Str.ofString "__cached__"), key := Value.str (Str.ofString "__cached__") 174, val := Value.none }, { hash := PyData.keyHash P (Str.ofString "_wall"), key := Value.str (Str.ofString "_wall") 193, val := Value.ref 21 }, { hash := PyData.keyHash P (Str.ofString "get_attr"), key := Value.str (Str.ofString "get_attr") 203, val := Value.ref 28 }, { hash := PyData.keyHash P (Str.ofString "names_of"), key := Value.str (Str.ofString "names_of") 209, val := Value.ref 33 }, { hash := PyData.keyHash P (Str.ofString "dim_of"), key := Value.str (Str.ofString "dim_of") 217, val := Value.ref 40 }, { hash := PyData.keyHash P (Str.ofString "dimnames_of"), key := Value.str (Str.ofString "dimnames_of") 223, val := Value.ref 45 }, { hash := PyData.keyHash P (Str.ofString "CoveError"), key := Value.str (Str.ofString "CoveError") 245, val := Value.ref 55 }, { hash := PyData.keyHash P (Str.ofString "Refusal"), key := Value.str (Str.ofString "Refusal") 270, val := Value.ref 75 }, { hash := PyData.keyHash P (Str.ofString "NAN"), key := Value.str (Str.ofString "NAN") 275, val := Value.ref 78 }, { hash := PyData.keyHash P (Str.ofString "INF"), key := Value.str (Str.ofString "INF") 278, val := Value.ref 79 }, { hash := PyData.keyHash P (Str.ofString "ZERO"), key := Value.str (Str.ofString "ZERO") 281, val := Value.ref 80 }, { hash := PyData.keyHash P (Str.ofString "gcd"), key := Value.str (Str.ofString "gcd") 289, val := Value.ref 87 }, { hash := PyData.keyHash P (Str.ofString "make"), key := Value.str (Str.ofString "make") 298, val := Value.ref 94 }, { hash := PyData.keyHash P (Str.ofString "from_int"), key := Value.str (Str.ofString "from_int") 305, val := Value.ref 101 }, { hash := PyData.keyHash P (Str.ofString "is_na"), key := Value.str (Str.ofString "is_na") 312, val := Value.ref 108 }, { hash := PyData.keyHash P (Str.ofString "is_finite"), key := Value.str (Str.ofString "is_finite") 319, val := Value.ref 115 }, { hash := PyData.keyHash P (Str.ofString "neg"), key := Value.str (Str.ofString "neg") 326, val := Value.ref 122 }, { hash := PyData.keyHash P (Str.ofString "to_whole"), key := Value.str (Str.ofString "to_whole") 334, val := Value.ref 129 }, { hash := PyData.keyHash P (Str.ofString "nearest_whole"), key := Value.str (Str.ofString "nearest_whole") 344, val := Value.ref 136 }, { hash := PyData.keyHash P (Str.ofString "exponent"), key := Value.str (Str.ofString "exponent") 354, val := Value.ref 143 }, { hash := PyData.keyHash P (Str.ofString "MOST_EXPONENT"), key := Value.str (Str.ofString "MOST_EXPONENT") 358, val := Value.int 4096 357 }, { hash := PyData.keyHash P (Str.ofString "whole_text"), key := Value.str (Str.ofString "whole_text") 368, val := Value.ref 150 }, { hash := PyData.keyHash P (Str.ofString "special_text"), key := Value.str (Str.ofString "special_text") 375, val := Value.ref 157 }, { hash := PyData.keyHash P (Str.ofString "scaled"), key := Value.str (Str.ofString "scaled") 385, val := Value.ref 164 }, { hash := PyData.keyHash P (Str.ofString "significant"), key := Value.str (Str.ofString "significant") 395, val := Value.ref 171 }, { hash := PyData.keyHash P (Str.ofString "without_tail"), key := Value.str (Str.ofString "without_tail") 403, val := Value.ref 178 }, { hash := PyData.keyHash P (Str.ofString "scientific_text"), key := Value.str (Str.ofString "scientific_text") 415, val := Value.ref 185 }, { hash := PyData.keyHash P (Str.ofString "fixed_text"), key := Value.str (Str.ofString "fixed_text") 425, val := Value.ref 192 }, { hash := PyData.keyHash P (Str.ofString "measures"), key := Value.str (Str.ofString "measures") 438, val := Value.ref 199 }, { hash := PyData.keyHash P (Str.ofString "chosen_form"), key := Value.str (Str.ofString "chosen_form") 455, val := Value.ref 206 }, { hash := PyData.keyHash P (Str.ofString "formed"), key := Value.str (Str.ofString "formed") 464, val := Value.ref 213 }, { hash := PyData.keyHash P (Str.ofString "common_texts"), key := Value.str (Str.ofString "common_texts") 470, val := Value.ref 218 }, { hash := PyData.keyHash P (Str.ofString "number_text"), key := Value.str (Str.ofString "number_text") 479, val := Value.ref 226 }, { hash := PyData.keyHash P (Str.ofString "digits_value"), key := Value.str (Str.ofString "digits_value") 489, val := Value.ref 233 }, { hash := PyData.keyHash P (Str.ofString "digit_run"), key := Value.str (Str.ofString "digit_run") 498, val := Value.ref 240 }, { hash := PyData.keyHash P (Str.ofString "exponent_value"), key := Value.str (Str.ofString "exponent_value") 507, val := Value.ref 247 }, { hash := PyData.keyHash P (Str.ofString "powered"), key := Value.str (Str.ofString "powered") 516, val := Value.ref 254 }, { hash := PyData.keyHash P (Str.ofString "unsigned_number"), key := Value.str (Str.ofString "unsigned_number") 535, val := Value.ref 261 }, { hash := PyData.keyHash P (Str.ofString "parse_number"), key := Value.str (Str.ofString "parse_number") 547, val := Value.ref 268 }, { hash := PyData.keyHash P (Str.ofString "Vector"), key := Value.str (Str.ofString "Vector") 591, val := Value.ref 293 }, { hash := PyData.keyHash P (Str.ofString "character"), key := Value.str (Str.ofString "character") 598, val := Value.ref 304 }, { hash := PyData.keyHash P (Str.ofString "length"), key := Value.str (Str.ofString "length") 606, val := Value.ref 311 }, { hash := PyData.keyHash P (Str.ofString "is_atomic"), key := Value.str (Str.ofString "is_atomic") 613, val := Value.ref 318 }, { hash := PyData.keyHash P (Str.ofString "share"), key := Value.str (Str.ofString "share") 620, val := Value.ref 325 }, { hash := PyData.keyHash P (Str.ofString "MOST_INTEGER"), key := Value.str (Str.ofString "MOST_INTEGER") 624, val := Value.int 2147483647 623 }, { hash := PyData.keyHash P (Str.ofString "note"), key := Value.str (Str.ofString "note") 632, val := Value.ref 332 }, { hash := PyData.keyHash P (Str.ofString "as_logical_text"), key := Value.str (Str.ofString "as_logical_text") 639, val := Value.ref 339 }, { hash := PyData.keyHash P (Str.ofString "double_to_integer"), key := Value.str (Str.ofString "double_to_integer") 648, val := Value.ref 346 }, { hash := PyData.keyHash P (Str.ofString "text_to_double"), key := Value.str (Str.ofString "text_to_double") 658, val := Value.ref 353 }, { hash := PyData.keyHash P (Str.ofString "to_logical"), key := Value.str (Str.ofString "to_logical") 666, val := Value.ref 360 }, { hash := PyData.keyHash P (Str.ofString "to_integer"), key := Value.str (Str.ofString "to_integer") 675, val := Value.ref 367 }, { hash := PyData.keyHash P (Str.ofString "to_double"), key := Value.str (Str.ofString "to_double") 684, val := Value.ref 374 }, { hash := PyData.keyHash P (Str.ofString "to_text"), key := Value.str (Str.ofString "to_text") 692, val := Value.ref 381 }, { hash := PyData.keyHash P (Str.ofString "item_as"), key := Value.str (Str.ofString "item_as") 702, val := Value.ref 388 }, { hash := PyData.keyHash P (Str.ofString "is_atomic_kind"), key := Value.str (Str.ofString "is_atomic_kind") 709, val := Value.ref 395 }, { hash := PyData.keyHash P (Str.ofString "list_item_as"), key := Value.str (Str.ofString "list_item_as") 719, val := Value.ref 402 }, { hash := PyData.keyHash P (Str.ofString "refuse_type"), key := Value.str (Str.ofString "refuse_type") 727, val := Value.ref 409 }, { hash := PyData.keyHash P (Str.ofString "as_vector_kind"), key := Value.str (Str.ofString "as_vector_kind") 733, val := Value.ref 414 }, { hash := PyData.keyHash P (Str.ofString "with_names"), key := Value.str (Str.ofString "with_names") 741, val := Value.ref 421 }, { hash := PyData.keyHash P (Str.ofString "as_kind"), key := Value.str (Str.ofString "as_kind") 747, val := Value.ref 426 }, { hash := PyData.keyHash P (Str.ofString "FLAGS"), key := Value.str (Str.ofString "FLAGS") 751, val := Value.str (Str.ofString "-+ 0#") 750 }, { hash := PyData.keyHash P (Str.ofString "WIDEST"), key := Value.str (Str.ofString "WIDEST") 753, val := Value.int 8192 752 }, { hash := PyData.keyHash P (Str.ofString "Spec"), key := Value.str (Str.ofString "Spec") 785, val := Value.ref 443 }, { hash := PyData.keyHash P (Str.ofString "is_digit"), key := Value.str (Str.ofString "is_digit") 792, val := Value.ref 454 }, { hash := PyData.keyHash P (Str.ofString "digits_at"), key := Value.str (Str.ofString "digits_at") 801, val := Value.ref 461 }, { hash := PyData.keyHash P (Str.ofString "Source"), key := Value.str (Str.ofString "Source") 852, val := Value.ref 492 }] 74 }
noncomputable def y5x12 (P : Params) : Obj := { cls := Value.none, data := Data.fields #[Value.int 1 0, Value.int 0 0, Value.ref 20, Value.int 5 0, Value.int 0 0, Value.ref 27, Value.int 9 0, Value.int 0 0, Value.ref 32, Value.int 25 0, Value.int 0 0, Value.ref 39, Value.int 30 0, Value.int 0 0, Value.ref 44, Value.int 36 0, Value.int 0 0, Value.ref 51, Value.int 38 0, Value.int 0 0, Value.ref 64, Value.int 46 0, Value.int 0 0, Value.ref 86, Value.int 50 0, Value.int 0 0, Value.ref 93, Value.int 60 0, Value.int 0 0, Value.ref 100, Value.int 64 0, Value.int 0 0, Value.ref 107, Value.int 66 0, Value.int 0 0, Value.ref 114, Value.int 68 0, Value.int 0 0, Value.ref 121, Value.int 72 0, Value.int 0 0, Value.ref 128, Value.int 77 0, Value.int 0 0, Value.ref 135, Value.int 83 0, Value.int 0 0, Value.ref 142, Value.int 96 0, Value.int 0 0, Value.ref 149, Value.int 107 0, Value.int 0 0, Value.ref 156, Value.int 115 0, Value.int 0 0, Value.ref 163, Value.int 120 0, Value.int 0 0, Value.ref 170, Value.int 129 0, Value.int 0 0, Value.ref 177, Value.int 134 0, Value.int 0 0, Value.ref 184, Value.int 141 0, Value.int 0 0, Value.ref 191, Value.int 149 0, Value.int 0 0, Value.ref 198, Value.int 156 0, Value.int 0 0, Value.ref 205, Value.int 176 0, Value.int 0 0, Value.ref 212, Value.int 183 0, Value.int 0 0, Value.ref 217, Value.int 187 0, Value.int 0 0, Value.ref 225, Value.int 189 0, Value.int 0 0, Value.ref 232, Value.int 194 0, Value.int 0 0, Value.ref 239, Value.int 198 0, Value.int 0 0, Value.ref 246, Value.int 208 0, Value.int 0 0, Value.ref 253, Value.int 218 0, Value.int 0 0, Value.ref 260, Value.int 250 0, Value.int 0 0, Value.ref 267, Value.int 268 0, Value.int 0 0, Value.ref 274, Value.int 279 0, Value.int 0 0, Value.ref 303, Value.int 281 0, Value.int 0 0, Value.ref 310, Value.int 292 0, Value.int 0 0, Value.ref 317, Value.int 294 0, Value.int 0 0, Value.ref 324, Value.int 300 0, Value.int 0 0, Value.ref 331, Value.int 303 0, Value.int 0 0, Value.ref 338, Value.int 309 0, Value.int 0 0, Value.ref 345, Value.int 317 0, Value.int 0 0, Value.ref 352, Value.int 323 0, Value.int 0 0, Value.ref 359, Value.int 333 0, Value.int 0 0, Value.ref 366, Value.int 341 0, Value.int 0 0, Value.ref 373, Value.int 347 0, Value.int 0 0, Value.ref 380, Value.int 355 0, Value.int 0 0, Value.ref 387, Value.int 369 0, Value.int 0 0, Value.ref 394, Value.int 371 0, Value.int 0 0, Value.ref 401, Value.int 377 0, Value.int 0 0, Value.ref 408, Value.int 379 0, Value.int 0 0, Value.ref 413, Value.int 393 0, Value.int 0 0, Value.ref 420, Value.int 397 0, Value.int 0 0, Value.ref 425, Value.int 407 0, Value.int 0 0, Value.ref 432, Value.int 415 0, Value.int 0 0, Value.ref 453, Value.int 417 0, Value.int 0 0, Value.ref 460, Value.int 426 0, Value.int 0 0, Value.ref 467] }
noncomputable def tM5 (F : Frag) (P : Params) : BT := (.node (boot_o_0 P) (.node (boot_o_1 P) (.node (y5x3 P) (.node (boot_o_7 P) (.node (kobj F 15) (.node (x31 P) (.node (x63 P) (.node (x127 P) (.node (kobj F 255) .nil .nil) (.node bare .nil .nil)) (.node (kobj F 191) (.node (kobj F 319) .nil .nil) (.node (x447 P) .nil .nil))) (.node (kobj F 95) (.node bare (.node (kobj F 287) .nil .nil) (.node (kobj F 415) .nil .nil)) (.node (kobj F 223) (.node (x351 P) .nil .nil) (.node (kobj F 479) .nil .nil)))) (.node (x47 P) (.node (kobj F 79) (.node (kobj F 143) (.node (x271 P) .nil .nil) (.node (kobj F 399) .nil .nil)) (.node (kobj F 207) (.node (kobj F 335) .nil .nil) (.node (x463 P) .nil .nil))) (.node (kobj F 111) (.node (kobj F 175) (.node (kobj F 303) .nil .nil) (.node (x431 P) .nil .nil)) (.node (kobj F 239) (.node (kobj F 367) .nil .nil) (.node (x495 P) .nil .nil))))) (.node bare (.node (kobj F 39) (.node (kobj F 71) (.node (kobj F 135) (.node bare .nil .nil) (.node (kobj F 391) .nil .nil)) (.node (kobj F 199) (.node bare .nil .nil) (.node (kobj F 455) .nil .nil))) (.node bare (.node (kobj F 167) (.node (kobj F 295) .nil .nil) (.node bare .nil .nil)) (.node (x231 P) (.node (kobj F 359) .nil .nil) (.node (x487 P) .nil .nil)))) (.node (kobj F 55) (.node (kobj F 87) (.node (kobj F 151) (.node (kobj F 279) .nil .nil) (.node (x407 P) .nil .nil)) (.node bare (.node (kobj F 343) .nil .nil) (.node (kobj F 471) .nil .nil))) (.node (kobj F 119) (.node (x183 P) (.node (kobj F 311) .nil .nil) (.node (kobj F 439) .nil .nil)) (.node (kobj F 247) (.node (kobj F 375) .nil .nil) .nil))))) (.node (x11 P) (.node (x19 P) (.node bare (.node bare (.node bare (.node (x259 P) .nil .nil) (.node (kobj F 387) .nil .nil)) (.node (kobj F 195) (.node (x323 P) .nil .nil) (.node (kobj F 451) .nil .nil))) (.node (x99 P) (.node (kobj F 163) (.node (kobj F 291) .nil .nil) (.node (x419 P) .nil .nil)) (.node (kobj F 227) (.node bare .nil .nil) (.node (kobj F 483) .nil .nil)))) (.node (x51 P) (.node (kobj F 83) (.node (kobj F 147) (.node (x275 P) .nil .nil) (.node (kobj F 403) .nil .nil)) (.node (x211 P) (.node (kobj F 339) .nil .nil) (.node (x467 P) .nil .nil))) (.node (kobj F 115) (.node (kobj F 179) (.node (kobj F 307) .nil .nil) (.node bare .nil .nil)) (.node (kobj F 243) (.node (kobj F 371) .nil .nil) .nil)))) (.node (kobj F 27) (.node (x43 P) (.node (kobj F 75) (.node (kobj F 139) (.node (kobj F 267) .nil .nil) (.node (kobj F 395) .nil .nil)) (.node (kobj F 203) (.node (kobj F 331) .nil .nil) (.node (x459 P) .nil .nil))) (.node (kobj F 107) (.node (kobj F 171) (.node bare .nil .nil) (.node (x427 P) .nil .nil)) (.node bare (.node (kobj F 363) .nil .nil) (.node (kobj F 491) .nil .nil)))) (.node (kobj F 59) (.node (kobj F 91) (.node (x155 P) (.node (kobj F 283) .nil .nil) (.node bare .nil .nil)) (.node (kobj F 219) (.node (kobj F 347) .nil .nil) (.node (kobj F 475) .nil .nil))) (.node (kobj F 123) (.node bare (.node (kobj F 315) .nil .nil) (.node (kobj F 443) .nil .nil)) (.node (kobj F 251) (.node (x379 P) .nil .nil) .nil)))))) (.node (boot_o_5 P) (.node (boot_o_9 P) (.node (kobj F 17) (.node (kobj F 33) (.node (x65 P) (.node (kobj F 129) (.node (kobj F 257) .nil .nil) (.node (kobj F 385) .nil .nil)) (.node (kobj F 193) (.node (kobj F 321) .nil .nil) (.node bare .nil .nil))) (.node (kobj F 97) (.node (kobj F 161) (.node (kobj F 289) .nil .nil) (.node (kobj F 417) .nil .nil)) (.node (kobj F 225) (.node (kobj F 353) .nil .nil) (.node (kobj F 481) .nil .nil)))) (.node (x49 P) (.node (kobj F 81) (.node bare (.node (x273 P) .nil .nil) (.node (kobj F 401) .nil .nil)) (.node (kobj F 209) (.node (x337 P) .nil .nil) (.node (x465 P) .nil .nil))) (.node (x113 P) (.node (kobj F 177) (.node (kobj F 305) .nil .nil) (.node (x433 P) .nil .nil)) (.node (kobj F 241) (.node bare .nil .nil) .nil)))) (.node (kobj F 25) (.node (kobj F 41) (.node (kobj F 73) (.node (kobj F 137) (.node (kobj F 265) .nil .nil) (.node (x393 P) .nil .nil)) (.node bare (.node (kobj F 329) .nil .nil) (.node (kobj F 457) .nil .nil))) (.node (kobj F 105) (.node (x169 P) (.node (x297 P) .nil .nil) (.node (kobj F 425) .nil .nil)) (.node (kobj F 233) (.node (kobj F 361) .nil .nil) (.node (kobj F 489) .nil .nil)))) (.node (x57 P) (.node bare (.node (kobj F 153) (.node (x281 P) .nil .nil) (.node (kobj F 409) .nil .nil)) (.node (kobj F 217) (.node (kobj F 345) .nil .nil) (.node (x473 P) .nil .nil))) (.node (kobj F 121) (.node (kobj F 185) (.node bare .nil .nil) (.node (kobj F 441) .nil .nil)) (.node bare (.node (kobj F 377) .nil .nil) .nil))))) (.node (x13 P) (.node (kobj F 21) (.node (kobj F 37) (.node (kobj F 69) (.node (kobj F 133) (.node (kobj F 261) .nil .nil) (.node (kobj F 389) .nil .nil)) (.node (x197 P) (.node (kobj F 325) .nil .nil) (.node (kobj F 453) .nil .nil))) (.node (kobj F 101) (.node (kobj F 165) (.node (kobj F 293) .nil .nil) (.node (kobj F 421) .nil .nil)) (.node (kobj F 229) (.node (kobj F 357) .nil .nil) (.node (kobj F 485) .nil .nil)))) (.node (kobj F 53) (.node (x85 P) (.node (kobj F 149) (.node (kobj F 277) .nil .nil) (.node (kobj F 405) .nil .nil)) (.node (kobj F 213) (.node bare .nil .nil) (.node (kobj F 469) .nil .nil))) (.node bare (.node (kobj F 181) (.node (x309 P) .nil .nil) (.node (kobj F 437) .nil .nil)) (.node (x245 P) (.node (kobj F 373) .nil .nil) .nil)))) (.node (kobj F 29) (.node (kobj F 45) (.node (x77 P) (.node (x141 P) (.node (x269 P) .nil .nil) (.node bare .nil .nil)) (.node (kobj F 205) (.node (kobj F 333) .nil .nil) (.node (kobj F 461) .nil .nil))) (.node (kobj F 109) (.node bare (.node (kobj F 301) .nil .nil) (.node (x429 P) .nil .nil)) (.node (kobj F 237) (.node (x365 P) .nil .nil) (.node (kobj F 493) .nil .nil)))) (.node (x61 P) (.node (kobj F 93) (.node (kobj F 157) (.node bare .nil .nil) (.node (kobj F 413) .nil .nil)) (.node bare (.node (kobj F 349) .nil .nil) (.node bare .nil .nil))) (.node (kobj F 125) (.node (kobj F 189) (.node (kobj F 317) .nil .nil) (.node (kobj F 445) .nil .nil)) (.node (kobj F 253) (.node (kobj F 381) .nil .nil) .nil))))))) (.node (kobj F 2) (.node (boot_o_4 P) (.node (boot_o_8 P) (.node bare (.node (kobj F 32) (.node (x64 P) (.node (kobj F 128) (.node bare .nil .nil) (.node (kobj F 384) .nil .nil)) (.node (kobj F 192) (.node bare .nil .nil) (.node (kobj F 448) .nil .nil))) (.node bare (.node (kobj F 160) (.node (x288 P) .nil .nil) (.node bare .nil .nil)) (.node (x224 P) (.node (kobj F 352) .nil .nil) (.node (x480 P) .nil .nil)))) (.node (x48 P) (.node (kobj F 80) (.node (kobj F 144) (.node (x272 P) .nil .nil) (.node (x400 P) .nil .nil)) (.node bare (.node (kobj F 336) .nil .nil) (.node (x464 P) .nil .nil))) (.node (kobj F 112) (.node (x176 P) (.node (kobj F 304) .nil .nil) (.node (x432 P) .nil .nil)) (.node (kobj F 240) (.node (kobj F 368) .nil .nil) (.node (x496 P) .nil .nil))))) (.node (kobj F 24) (.node (kobj F 40) (.node (kobj F 72) (.node (kobj F 136) (.node (kobj F 264) .nil .nil) (.node (kobj F 392) .nil .nil)) (.node (kobj F 200) (.node (kobj F 328) .nil .nil) (.node bare .nil .nil))) (.node (kobj F 104) (.node (kobj F 168) (.node (x296 P) .nil .nil) (.node (x424 P) .nil .nil)) (.node (kobj F 232) (.node (kobj F 360) .nil .nil) (.node (kobj F 488) .nil .nil)))) (.node (kobj F 56) (.node (kobj F 88) (.node bare (.node (kobj F 280) .nil .nil) (.node (kobj F 408) .nil .nil)) (.node (x216 P) (.node (x344 P) .nil .nil) (.node (kobj F 472) .nil .nil))) (.node (x120 P) (.node (kobj F 184) (.node (kobj F 312) .nil .nil) (.node (kobj F 440) .nil .nil)) (.node (kobj F 248) (.node bare .nil .nil) .nil))))) (.node (y5x12 P) (.node (kobj F 20) (.node (kobj F 36) (.node (kobj F 68) (.node (kobj F 132) (.node (kobj F 260) .nil .nil) (.node (kobj F 388) .nil .nil)) (.node (kobj F 196) (.node (kobj F 324) .nil .nil) (.node (x452 P) .nil .nil))) (.node (kobj F 100) (.node (kobj F 164) (.node (kobj F 292) .nil .nil) (.node (kobj F 420) .nil .nil)) (.node bare (.node (kobj F 356) .nil .nil) (.node bare .nil .nil)))) (.node (x52 P) (.node (kobj F 84) (.node (x148 P) (.node (kobj F 276) .nil .nil) (.node bare .nil .nil)) (.node (kobj F 212) (.node (kobj F 340) .nil .nil) (.node (x468 P) .nil .nil))) (.node (kobj F 116) (.node bare (.node (kobj F 308) .nil .nil) (.node (kobj F 436) .nil .nil)) (.node (kobj F 244) (.node (x372 P) .nil .nil) .nil)))) (.node (kobj F 28) (.node (kobj F 44) (.node (x76 P) (.node (kobj F 140) (.node (kobj F 268) .nil .nil) (.node (kobj F 396) .nil .nil)) (.node (x204 P) (.node (kobj F 332) .nil .nil) (.node (kobj F 460) .nil .nil))) (.node (kobj F 108) (.node (kobj F 172) (.node (kobj F 300) .nil .nil) (.node (x428 P) .nil .nil)) (.node (kobj F 236) (.node (kobj F 364) .nil .nil) (.node (kobj F 492) .nil .nil)))) (.node (x60 P) (.node (x92 P) (.node (kobj F 156) (.node (kobj F 284) .nil .nil) (.node (x412 P) .nil .nil)) (.node (kobj F 220) (.node bare .nil .nil) (.node (kobj F 476) .nil .nil))) (.node bare (.node (kobj F 188) (.node (x316 P) .nil .nil) (.node (kobj F 444) .nil .nil)) (.node (x252 P) (.node (kobj F 380) .nil .nil) .nil)))))) (.node (boot_o_6 P) (.node (boot_o_10 P) (.node (kobj F 18) (.node (kobj F 34) (.node (kobj F 66) (.node (kobj F 130) (.node (kobj F 258) .nil .nil) (.node (x386 P) .nil .nil)) (.node bare (.node (kobj F 322) .nil .nil) (.node (kobj F 450) .nil .nil))) (.node (kobj F 98) (.node (x162 P) (.node (kobj F 290) .nil .nil) (.node (kobj F 418) .nil .nil)) (.node (kobj F 226) (.node (kobj F 354) .nil .nil) (.node (kobj F 482) .nil .nil)))) (.node bare (.node bare (.node (kobj F 146) (.node (x274 P) .nil .nil) (.node (kobj F 402) .nil .nil)) (.node (kobj F 210) (.node (kobj F 338) .nil .nil) (.node (x466 P) .nil .nil))) (.node (kobj F 114) (.node (kobj F 178) (.node bare .nil .nil) (.node (kobj F 434) .nil .nil)) (.node bare (.node (kobj F 370) .nil .nil) .nil)))) (.node (x26 P) (.node bare (.node (kobj F 74) (.node bare (.node (x266 P) .nil .nil) (.node (kobj F 394) .nil .nil)) (.node (kobj F 202) (.node (x330 P) .nil .nil) (.node (kobj F 458) .nil .nil))) (.node (x106 P) (.node (kobj F 170) (.node (kobj F 298) .nil .nil) (.node (kobj F 426) .nil .nil)) (.node (kobj F 234) (.node bare .nil .nil) (.node (kobj F 490) .nil .nil)))) (.node (x58 P) (.node (kobj F 90) (.node (kobj F 154) (.node (kobj F 282) .nil .nil) (.node (kobj F 410) .nil .nil)) (.node (kobj F 218) (.node (kobj F 346) .nil .nil) (.node (kobj F 474) .nil .nil))) (.node (kobj F 122) (.node (kobj F 186) (.node (kobj F 314) .nil .nil) (.node (kobj F 442) .nil .nil)) (.node (kobj F 250) (.node (kobj F 378) .nil .nil) .nil))))) (.node (x14 P) (.node (kobj F 22) (.node (x38 P) (.node (x70 P) (.node (x134 P) (.node (kobj F 262) .nil .nil) (.node bare .nil .nil)) (.node (kobj F 198) (.node (kobj F 326) .nil .nil) (.node (kobj F 454) .nil .nil))) (.node (kobj F 102) (.node bare (.node (kobj F 294) .nil .nil) (.node (kobj F 422) .nil .nil)) (.node (kobj F 230) (.node (x358 P) .nil .nil) (.node (kobj F 486) .nil .nil)))) (.node (kobj F 54) (.node (kobj F 86) (.node (kobj F 150) (.node bare .nil .nil) (.node (kobj F 406) .nil .nil)) (.node (kobj F 214) (.node (kobj F 342) .nil .nil) (.node bare .nil .nil))) (.node (kobj F 118) (.node (kobj F 182) (.node (kobj F 310) .nil .nil) (.node (x438 P) .nil .nil)) (.node (kobj F 246) (.node (kobj F 374) .nil .nil) .nil)))) (.node bare (.node (kobj F 46) (.node (kobj F 78) (.node (kobj F 142) (.node (x270 P) .nil .nil) (.node (kobj F 398) .nil .nil)) (.node (kobj F 206) (.node bare .nil .nil) (.node (x462 P) .nil .nil))) (.node bare (.node (kobj F 174) (.node (x302 P) .nil .nil) (.node (x430 P) .nil .nil)) (.node (x238 P) (.node (kobj F 366) .nil .nil) (.node (kobj F 494) .nil .nil)))) (.node (x62 P) (.node (kobj F 94) (.node (kobj F 158) (.node (kobj F 286) .nil .nil) (.node (kobj F 414) .nil .nil)) (.node (kobj F 222) (.node (kobj F 350) .nil .nil) (.node (kobj F 478) .nil .nil))) (.node (kobj F 126) (.node (x190 P) (.node (kobj F 318) .nil .nil) (.node (x446 P) .nil .nil)) (.node (kobj F 254) (.node (kobj F 382) .nil .nil) .nil))))))))
noncomputable def sM1 (F : Frag) (w : World) (os : OsState) : SharedT := { tree := tM1 F w.params, n := 78, life := {}, gens := #[], drawn := {}, toks := 273, os }
noncomputable def sM2 (F : Frag) (w : World) (os : OsState) : SharedT := { tree := tM2 F w.params, n := 193, life := {}, gens := #[], drawn := {}, toks := 426, os }
noncomputable def sM3 (F : Frag) (w : World) (os : OsState) : SharedT := { tree := tM3 F w.params, n := 298, life := {}, gens := #[], drawn := {}, toks := 592, os }
noncomputable def sM4 (F : Frag) (w : World) (os : OsState) : SharedT := { tree := tM4 F w.params, n := 415, life := {}, gens := #[], drawn := {}, toks := 734, os }
noncomputable def sM5 (F : Frag) (w : World) (os : OsState) : SharedT := { tree := tM5 F w.params, n := 497, life := {}, gens := #[], drawn := {}, toks := 853, os }
def part (a n : Nat) : List Stmt := (tops.drop a).take n
theorem parts_ok : tops = part 0 10 ++ (part 10 21 ++ (part 31 13 ++ (part 44 19 ++ (part 63 9 ++ (part 72 22 ++ []))))) := by kernel_rfl
theorem seg_a (w : World) (os : OsState) : segRunT treeTable pw w 11 (some (.ref 6)) 1 610 (sT w os) (piecesOf (part 0 10) topEnv (.body tops topEnv) noPos [topFrame noPos]) = some (.next, sM1 (laid.heap_1 w.params) w os, .body tops topEnv, ⟨42, 0, 42, 8⟩) := by
  rw [PySem.W.Fast.te14364793385576792824, PySem.W.Fast.te10110043849684766642]
  kernel_rfl
theorem seg_b (w : World) (os : OsState) : segRunT treeTable pw w 11 (some (.ref 6)) 1 547 (sM1 (laid.heap_1 w.params) w os) (piecesOf (part 10 21) topEnv (.body tops topEnv) ⟨42, 0, 42, 8⟩ [topFrame noPos]) = some (.next, sM2 (laid.heap_1 w.params) w os, .body tops topEnv, ⟨141, 0, 148, 15⟩) := by
  rw [PySem.W.Fast.te14364793385576792824, PySem.W.Fast.te10110043849684766642]
  kernel_rfl
theorem seg_c (w : World) (os : OsState) : segRunT treeTable pw w 11 (some (.ref 6)) 1 633 (sM2 (laid.heap_1 w.params) w os) (piecesOf (part 31 13) topEnv (.body tops topEnv) ⟨141, 0, 148, 15⟩ [topFrame noPos]) = some (.next, sM3 (laid.heap_1 w.params) w os, .body tops topEnv, ⟨268, 0, 278, 16⟩) := by
  rw [PySem.W.Fast.te14364793385576792824, PySem.W.Fast.te10110043849684766642]
  kernel_rfl
theorem seg_d (w : World) (os : OsState) : segRunT treeTable pw w 11 (some (.ref 6)) 1 529 (sM3 (laid.heap_1 w.params) w os) (piecesOf (part 44 19) topEnv (.body tops topEnv) ⟨268, 0, 278, 16⟩ [topFrame noPos]) = some (.next, sM4 (laid.heap_1 w.params) w os, .body tops topEnv, ⟨379, 0, 392, 30⟩) := by
  rw [PySem.W.Fast.te14364793385576792824, PySem.W.Fast.te10110043849684766642]
  kernel_rfl
theorem seg_e (w : World) (os : OsState) : segRunT treeTable pw w 11 (some (.ref 6)) 1 661 (sM4 (laid.heap_1 w.params) w os) (piecesOf (part 63 9) topEnv (.body tops topEnv) ⟨379, 0, 392, 30⟩ [topFrame noPos]) = some (.next, sM5 (laid.heap_1 w.params) w os, .body tops topEnv, ⟨426, 0, 451, 19⟩) := by
  rw [PySem.W.Fast.te14364793385576792824, PySem.W.Fast.te10110043849684766642]
  kernel_rfl
theorem seg_f (w : World) (os : OsState) : segRunT treeTable pw w 11 (some (.ref 6)) 1 712 (sM5 (laid.heap_1 w.params) w os) (piecesOf (part 72 22) topEnv (.body tops topEnv) ⟨426, 0, 451, 19⟩ [topFrame noPos]) = some (.next, sF (laid.heap_1 w.params) w os, .body tops topEnv, ⟨673, 0, 699, 104⟩) := by
  rw [PySem.W.Fast.te14364793385576792824, PySem.W.Fast.te10110043849684766642]
  kernel_rfl
theorem flat_ok (w : World) (os : OsState) : (sF (laid.heap_1 w.params) w os).abs = shF (laid.heap_1 w.params) w os := by
  kernel_rfl
abbrev looseL : List Str := [Str.ofString "number_text", Str.ofString "signed"]
abbrev xtF (s : Shared) : Bool := xlAt view noVals s && recOk (RowW.records (PySem.Challenge.rw_ov0084_01).row.toRowW) s
def kAs : List Addr := [2, 3, 15, 17, 18, 20, 21, 22, 24, 25, 27, 28, 29, 32, 33, 34, 36, 37, 39, 40, 41, 44, 45, 46, 53, 54, 55, 56, 59, 66, 68, 69, 71, 72, 73, 74, 75, 78, 79, 80, 81, 83, 84, 86, 87, 88, 90, 91, 93, 94, 95, 97, 98, 100, 101, 102, 104, 105, 107, 108, 109, 111, 112, 114, 115, 116, 118, 119, 121, 122, 123, 125, 126, 128, 129, 130, 132, 133, 135, 136, 137, 139, 140, 142, 143, 144, 146, 147, 149, 150, 151, 153, 154, 156, 157, 158, 160, 161, 163, 164, 165, 167, 168, 170, 171, 172, 174, 175, 177, 178, 179, 181, 182, 184, 185, 186, 188, 189, 191, 192, 193, 195, 196, 198, 199, 200, 202, 203, 205, 206, 207, 209, 210, 212, 213, 214, 217, 218, 219, 220, 222, 223, 225, 226, 227, 229, 230, 232, 233, 234, 236, 237, 239, 240, 241, 243, 244, 246, 247, 248, 250, 251, 253, 254, 255, 257, 258, 260, 261, 262, 264, 265, 267, 268, 276, 277, 279, 280, 282, 283, 284, 286, 287, 289, 290, 291, 292, 293, 294, 295, 298, 300, 301, 303, 304, 305, 307, 308, 310, 311, 312, 314, 315, 317, 318, 319, 321, 322, 324, 325, 326, 328, 329, 331, 332, 333, 335, 336, 338, 339, 340, 342, 343, 345, 346, 347, 349, 350, 352, 353, 354, 356, 357, 359, 360, 361, 363, 364, 366, 367, 368, 370, 371, 373, 374, 375, 377, 378, 380, 381, 382, 384, 385, 387, 388, 389, 391, 392, 394, 395, 396, 398, 399, 401, 402, 403, 405, 406, 408, 409, 410, 413, 414, 415, 417, 418, 420, 421, 422, 425, 426, 434, 436, 437, 439, 440, 441, 442, 443, 444, 445, 448, 450, 451, 453, 454, 455, 457, 458, 460, 461, 469, 471, 472, 474, 475, 476, 478, 479, 481, 482, 483, 485, 486, 488, 489, 490, 491, 492, 493, 494, 497, 499, 500, 502, 503, 504, 506, 507, 509, 510, 511, 512, 514, 515, 517, 518, 519, 521, 522, 524, 525, 526, 528, 529, 531, 532, 533, 535, 536, 538, 539, 540, 542, 543, 545, 546, 547, 549, 550, 552, 553, 554, 556, 557, 559, 560, 561, 563, 564, 566, 567, 568, 570, 571, 573, 574, 575, 577, 578, 580, 581, 582, 584, 585, 587, 588, 589, 591, 592, 594, 595, 596, 598, 599, 601, 602, 603, 605, 606, 608, 609, 610, 612, 613, 615, 616, 617, 619, 620, 622, 623, 624, 626, 627, 629, 630, 631, 633, 634, 636, 637, 638, 640, 641, 643, 644]
noncomputable abbrev shQ (w : World) (os : OsState) : Shared := ⟨hF (laid.heap_1 w.params) w.params, #[], {}, 1094, os⟩
theorem statics_ok (w : World) (os : OsState) : (staticsOk (importedModules pw.main.body) (boot_heap w.params) (hF (laid.heap_1 w.params) w.params) && namesBound pw (hF (laid.heap_1 w.params) w.params) && gensDone (shQ w os) && laidKept (boot_heap w.params) (hF (laid.heap_1 w.params) w.params)) = true := by
  kernel_rfl
theorem s1 (w : World) (os : OsState) : seen ((recsOf view).map (·.name)) (ownsOf view) [] { shQ w os with gens := #[] } = expectedOf view := by
  kernel_rfl
theorem s2 (w : World) (os : OsState) : (shQ w os).heap.bltView = bltViewBooted := by
  kernel_rfl
theorem s3 (w : World) (os : OsState) : ((shQ w os).heap.keysOk (looseW view looseL) ((recsOf view).map (·.name)) ((litsOf view).map (·.1)) ((clssOf view (looseW view looseL)).map (·.name)) && (shQ w os).heap.accountedOkI (importedModules pw.main.body) && (shQ w os).heap.isNs mainGlobals && (shQ w os).heap.isNs builtinsNs && tablesOk view (shQ w os).heap && xtF (shQ w os) && (if true then (shQ w os).gens.size == 0 else !leftWithCleanup (shQ w os).gens)) = true := by
  rw [PySem.W.Fast.te10880121769531294198, PySem.W.Fast.te821141287760084731, PySem.W.Fast.te3399658132070893891, PySem.W.Fast.te7409074990110511671, PySem.W.Fast.te13664370479719496447, PySem.W.Fast.te14722251495701143533, PySem.W.Fast.te5923862056798008813, PySem.W.Fast.te10994771534591457954]
  kernel_rfl
theorem s4 (w : World) (os : OsState) : tabsOk view (shQ w os) = true := by
  rw [PySem.W.Fast.te479339242167458305]
  kernel_rfl
theorem s5 (w : World) (os : OsState) : pinSeenD view (drecsOf view) (shQ w os) = pinGoodD (drecsOf view) := by
  rw [PySem.W.Fast.te16090120013241838585, PySem.W.Fast.te3247288618530077131]
  kernel_rfl
theorem s6 (w : World) (os : OsState) : plainSeenE view (looseW view looseL) (shQ w os) = plainGoodE view (looseW view looseL) := by
  rw [PySem.W.Fast.te2386780881361962483, PySem.W.Fast.te821141287760084731]
  kernel_rfl
theorem s7 (w : World) (os : OsState) : plainSeenD view looseL (shQ w os) = plainGoodD view looseL := by
  kernel_rfl
theorem s8 (w : World) (os : OsState) : wideSeen view (shQ w os) = wideGood view := by
  kernel_rfl
theorem s9 (w : World) (os : OsState) : clsSeenW view looseL (shQ w os) = clsGoodW view looseL := by
  kernel_rfl
theorem as_ok (P : Params) : kAs = (laid.heap_1 P).map (·.1) := by kernel_rfl
theorem y_ok (w : World) (os : OsState) : (kHook laid.heap_1 kAs as_ok).obs (shQ w os) = (kHook laid.heap_1 kAs as_ok).val w := by
  kernel_rfl
theorem seen_ok (w : World) (os : OsState) : openSeen view looseL (importedModules pw.main.body) xtF true (shQ w os) = openGood view looseL := by
  unfold openSeen openGood
  rw [s1 w os, s2 w os, s3 w os, s4 w os, s5 w os, s6 w os, s7 w os, s8 w os, s9 w os]
set_option maxHeartbeats 1000000 in
theorem left_ok : LeftO pw view looseL xtF (kHook laid.heap_1 kAs as_ok).obs (kHook laid.heap_1 kAs as_ok).val 7498 := by
  refine LeftO.of_pieces (H₀ := boot_heap) (H₁ := fun P => hF (laid.heap_1 P) P) (gs₁ := #[]) (d₁ := {}) (k₁ := 1094) (M := 12 + (1 + (610 + (547 + (633 + (529 + (661 + (712 + 2)))))))) opened sized (fun w os => run_of parts_ok (pre_ok w os) (block_ok w os) (seg_a w os) (seg_b w os) (seg_c w os) (seg_d w os) (seg_e w os) (seg_f w os) (fin_of (flat_ok w os))) (by decide) fun w => ?_
  funext os
  refine Prod.ext (statics_ok w os) (Prod.ext (seen_ok w os) (y_ok w os))
set_option maxHeartbeats 0 in
theorem said_ok : (PySem.Challenge.rw_ov0084_01).wellSaid = true := by
  unfold OpenLaw.wellSaid OpenRow.wellSaid OpenRow.partSaid looksOpen
  repeat' (with_reducible refine look_both ?_ ?_)
  all_goals decide +kernel
theorem tables_ok : (PySem.Challenge.rw_ov0084_01).row.prog.tablesWhole = true := by kernel_rfl
section
local macro_rules | `(tactic| o_law) => `(tactic| refine holds_law said_ok fun said => ?_)
local macro_rules | `(tactic| k_head) => `(tactic| (
  refine holds_open (q := view) (loose := looseL) (Xt := xtF) (XP := XL view noVals) (Yf := (kHook laid.heap_1 kAs as_ok).obs) (Ya := (kHook laid.heap_1 kAs as_ok).val) (YP := (kHook laid.heap_1 kAs as_ok).says) (N := 7498) (d := ?d) (kwd := ?kwd) left_ok (Hook.of _) (Hook.keeps _) (fun s e => xl_of s (Bool.and_eq_true_iff.mp e).1) XL.keeps ?h1 ?h2 ?h3 (fun s e => recFacts_of (Bool.and_eq_true_iff.mp e).2) ?h4 ?h5 ?h6 ?h7 ?hw ?hc;
  (case h1 => rfl);
  (case h2 => rfl);
  (case h3 => rfl);
  (case h4 => rfl);
  (case h5 => assumption);
  (case h6 => decide +kernel);
  (case h7 => exact ⟨by kernel_rfl, by kernel_rfl, by kernel_rfl, by kernel_rfl, by kernel_rfl, tables_ok⟩)))
set_option maxHeartbeats 0 in
open_top hd for PySem.Challenge.rw_ov0084_01
end
theorem top_off : True := by
  w_top off
  trivial
local macro_rules | `(tactic| walk_at "binaryOp Add str str") => `(tactic| k_extra "binaryOp Add str str")
local macro_rules | `(tactic| walk_at "call ref") => `(tactic| k_extra "call ref")
local macro_rules | `(tactic| walk_at "call builtin:str.rjust") => `(tactic| k_extra "call builtin:str.rjust")
local macro_rules | `(tactic| walk_at "JoinVal") => `(tactic| k_extra "JoinVal")
local macro_rules | `(tactic| walk_at "JoinSt") => `(tactic| k_extra "JoinSt")
local macro_rules | `(tactic| walk_at "call builtin:str.join") => `(tactic| k_extra "call builtin:str.join")
local macro_rules | `(tactic| walk_at "WhlIf") => `(tactic| k_extra "WhlIf")
local macro_rules | `(tactic| walk_at "exec If") => `(tactic| k_extra "exec If")
local macro_rules | `(tactic| walk_at "call type:int") => `(tactic| k_extra "call type:int")
local macro_rules | `(tactic| walk_at "compareOp IsNot") => `(tactic| k_extra "compareOp IsNot")
local macro_rules | `(tactic| walk_at "compareOp Is") => `(tactic| k_extra "compareOp Is")
local macro_rules | `(tactic| walk_at "JoinPost") => `(tactic| k_extra "JoinPost")
local macro_rules | `(tactic| walk_at "subscriptTail Name Name str int") => `(tactic| k_extra "subscriptTail Name Name str int")
local macro_rules | `(tactic| walk_at "inplaceOp Add str str") => `(tactic| k_extra "inplaceOp Add str str")
local macro_rules | `(tactic| walk_at "KswEnd") => `(tactic| k_extra "KswEnd")
local macro_rules | `(tactic| walk_at "call builtin:len") => `(tactic| k_extra "call builtin:len")
local macro_rules | `(tactic| walk_at "subscriptTail Name Name ref int") => `(tactic| k_extra "subscriptTail Name Name ref int")
local macro_rules | `(tactic| walk_at "subscriptTail Name BinOp ref int") => `(tactic| k_extra "subscriptTail Name BinOp ref int")
local macro_rules | `(tactic| walk_at "call builtin:str.find") => `(tactic| k_extra "call builtin:str.find")
local macro_rules | `(tactic| walk_at "call builtin:list.append") => `(tactic| k_extra "call builtin:list.append")
local macro_rules | `(tactic| walk_at "exec While Compare cons nil") => `(tactic| k_extra "exec While Compare cons nil")
local macro_rules | `(tactic| walk_at "exec For Name Name cons nil") => `(tactic| k_extra "exec For Name Name cons nil")
local macro_rules | `(tactic| walk_at "pyIter ref") => `(tactic| k_extra "pyIter ref")
local macro_rules | `(tactic| walk_at "UnrEnd") => `(tactic| k_extra "UnrEnd")
local macro_rules | `(tactic| walk_at "eval Call") => `(tactic| k_extra "eval Call")
local macro_rules | `(tactic| walk_at "compareOp NotEq ref ref") => `(tactic| k_extra "compareOp NotEq ref ref")
local macro_rules | `(tactic| walk_at "subscriptTail Name Constant ref int") => `(tactic| k_extra "subscriptTail Name Constant ref int")
local macro_rules | `(tactic| walk_at "subscriptTail Constant") => `(tactic| k_extra "subscriptTail Constant")
local macro_rules | `(tactic| walk_at "JoinEx") => `(tactic| k_extra "JoinEx")
local macro_rules | `(tactic| walk_at "compareOp Eq ref ref") => `(tactic| k_extra "compareOp Eq ref ref")
local macro_rules | `(tactic| walk_at "JoinFg") => `(tactic| k_extra "JoinFg")
theorem str_ext {x y : Str} (h : x.cps.toList = y.cps.toList) : x = y := Str.ext' (Array.toList_inj.mp h)
theorem slice_list {x : Str} {i j : Int} (h0 : 0 ≤ i) (h1 : i ≤ j) (h2 : j ≤ x.length) : (Txt.slice x (some i) (some j)).cps.toList = (x.cps.toList.drop i.toNat).take (j - i).toNat := by
  have e : Txt.slice x (some i) (some j) = StrLaws.sliceText x (some i) (some j) := rfl
  have h3 : j ≤ x.cps.toList.length := by rw [Array.length_toList]; exact h2
  rw [e, StrLaws.sliceText_plain ⟨h0, h1, h3⟩]
theorem item_list {x : Str} {i : Int} (h0 : 0 ≤ i) (h2 : i < x.length) : ∃ c, x.cps.toList[i.toNat]? = some c ∧ (Txt.item x i).cps.toList = [c] := by
  obtain ⟨c, hc⟩ := StrLaws.some_at h0 h2
  refine ⟨c, by rw [Array.getElem?_toList]; exact hc, ?_⟩
  have e : seqIndex? i x.length = some i.toNat := by
    unfold seqIndex?
    rw [if_neg (by omega : ¬ i < 0)]
    simp [h0, h2]
  show [(Txt.charAt x i).getD 0] = [c]
  unfold Txt.charAt
  rw [e, Option.bind_some, hc]
  rfl
theorem slice_start (x : Str) {a : Int} (h0 : 0 ≤ a) (h1 : a ≤ x.length) : Str.ofString "" = Txt.slice x (some a) (some a) := by
  refine str_ext ?_
  rw [slice_list h0 (Int.le_refl _) h1, Int.sub_self]
  rfl
theorem slice_snoc (x : Str) {a i : Int} (h0 : 0 ≤ a) (h1 : a ≤ i) (h2 : i < x.length) : Txt.slice x (some a) (some i) ++ Txt.item x i = Txt.slice x (some a) (some (i + 1)) := by
  refine str_ext ?_
  obtain ⟨c, hc, hi⟩ := item_list (x := x) (by omega : 0 ≤ i) h2
  rw [Str.cps_append, Array.toList_append, slice_list h0 h1 (by omega), slice_list h0 (by omega) (by omega), hi]
  have e1 : (i + 1 - a).toNat = (i - a).toNat + 1 := by omega
  rw [e1, List.take_add_one, List.getElem?_drop]
  have e2 : a.toNat + (i - a).toNat = i.toNat := by omega
  rw [e2, hc]
  rfl
theorem slice_some (x : Str) {i : Int} (h0 : 0 ≤ i) (h2 : i < x.length) : (Txt.slice x (some i) (some (i + 1)) != Str.ofString "") = true := by
  rw [bne_iff_ne]
  intro e
  have l := slice_list (x := x) h0 (by omega : i ≤ i + 1) (by omega)
  rw [e] at l
  have l2 := congrArg List.length l
  have e1 : (i + 1 - i).toNat = 1 := by omega
  rw [e1, List.length_take, List.length_drop, Array.length_toList] at l2
  have l3 : (Str.ofString "").cps.size = 0 := by decide +kernel
  rw [l3, Array.length_toList] at l2
  have : x.length = x.cps.size := rfl
  omega
/-- what a contract starts from: any caller's frame, any ledger -/
abbrev Ctr (w : World) (f : Addr) (need : Nat) (vs : List Value) (news : List (Addr × Obj))
    (Ret : Heap → Addr → (Str → Option Value) → Shared → (Value → Shared → Prop) → Prop) : Prop :=
  ∀ (mg mb : Str → Option Value) (mean : ExcName → Option Value) (loose : List Str) (dp un : Nat) (gd : Option (List Code)) (cn : Str) (cs : Scope) (a : Addr) (ccd : Value) (cl : List (Str × Addr)) (outer : List Env) (A₀ : Around) (base h₀ : Heap) (L : Addr) (m : Str → Option Value) (s : Shared) (Q E : Value → Shared → Prop),
    Below A₀ base outer h₀ → Fr h₀ L s.heap m → (laid.heap_1 w.params).In h₀ → News h₀ L s.heap news → Top view loose mean mg mb h₀ → cs.kind = .function →
    dp + need < recursionLimit → un + 8 * need < cLine → Ret h₀ L m s Q →
      wpAny (model (PySem.Challenge.rw_ov0084_01).row.prog w) (ktrTop dp un gd cn cs L a ccd cl outer) (call (.ref f) vs) Q E s

/-- a plain value comes back, nothing is kept -/
abbrev RetV (news : List (Addr × Obj)) (R : Tok → Value) (h₀ : Heap) (L : Addr) (m : Str → Option Value) (s : Shared) (Q : Value → Shared → Prop) : Prop :=
  ∀ (t : Tok) (h' : Heap) (tk' : Nat), Fr h₀ L h' m → News h₀ L h' news → Q (R t) { s with heap := h', toks := tk' }

theorem Ctr.use {w : World} {f : Addr} {need : Nat} {vs : List Value} {news : List (Addr × Obj)} {Ret : Heap → Addr → (Str → Option Value) → Shared → (Value → Shared → Prop) → Prop} {mg mb : Str → Option Value} {mean : ExcName → Option Value} {loose : List Str} {dp un : Nat} {gd : Option (List Code)} {cn : Str} {cs : Scope} {a : Addr} {ccd : Value} {cl : List (Str × Addr)} {outer : List Env} {A₀ : Around} {base h₀ : Heap} {L : Addr} {m : Str → Option Value} {s : Shared} {Q E : Value → Shared → Prop}
    (B : Below A₀ base outer h₀) (F : Fr h₀ L s.heap m) (X : (laid.heap_1 w.params).In h₀) (N : News h₀ L s.heap news) (T : Top view loose mean mg mb h₀) (hk : cs.kind = .function) (C : Ctr w f need vs news Ret)
    (hd : dp + need < recursionLimit) (hu : un + 8 * need < cLine) (ret : Ret h₀ L m s Q) : wpAny (model (PySem.Challenge.rw_ov0084_01).row.prog w) (ktrTop dp un gd cn cs L a ccd cl outer) (call (.ref f) vs) Q E s :=
  C _ _ _ _ _ _ _ _ _ _ _ _ _ _ _ _ _ _ _ _ _ B F X N T hk hd hu ret

def digB (x : Str) : Bool := x != Str.ofString "" && Txt.contains (Str.ofString "0123456789") x

theorem mem_sub {h₀ h : Heap} {L : Addr} {n n' : List (Addr × Obj)} (N : News h₀ L h n') (hs : ∀ p ∈ n, p ∈ n') : News h₀ L h n := fun p hp => N p (hs p hp)

set_option maxHeartbeats 4000000 in
theorem is_digit_ok {w : World} {x : Str} {t : Tok} {news : List (Addr × Obj)} :
    Ctr w 454 1 [.str x t] news (RetV news fun _ => .bool (digB x)) := by
  unfold Ctr
  k_with_none
  k_fill
  intro mg mb mean loose dp un gd cn cs a ccd cl outer A₀ base h₀ L m s Q E B F X N T hk hdp hun hret
  refine wpAny_call ?_
  k_dflt cell_enter
  k_steps
  · have e : (x != Str.ofString "") = true := by assumption
    have h := hret 0 _ (tk + 1 + 1) (by assumption) (by assumption)
    unfold digB at h
    rw [e, Bool.true_and] at h
    exact h
  · have e : (x != Str.ofString "") = false := by assumption
    have h := hret 0 _ (tk + 1) (by assumption) (by assumption)
    unfold digB at h
    rw [e, Bool.false_and] at h
    rw [e]
    exact h
/-- the dict of a Spec -/
abbrev specD (P : Params) (k0 k1 k2 k3 k4 : Tok) (fl : Str) (tf : Tok) (wd : Int) (tw : Tok) (pv : Value) (lt : Str) (tl : Tok) (wv : Value) : List DictEntry :=
  [⟨PyData.keyHash P "flags", .str "flags" k0, .str fl tf⟩, ⟨PyData.keyHash P "width", .str "width" k1, .int wd tw⟩, ⟨PyData.keyHash P "precision", .str "precision" k2, pv⟩, ⟨PyData.keyHash P "letter", .str "letter" k3, .str lt tl⟩, ⟨PyData.keyHash P "which", .str "which" k4, wv⟩]
def padF (body fl : Str) (wd : Int) : Str := if Txt.contains fl "-" = true then Txt.ljust body wd else Txt.rjust body wd

local macro_rules | `(tactic| k_mem) => `(tactic| assumption)
set_option maxHeartbeats 4000000 in
theorem padded_ok {w : World} {body : Str} {tb : Tok} {sx sd : Addr} {k0 k1 k2 k3 k4 : Tok} {fl : Str} {tf : Tok} {wd : Int} {tw : Tok} {pv : Value} {lt : Str} {tl : Tok} {wv : Value} {news : List (Addr × Obj)}
    (hs : (sx, instObj 443 sd) ∈ news) (hd : (sd, dictOf (specD w.params k0 k1 k2 k3 k4 fl tf wd tw pv lt tl wv) 5) ∈ news) (h0 : 0 ≤ wd) (h1 : wd ≤ 8192) :
    Ctr w 510 1 [.str body tb, .ref sx] news (RetV news fun t => .str (padF body fl wd) t) := by
  unfold Ctr
  k_with_none
  k_fill
  intro mg mb mean loose dp un gd cn cs a ccd cl outer A₀ base h₀ L m s Q E B F X N T hk hdp hun hret
  refine wpAny_call ?_
  k_dflt cell_enter
  k_steps
  · exact cb_retS hret (by unfold padF Txt.contains; simp [*]) (by assumption) (by assumption)
  · exact cb_retS hret (by unfold padF Txt.contains; simp [*]) (by assumption) (by assumption)
/-- the ways of a statement meet: no name is stored, the ledger is kept -/
def JoinPost (h₀ : Heap) (L : Addr) (m : Str → Option Value) (s : Shared) (news : List (Addr × Obj)) (fl : Flow) (s' : Shared) : Prop :=
  fl = .next ∧ ∃ (h' : Heap) (tk' : Nat), s' = { s with heap := h', toks := tk' } ∧ Fr h₀ L h' m ∧ News h₀ L h' news
theorem join_stmt {M : Model} {A : Around} {t : Sem Flow} {Q : Flow → Shared → Prop} {E : Value → Shared → Prop} {s : Shared} {h₀ : Heap} {L : Addr} {m : Str → Option Value} {news : List (Addr × Obj)}
    (F : Fr h₀ L s.heap m) (N : News h₀ L s.heap news) (w : wpAny M A t (JoinPost h₀ L m s news) E s)
    (c : ∀ (h' : Heap) (tk' : Nat), Fr h₀ L h' m → News h₀ L h' news → Q .next { s with heap := h', toks := tk' }) : wpAny M A t Q E s :=
  wpAny_mono w (fun fl s' h => by
    obtain ⟨rfl, h', tk', rfl, F', N'⟩ := h
    exact c h' tk' F' N') fun _ _ x => x
/-- the ways of an expression meet in one value -/
def JoinVal (v : Tok → Value) (h₀ : Heap) (L : Addr) (m : Str → Option Value) (s : Shared) (news : List (Addr × Obj)) (r : Value) (s' : Shared) : Prop :=
  ∃ (u : Tok) (h' : Heap) (tk' : Nat), r = v u ∧ s' = { s with heap := h', toks := tk' } ∧ Fr h₀ L h' m ∧ News h₀ L h' news
theorem join_val {M : Model} {A : Around} {t : Sem Value} {Q : Value → Shared → Prop} {E : Value → Shared → Prop} {s : Shared} {h₀ : Heap} {L : Addr} {m : Str → Option Value} {news : List (Addr × Obj)} (v : Tok → Value)
    (F : Fr h₀ L s.heap m) (N : News h₀ L s.heap news) (w : wpAny M A t (JoinVal v h₀ L m s news) E s)
    (c : ∀ (u : Tok) (h' : Heap) (tk' : Nat), Fr h₀ L h' m → News h₀ L h' news → Q (v u) { s with heap := h', toks := tk' }) : wpAny M A t Q E s :=
  wpAny_mono w (fun r s' h => by
    obtain ⟨u, h', tk', rfl, rfl, F', N'⟩ := h
    exact c u h' tk' F' N') fun _ _ x => x
/-- None or an int -/
def optV (o : Option Int) (t : Tok) : Value := match o with
  | none => .none
  | some v => .int v t
theorem optV_split {o : Option Int} {t : Tok} {P : Value → Prop} (hn : o = none → P .none) (hs : ∀ v, o = some v → P (.int v t)) : P (optV o t) := by
  cases o with
  | none => exact hn rfl
  | some v => exact hs v rfl
theorem isNot_optV {M : Model} {A : Around} {Q : Value → Shared → Prop} {E : Value → Shared → Prop} {s : Shared} {o : Option Int} {t : Tok}
    (hn : o = none → wpAny M A (compareOp .IsNot .none .none) Q E s) (hs : ∀ v, o = some v → wpAny M A (compareOp .IsNot (.int v t) .none) Q E s) : wpAny M A (compareOp .IsNot (optV o t) .none) Q E s :=
  optV_split (P := fun v => wpAny M A (compareOp .IsNot v .none) Q E s) hn hs
theorem is_optV {M : Model} {A : Around} {Q : Value → Shared → Prop} {E : Value → Shared → Prop} {s : Shared} {o : Option Int} {t : Tok}
    (hn : o = none → wpAny M A (compareOp .Is .none .none) Q E s) (hs : ∀ v, o = some v → wpAny M A (compareOp .Is (.int v t) .none) Q E s) : wpAny M A (compareOp .Is (optV o t) .none) Q E s :=
  optV_split (P := fun v => wpAny M A (compareOp .Is v .none) Q E s) hn hs
/-- the ways of a statement meet: one name is stored -/
def JoinSt (nm : Str) (v : Tok → Value) (h₀ : Heap) (L : Addr) (m : Str → Option Value) (s : Shared) (news : List (Addr × Obj)) (fl : Flow) (s' : Shared) : Prop :=
  fl = .next ∧ ∃ (u : Tok) (h' : Heap) (tk' : Nat), s' = { s with heap := h', toks := tk' } ∧ Fr h₀ L h' (fun y => if y = nm then some (v u) else m y) ∧ News h₀ L h' news
theorem join_store {M : Model} {A : Around} {t : Sem Flow} {Q : Flow → Shared → Prop} {E : Value → Shared → Prop} {s : Shared} {h₀ : Heap} {L : Addr} {m : Str → Option Value} {news : List (Addr × Obj)} (nm : Str) (v : Tok → Value)
    (F : Fr h₀ L s.heap m) (N : News h₀ L s.heap news) (w : wpAny M A t (JoinSt nm v h₀ L m s news) E s)
    (c : ∀ (u : Tok) (h' : Heap) (tk' : Nat), Fr h₀ L h' (fun y => if y = nm then some (v u) else m y) → News h₀ L h' news → Q .next { s with heap := h', toks := tk' }) : wpAny M A t Q E s :=
  wpAny_mono w (fun fl s' h => by
    obtain ⟨rfl, u, h', tk', rfl, F', N'⟩ := h
    exact c u h' tk' F' N') fun _ _ x => x
theorem same_map {m : Str → Option Value} {nm : Str} {x : Value} (hm : m nm = some x) : (fun y => if y = nm then some x else m y) = m := by
  funext y
  by_cases e : y = nm
  · rw [if_pos e, e, hm]
  · rw [if_neg e]
theorem Fr.same {h₀ h : Heap} {L : Addr} {m : Str → Option Value} {nm : Str} {x : Value} (F : Fr h₀ L h m) (hm : m nm = some x) : Fr h₀ L h (fun y => if y = nm then some x else m y) := by
  rw [same_map hm]; exact F
theorem has_of {x y : Str} (h : (Builtin.Str.occurrences x y 0 x.length 1).isEmpty = false) : Txt.contains x y = true := by
  unfold Txt.contains
  rw [h]
  rfl
theorem hasnt_of {x y : Str} (h : (Builtin.Str.occurrences x y 0 x.length 1).isEmpty = true) : Txt.contains x y = false := by
  unfold Txt.contains
  rw [h]
  rfl
theorem joinSt_new {nm : Str} {y z : Str} {t : Tok} {h₀ : Heap} {L : Addr} {m : Str → Option Value} {s : Shared} {news : List (Addr × Obj)} {h' : Heap} {tk' : Nat}
    (F : Fr h₀ L h' (fun k => if k = nm then some (.str z t) else m k)) (hy : y = z) (N : News h₀ L h' news) : JoinSt nm (fun u => .str y u) h₀ L m s news .next { s with heap := h', toks := tk' } := by
  subst hy
  exact ⟨rfl, t, h', tk', rfl, F, N⟩
theorem joinSt_old {nm : Str} {y z : Str} {t : Tok} {h₀ : Heap} {L : Addr} {m : Str → Option Value} {s : Shared} {news : List (Addr × Obj)} {h' : Heap} {tk' : Nat}
    (F : Fr h₀ L h' m) (hm : m nm = some (.str z t)) (hy : y = z) (N : News h₀ L h' news) : JoinSt nm (fun u => .str y u) h₀ L m s news .next { s with heap := h', toks := tk' } := by
  subst hy
  exact ⟨rfl, t, h', tk', rfl, Fr.same F hm, N⟩
theorem joinV_eq {x y : Str} {t : Tok} {h₀ : Heap} {L : Addr} {m : Str → Option Value} {s : Shared} {news : List (Addr × Obj)} {h' : Heap} {tk' : Nat} (hy : y = x) (F : Fr h₀ L h' m) (N : News h₀ L h' news) : JoinVal (fun u => .str y u) h₀ L m s news (.str x t) { s with heap := h', toks := tk' } := by
  subst hy
  exact ⟨t, h', tk', rfl, rfl, F, N⟩
def headF (body fl : Str) : Str := if (Txt.slice body none (some 1) == Str.ofString "-") = true then Str.ofString "-" else if Txt.contains fl (Str.ofString "+") = true then Str.ofString "+" else if Txt.contains fl (Str.ofString " ") = true then Str.ofString " " else Str.ofString ""
def digitsF (body : Str) : Str := if (Txt.slice body none (some 1) == Str.ofString "-") = true then Txt.slice body (some 1) none else body
def filledF (body fl : Str) (wd : Int) : Str := if Txt.contains fl (Str.ofString "0") = true ∧ Txt.contains fl (Str.ofString "-") = false then Txt.rjustF (digitsF body) (wd - ((headF body fl).length : Nat)) ((Str.ofString "0").cps.getD 0 0) else digitsF body
def signedF (body fl : Str) (wd : Int) : Str := padF (headF body fl ++ filledF body fl wd) fl wd
theorem len_of_list {x : Str} {l : List Nat} (h : x.cps.toList = l) : x.length = l.length := by
  show x.cps.size = _
  rw [← h, Array.length_toList]
theorem len_rjF (x : Str) (i : Int) (c : Nat) : (Txt.rjustF x i c).length = (i.toNat - x.length) + x.length := by
  rw [len_of_list (rjustF_list x i c), List.length_append, List.length_replicate, Array.length_toList]
  rfl
theorem len_app (x y : Str) : (x ++ y).length = x.length + y.length := Str.length_append x y
theorem len_m : (Str.ofString "-").length = 1 := by decide +kernel
theorem len_p : (Str.ofString "+").length = 1 := by decide +kernel
theorem len_b : (Str.ofString " ").length = 1 := by decide +kernel
theorem len_e : (Str.ofString "").length = 0 := by decide +kernel

inductive OnceH : Prop
  | mk
inductive OnceI : Prop
  | mk
section
variable {body fl : Str} {wd : Int}
theorem dg_yes (h : (Txt.slice body none (some 1) == Str.ofString "-") = true) : digitsF body = Txt.slice body (some 1) none := if_pos h
theorem dg_no (h : (Txt.slice body none (some 1) == Str.ofString "-") = false) : digitsF body = body := if_neg (by rw [h]; exact Bool.false_ne_true)
theorem hd_m (h : (Txt.slice body none (some 1) == Str.ofString "-") = true) : headF body fl = Str.ofString "-" := if_pos h
theorem hd_p (h : (Txt.slice body none (some 1) == Str.ofString "-") = false) (h1 : (Builtin.Str.occurrences fl (Str.ofString "+") 0 fl.length 1).isEmpty = false) : headF body fl = Str.ofString "+" := by
  unfold headF; rw [if_neg (by rw [h]; exact Bool.false_ne_true), if_pos (has_of h1)]
theorem hd_b (h : (Txt.slice body none (some 1) == Str.ofString "-") = false) (h1 : (Builtin.Str.occurrences fl (Str.ofString "+") 0 fl.length 1).isEmpty = true) (h2 : (Builtin.Str.occurrences fl (Str.ofString " ") 0 fl.length 1).isEmpty = false) : headF body fl = Str.ofString " " := by
  unfold headF; rw [if_neg (by rw [h]; exact Bool.false_ne_true), hasnt_of h1, if_neg Bool.false_ne_true, if_pos (has_of h2)]
theorem hd_e (h : (Txt.slice body none (some 1) == Str.ofString "-") = false) (h1 : (Builtin.Str.occurrences fl (Str.ofString "+") 0 fl.length 1).isEmpty = true) (h2 : (Builtin.Str.occurrences fl (Str.ofString " ") 0 fl.length 1).isEmpty = true) : headF body fl = Str.ofString "" := by
  unfold headF; rw [if_neg (by rw [h]; exact Bool.false_ne_true), hasnt_of h1, if_neg Bool.false_ne_true, hasnt_of h2, if_neg Bool.false_ne_true]
theorem headF_len : (headF body fl).length ≤ 1 := by
  unfold headF
  split
  · rw [len_m]; decide
  · split
    · rw [len_p]; decide
    · split
      · rw [len_b]; decide
      · rw [len_e]; decide
theorem fl_yes (h1 : (Builtin.Str.occurrences fl (Str.ofString "0") 0 fl.length 1).isEmpty = false) (h2 : (Builtin.Str.occurrences fl (Str.ofString "-") 0 fl.length 1).isEmpty = true) : filledF body fl wd = Txt.rjustF (digitsF body) (wd - ((headF body fl).length : Nat)) ((Str.ofString "0").cps.getD 0 0) := if_pos ⟨has_of h1, hasnt_of h2⟩
theorem fl_yes' {i : Int} (h1 : (Builtin.Str.occurrences fl (Str.ofString "0") 0 fl.length 1).isEmpty = false) (h2 : (Builtin.Str.occurrences fl (Str.ofString "-") 0 fl.length 1).isEmpty = true) (hi : i = wd - ((headF body fl).length : Nat)) : filledF body fl wd = Txt.rjustF (digitsF body) i ((Str.ofString "0").cps.getD 0 0) := by
  subst hi
  exact fl_yes h1 h2
theorem app_nil (x : Str) : x ++ Str.ofString "" = x := by rw [show Str.ofString "" = Str.empty from rfl, Str.append_empty]
theorem fl_no1 (h1 : (Builtin.Str.occurrences fl (Str.ofString "0") 0 fl.length 1).isEmpty = true) : filledF body fl wd = digitsF body := if_neg (by rw [hasnt_of h1]; rintro ⟨h, _⟩; cases h)
theorem fl_no2 (h2 : (Builtin.Str.occurrences fl (Str.ofString "-") 0 fl.length 1).isEmpty = false) : filledF body fl wd = digitsF body := if_neg (by rw [has_of h2]; rintro ⟨_, h⟩; cases h)
theorem digitsF_len (hb : body.length ≤ 100) : (digitsF body).length ≤ 100 := by
  unfold digitsF
  split
  · exact Nat.le_trans (Txt.slice_le _ _ _) hb
  · exact hb
theorem filledF_len (hb : body.length ≤ 100) (h1 : wd ≤ 8192) : (filledF body fl wd).length ≤ 8500 := by
  unfold filledF
  have := digitsF_len hb
  split
  · rw [len_rjF]; omega
  · omega
end
section
local macro_rules | `(tactic| cell_enter) => `(tactic| (refine' code_def ?k1 ?k2 ?k3 ?k4 ?k5 ?kA ?kF ?kK ?k6 ?k7 ?k8 ?k9 ?kB ?_ ?c2 ?c3 ?c4 ?c5; (case kA => exact rfl); (case kF => exact rfl); (case kK => assumption); (case k1 => k_asm); (case k2 => k_asm); (case k3 => k_asm); (case k4 => k_asm); (case k5 => k_asm); (case k6 => k_is); (case k7 => k_is); (case k8 => ktr_room); (case k9 => exact binds_K (by k_in) rfl (by k_is) rfl rfl rfl); (case c5 => decide); (case kB => exact locs rfl); (case c2 => exact rfl); (case c3 => exact rfl); (case c4 => exact rfl); k_whole; intro g' L' h' FG' F' N' B' X' T'; (try dsimp only); (try k_lift B'); (try k_fold)))
set_option maxHeartbeats 4000000 in
theorem signed_ok {w : World} {body : Str} {tb tm : Tok} {sx sd : Addr} {k0 k1 k2 k3 k4 : Tok} {fl : Str} {tf : Tok} {wd : Int} {tw : Tok} {pv : Value} {lt : Str} {tl : Tok} {wv : Value} {news : List (Addr × Obj)}
    (hs : (sx, instObj 443 sd) ∈ news) (hd : (sd, dictOf (specD w.params k0 k1 k2 k3 k4 fl tf wd tw pv lt tl wv) 5) ∈ news) (h0 : 0 ≤ wd) (h1 : wd ≤ 8192) (hb : body.length ≤ 100) :
    Ctr w 518 2 [.str body tb, .ref sx, .str (Str.ofString "") tm] news (RetV news fun t => .str (signedF body fl wd) t) := by
  unfold Ctr
  k_with_none
  k_with "binaryOp Add str str" => ((k_here; (with_reducible show wpAny _ _ (binaryOp Operator.Add (Value.str _ _) (Value.str _ _)) _ _ _); (refine SBL.add (hsz := (by (simp only [len_app, len_m, len_p, len_b, len_e, sizeLine_eq]; omega))) ?_); intro _ _ _))
  k_with "call ref" => ((k_here; (with_reducible show wpAny _ _ (call (Value.ref 510) [Value.str _ _, Value.ref _]) _ _ _); k_dflt (refine' Ctr.use (by k_asm) (by k_asm) (by k_asm) (by k_asm) (by k_asm) (by rfl) (padded_ok (by k_mem) (by k_mem) (by omega) (by omega)) (by (dsimp only; omega)) (by (dsimp only; omega)) ?_; intro t9 h9 tk9 F9 N9; (try dsimp only); (try k_fold))))
  k_with "call builtin:str.rjust" => ((k_here; (with_reducible show wpAny _ _ (call (Value.builtin "str.rjust") [Value.str _ _, Value.int _ _, Value.str _ _]) _ _ _); refine rjust_fill (padOk_of (by omega) (by omega)) (by decide +kernel) ?_; intro _ _))
  k_with "JoinVal" => (first | exact joinV_eq (dg_yes (by assumption)) (by assumption) (by assumption) | exact joinV_eq (dg_no (by assumption)) (by assumption) (by assumption))
  k_with "JoinSt" => (first | exact joinSt_new (by assumption) (by first | with_reducible rfl | exact hd_m (by assumption) | exact hd_p (by assumption) (by assumption) | exact hd_b (by assumption) (by assumption) (by assumption)) (by assumption) | (refine joinSt_new (by assumption) ?_ (by assumption); rw [app_nil]; exact fl_yes (by assumption) (by assumption)) | exact joinSt_old (by assumption) (by with_unfolding_all rfl) (by first | exact hd_e (by assumption) (by assumption) (by assumption) | exact fl_no1 (by assumption) | exact fl_no2 (by assumption)) (by assumption))
  k_fill
  intro mg mb mean loose dp un gd cn cs a ccd cl outer A₀ base h₀ L m s Q E B F X N T hk hdp hun hret
  have y4 := len_e
  have y1 : (headF body fl).length ≤ 1 := headF_len
  have y2 := digitsF_len hb
  have y3 : (filledF body fl wd).length ≤ 8500 := filledF_len hb h1
  refine wpAny_call ?_
  k_dflt cell_enter
  k_with "eval IfExp" => (fail_if_success (with_reducible show wpAny _ _ _ (JoinVal _ _ _ _ _ _) _ _)); refine join_val (fun u => .str (digitsF body) u) (by assumption) (by assumption) ?_ ?_; rotate_left; intro u9 h9 tk9 F9 N9; rotate_left
  k_with "exec If" => (fail_if_success (with_reducible show wpAny _ _ _ (JoinSt _ _ _ _ _ _ _) _ _)); first | ((fail_if_success (have : OnceH := by assumption)); refine join_store (Str.ofString "head") (fun u => .str (headF body fl) u) (by assumption) (by assumption) ?_ ?_; rotate_left; intro u9 h9 tk9 F9 N9; have mk9 : OnceH := .mk; rotate_left; have mk9 : OnceH := .mk) | ((fail_if_success (have : OnceI := by assumption)); (with_reducible show wpAny _ _ (exec (Stmt.If (Expr.BoolOp _ _ _) _ _ _) _) _ _ _); refine join_store (Str.ofString "digits") (fun u => .str (filledF body fl wd) u) (by assumption) (by assumption) ?_ ?_; rotate_left; intro u9 h9 tk9 F9 N9; have mk9 : OnceI := .mk; rotate_left)
  k_steps
  all_goals first | exact cb_retS hret (by rw [app_nil]; rfl) (by assumption) (by assumption)
end
theorem big_no {n : Int} (h0 : -1000000 < n) (h1 : n < 1000000) : decide ((10 : Int) ^ Int.toNat 18 ≤ if n < 0 then -n else n) = false := by
  rw [show (10 : Int) ^ Int.toNat 18 = 1000000000000000000 from by decide, decide_eq_false_iff_not]
  split <;> omega
def numT (n : Int) : Str := Str.ofString (toString (if n < 0 then -n else n))
def wholeF (n : Int) : Str := if n < 0 then Str.ofString "-" ++ numT n else numT n
theorem len_numT {n : Int} (h0 : -1000000 < n) (h1 : n < 1000000) : (Str.ofString (toString (if n < 0 then -n else n))).length ≤ 10 := by
  refine KT.len_num ?_ ?_
  · split <;> omega
  · have : (10 : Int) ^ 10 = 10000000000 := by decide
    rw [this]
    split <;> omega
theorem drop1 {h₀ h : Heap} {L : Addr} {p : Addr × Obj} {n : List (Addr × Obj)} (N : News h₀ L h (p :: n)) : News h₀ L h n := fun q hq => N q (.tail _ hq)
theorem join1 (x : Str) : Txt.join (Str.ofString "") [x] = x := by
  show Builtin.Str.glued _ _ = _
  rw [StrLaws.glued_eq_join]
  rfl
theorem join2 (x y : Str) : Txt.join (Str.ofString "") [x, y] = x ++ y := by
  show Builtin.Str.glued _ _ = _
  rw [StrLaws.glued_eq_join]
  show x ++ Str.ofString "" ++ y = x ++ y
  rw [show Str.ofString "" = Str.empty from rfl, Str.append_empty]
section
set_option maxHeartbeats 4000000 in
theorem whole_text_ok {w : World} {n : Int} {tn : Tok} {news : List (Addr × Obj)} (h0 : -1000000 < n) (h1 : n < 1000000) :
    Ctr w 150 1 [.int n tn] news (RetV news fun t => .str (wholeF n) t) := by
  unfold Ctr
  k_with_none
  k_with "call builtin:str.join" => ((k_here; (with_reducible show wpAny _ _ (call (Value.builtin "str.join") [Value.str _ _, Value.ref _]) _ _ _); k_dflt (refine' join_list (by is_list) (by (first | kct_strs | (simp only [List.toList_toArray]; kct_strs))) (by (simp only [List.map_cons, List.map_nil, List.sum_cons, List.sum_nil, List.length_cons, List.length_nil, len_m, len_e]; omega)) ?_; intro t9 k9)))
  k_with "WhlIf" => ((rw [big_no (by assumption) (by assumption)]; dsimp only [WhlIf]))
  k_fill
  intro mg mb mean loose dp un gd cn cs a ccd cl outer A₀ base h₀ L m s Q E B F X N T hk hdp hun hret
  have hlen := len_numT h0 h1
  refine wpAny_call ?_
  k_dflt cell_enter
  k_steps
  · have hn : n < 0 := by assumption
    refine cb_retS hret ?_ (by assumption) (drop1 (by assumption))
    rw [join2]; simp only [wholeF, numT, if_pos hn]
  · have hn : ¬ n < 0 := by assumption
    refine cb_retS hret ?_ (by assumption) (drop1 (by assumption))
    rw [join1]; simp only [wholeF, numT, if_neg hn]
end
theorem len_wholeF {n : Int} (h0 : -1000000 < n) (h1 : n < 1000000) : (wholeF n).length ≤ 11 := by
  have h : (numT n).length ≤ 10 := len_numT h0 h1
  by_cases hn : n < 0
  · rw [show wholeF n = Str.ofString "-" ++ numT n from if_pos hn, len_app, len_m]; omega
  · rw [show wholeF n = numT n from if_neg hn]; omega
local macro_rules | `(tactic| k_room) => `(tactic| ktr_room)
section
set_option maxHeartbeats 4000000 in
theorem whole_none_ok {w : World} {ti : Tok} {sx sd : Addr} {k0 k1 k2 k3 k4 : Tok} {fl : Str} {tf : Tok} {wd : Int} {tw : Tok} {pv : Value} {lt : Str} {tl : Tok} {wv : Value} {news : List (Addr × Obj)}
    (hs : (sx, instObj 443 sd) ∈ news) (hd : (sd, dictOf (specD w.params k0 k1 k2 k3 k4 fl tf wd tw pv lt tl wv) 5) ∈ news) (h0 : 0 ≤ wd) (h1 : wd ≤ 8192) :
    Ctr w 546 3 [.str (Str.ofString "integer") ti, .none, .ref sx] news (RetV news fun t => .str (padF (Str.ofString "NA") fl wd) t) := by
  unfold Ctr
  k_with_none
  k_with "call ref" => ((k_here; (with_reducible show wpAny _ _ (call (Value.ref 510) [Value.str _ _, Value.ref _]) _ _ _); k_dflt (refine' Ctr.use (by k_asm) (by k_asm) (by k_asm) (by k_asm) (by k_asm) (by rfl) (padded_ok (by k_mem) (by k_mem) (by omega) (by omega)) (by (dsimp only; omega)) (by (dsimp only; omega)) ?_; intro t9 h9 tk9 F9 N9; (try dsimp only); (try k_fold))))
  k_with "call ref" => ((k_here; (with_reducible show wpAny _ _ (call (Value.ref 518) [Value.str _ _, Value.ref _, Value.str _ _]) _ _ _); k_dflt (refine' Ctr.use (by k_asm) (by k_asm) (by k_asm) (by k_asm) (by k_asm) (by rfl) (signed_ok (by k_mem) (by k_mem) (by omega) (by omega) (by omega)) (by (dsimp only; omega)) (by (dsimp only; omega)) ?_; intro t9 h9 tk9 F9 N9; (try dsimp only); (try k_fold))))
  k_with "call ref" => ((k_here; (with_reducible show wpAny _ _ (call (Value.ref 150) [Value.int _ _]) _ _ _); k_dflt (refine' Ctr.use (by k_asm) (by k_asm) (by k_asm) (by k_asm) (by k_asm) (by rfl) (whole_text_ok (by omega) (by omega)) (by (dsimp only; omega)) (by (dsimp only; omega)) ?_; intro t9 h9 tk9 F9 N9; (try dsimp only); (try k_fold))))
  k_fill
  intro mg mb mean loose dp un gd cn cs a ccd cl outer A₀ base h₀ L m s Q E B F X N T hk hdp hun hret
  refine wpAny_call ?_
  k_dflt cell_enter
  k_steps
  exact cb_retS hret rfl (by assumption) (by first | assumption | exact drop1 (by assumption) | exact drop1 (drop1 (by assumption)))
set_option maxHeartbeats 4000000 in
theorem whole_int_ok {w : World} {n : Int} {tn ti : Tok} {sx sd : Addr} {k0 k1 k2 k3 k4 : Tok} {fl : Str} {tf : Tok} {wd : Int} {tw : Tok} {lt : Str} {tl : Tok} {wv : Value} {news : List (Addr × Obj)}
    (hs : (sx, instObj 443 sd) ∈ news) (hd : (sd, dictOf (specD w.params k0 k1 k2 k3 k4 fl tf wd tw .none lt tl wv) 5) ∈ news) (h0 : 0 ≤ wd) (h1 : wd ≤ 8192) (hn0 : -1000000 < n) (hn1 : n < 1000000)
    (hl : (Builtin.Str.occurrences (Str.ofString "di") lt 0 (Str.ofString "di").length 1).isEmpty = false) (hf : (Builtin.Str.occurrences fl (Str.ofString "#") 0 fl.length 1).isEmpty = true) :
    Ctr w 546 3 [.str (Str.ofString "integer") ti, .int n tn, .ref sx] news (RetV news fun t => .str (signedF (wholeF n) fl wd) t) := by
  unfold Ctr
  k_with_none
  k_with "call ref" => ((k_here; (with_reducible show wpAny _ _ (call (Value.ref 510) [Value.str _ _, Value.ref _]) _ _ _); k_dflt (refine' Ctr.use (by k_asm) (by k_asm) (by k_asm) (by k_asm) (by k_asm) (by rfl) (padded_ok (by k_mem) (by k_mem) (by omega) (by omega)) (by (dsimp only; omega)) (by (dsimp only; omega)) ?_; intro t9 h9 tk9 F9 N9; (try dsimp only); (try k_fold))))
  k_with "call ref" => ((k_here; (with_reducible show wpAny _ _ (call (Value.ref 518) [Value.str _ _, Value.ref _, Value.str _ _]) _ _ _); k_dflt (refine' Ctr.use (by k_asm) (by k_asm) (by k_asm) (by k_asm) (by k_asm) (by rfl) (signed_ok (by k_mem) (by k_mem) (by omega) (by omega) (by omega)) (by (dsimp only; omega)) (by (dsimp only; omega)) ?_; intro t9 h9 tk9 F9 N9; (try dsimp only); (try k_fold))))
  k_with "call ref" => ((k_here; (with_reducible show wpAny _ _ (call (Value.ref 150) [Value.int _ _]) _ _ _); k_dflt (refine' Ctr.use (by k_asm) (by k_asm) (by k_asm) (by k_asm) (by k_asm) (by rfl) (whole_text_ok (by omega) (by omega)) (by (dsimp only; omega)) (by (dsimp only; omega)) ?_; intro t9 h9 tk9 F9 N9; (try dsimp only); (try k_fold))))
  k_fill
  intro mg mb mean loose dp un gd cn cs a ccd cl outer A₀ base h₀ L m s Q E B F X N T hk hdp hun hret
  have hlen := len_wholeF hn0 hn1
  refine wpAny_call ?_
  k_dflt cell_enter
  k_steps
  exact cb_retS hret rfl (by assumption) (by first | assumption | exact drop1 (by assumption) | exact drop1 (drop1 (by assumption)))
end
def signAt (x : Str) (i : Int) : Str := Txt.slice x (some i) (some (i + 1))
/-- the digits from a to e, and no further -/
structure DigRun (x : Str) (a e : Int) : Prop where
  lo : 0 ≤ a
  le : a ≤ e
  five : e ≤ a + 5
  fit : x.length ≤ 500
  hi : e ≤ x.length
  on : ∀ i : Int, a ≤ i → i < e → digB (Txt.slice x (some i) (some (i + 1))) = true
  off : digB (Txt.slice x (some e) (some (e + 1))) = false
theorem DigRun.lt {x : Str} {a e i : Int} (D : DigRun x a e) (h2 : i ≤ e) (h : digB (Txt.slice x (some i) (some (i + 1))) = true) : i < e := by
  rcases Int.lt_or_eq_of_le h2 with q | q
  · exact q
  · subst q
    rw [D.off] at h
    cases h
theorem ite_true_of {c : Prop} [Decidable c] {b : Bool} (h : (if c then b else false) = true) : b = true := by
  split at h
  · exact h
  · cases h
theorem ite_false_of {c : Prop} [Decidable c] {b : Bool} (hc : c) (h : (if c then b else false) = false) : b = false := by
  rw [if_pos hc] at h
  exact h
theorem DigRun.step {x : Str} {a e i : Int} (D : DigRun x a e) (h1 : a ≤ i) (h2 : i ≤ e) (h : (if (Txt.slice x (some i) (some (i + 1))).length ≤ x.length then digB (Txt.slice x (some i) (some (i + 1))) else false) = true) : a ≤ i + 1 ∧ i + 1 ≤ e := by
  have := D.lt h2 (ite_true_of h)
  omega
theorem DigRun.less {x : Str} {a e i : Int} (D : DigRun x a e) (h1 : a ≤ i) (h2 : i ≤ e) (h : (if (Txt.slice x (some i) (some (i + 1))).length ≤ x.length then digB (Txt.slice x (some i) (some (i + 1))) else false) = true) : (e - (i + 1)).toNat < (e - i).toNat := by
  have := D.lt h2 (ite_true_of h)
  omega
theorem DigRun.end_ {x : Str} {a e i : Int} (D : DigRun x a e) (h1 : a ≤ i) (h2 : i ≤ e) (h : (if (Txt.slice x (some i) (some (i + 1))).length ≤ x.length then digB (Txt.slice x (some i) (some (i + 1))) else false) = false) : i = e := by
  rcases Int.lt_or_eq_of_le h2 with q | q
  · have h := ite_false_of (Txt.slice_le _ _ _) h
    rw [D.on i h1 q] at h
    cases h
  · exact q
/-- a tuple comes back, the one new thing that is kept -/
abbrev RetT (news : List (Addr × Obj)) (R : Tok → Tok → Array Value) (h₀ : Heap) (L : Addr) (m : Str → Option Value) (s : Shared) (Q : Value → Shared → Prop) : Prop :=
  ∀ (tp : Addr) (t t' : Tok) (h' : Heap) (tk' : Nat), Fr h₀ L h' m → News h₀ L h' ((tp, { cls := .type "tuple", data := .seq (R t t') }) :: news) → (∀ p ∈ news, p.1 < tp) → Q (.ref tp) { s with heap := h', toks := tk' }
section
set_option maxHeartbeats 4000000 in
theorem digits_none_ok {w : World} {x : Str} {tx ta : Tok} {i0 : Int} {news : List (Addr × Obj)} (D : DigRun x i0 i0) :
    Ctr w 461 2 [.str x tx, .int i0 ta] news (RetT news fun _ t => #[.none, .int i0 t]) := by
  unfold Ctr
  k_with_none
  k_with "exec If" => ((k_here; exfalso; omega))
  k_with "call ref" => ((k_here; (with_reducible show wpAny _ _ (call (Value.ref 454) [Value.str _ _]) _ _ _); k_dflt (refine' Ctr.use (by k_asm) (by k_asm) (by k_asm) (by k_asm) (by k_asm) (by rfl) is_digit_ok (by (dsimp only; omega)) (by (dsimp only; omega)) ?_; intro t9 h9 tk9 F9 N9; (try dsimp only); (try k_fold))))
  k_fill
  intro mg mb mean loose dp un gd cn cs a ccd cl outer A₀ base h₀ L m s Q E B F X N T hk hdp hun hret
  have d1 := D.lo
  have d2 := D.fit
  have d3 := D.hi
  refine wpAny_call ?_
  k_dflt cell_enter
  k_with "exec While Call cons nil" => k_while (fun (_ : List Int) (i : Int) => i0 ≤ i ∧ i ≤ i0) (fun (_ : List Int) (i : Int) => (i0 - i).toNat) "end"
  k_with "state" => exact DigRun.step (by assumption) (by assumption) (by assumption) (by assumption)
  k_with "measure" => exact DigRun.less (by assumption) (by assumption) (by assumption) (by assumption)
  k_steps
  exact hret _ 0 _ _ _ (by assumption) (by assumption) (by assumption)
set_option maxHeartbeats 4000000 in
theorem digits_some_ok {w : World} {x : Str} {tx ta : Tok} {i0 e v : Int} {news : List (Addr × Obj)} (D : DigRun x i0 e) (hlt : i0 < e) (hv : PySem.intText? (Txt.slice x (some i0) (some e)) = some v) :
    Ctr w 461 2 [.str x tx, .int i0 ta] news (RetT news fun t t' => #[.int v t, .int e t']) := by
  unfold Ctr
  k_with_none
  k_with "exec If" => ((k_here; exfalso; omega))
  k_with "call ref" => ((k_here; (with_reducible show wpAny _ _ (call (Value.ref 454) [Value.str _ _]) _ _ _); k_dflt (refine' Ctr.use (by k_asm) (by k_asm) (by k_asm) (by k_asm) (by k_asm) (by rfl) is_digit_ok (by (dsimp only; omega)) (by (dsimp only; omega)) ?_; intro t9 h9 tk9 F9 N9; (try dsimp only); (try k_fold))))
  k_with "call type:int" => ((k_here; (with_reducible show wpAny _ _ (call (Value.type "int") [Value.str _ _]) _ _ _); (have he := DigRun.end_ (by assumption) (by assumption) (by assumption) (by assumption)); rw [he]; refine KIN.call_text (by assumption) (Nat.le_trans (Txt.slice_le _ _ _) (by omega)) ?_))
  k_fill
  intro mg mb mean loose dp un gd cn cs a ccd cl outer A₀ base h₀ L m s Q E B F X N T hk hdp hun hret
  have d1 := D.lo
  have d2 := D.fit
  have d3 := D.hi
  have d4 := D.five
  refine wpAny_call ?_
  k_dflt cell_enter
  k_with "exec While Call cons nil" => k_while (fun (_ : List Int) (i : Int) => i0 ≤ i ∧ i ≤ e) (fun (_ : List Int) (i : Int) => (e - i).toNat) "end"
  k_with "state" => exact DigRun.step (by assumption) (by assumption) (by assumption) (by assumption)
  k_with "measure" => exact DigRun.less (by assumption) (by assumption) (by assumption) (by assumption)
  k_steps
  · exact absurd (DigRun.end_ D (by assumption) (by assumption) (by assumption)) (by omega)
  · have he := DigRun.end_ D (by assumption) (by assumption) (by assumption)
    exact hret _ _ _ _ _ (by assumption) (by rw [← he]; assumption) (by assumption)
end
inductive DigCase (x : Str) (a e : Int) : Option Int → Prop
  | none (D : DigRun x a a) (h : e = a) : DigCase x a e none
  | some (v : Int) (D : DigRun x a e) (h : a < e) (hv : PySem.intText? (Txt.slice x (some a) (some e)) = some v) (hlo : 0 ≤ v) (hhi : v ≤ 8192) : DigCase x a e (some v)
theorem digits_ok {w : World} {x : Str} {tx ta : Tok} {i0 e : Int} {o : Option Int} {news : List (Addr × Obj)} (C : DigCase x i0 e o) :
    Ctr w 461 2 [.str x tx, .int i0 ta] news (RetT news fun t t' => #[optV o t, .int e t']) := by
  intro mg mb mean loose dp un gd cn cs a ccd cl outer A₀ base h₀ L m s Q E B F X N T hk hdp hun hret
  cases C with
  | none D h =>
    subst h
    exact digits_none_ok D _ _ _ _ _ _ _ _ _ _ _ _ _ _ _ _ _ _ _ _ _ B F X N T hk hdp hun (fun tp t t' => hret tp t t')
  | some v D h hv hlo hhi => exact digits_some_ok D h hv _ _ _ _ _ _ _ _ _ _ _ _ _ _ _ _ _ _ _ _ _ B F X N T hk hdp hun (fun tp t t' => hret tp t t')
theorem DigCase.bound {x : Str} {a e : Int} {o : Option Int} (C : DigCase x a e o) : 0 ≤ o.getD 0 ∧ o.getD 0 ≤ 8192 := by
  cases C with
  | none => exact ⟨by decide, by decide⟩
  | some v D h hv hlo hhi => exact ⟨hlo, hhi⟩

def flagB (x : Str) : Bool := Txt.contains (Str.ofString "-+ 0#") x
/-- the flags from a to e, and no further -/
structure FlagRun (x : Str) (a e : Int) : Prop where
  lo : 0 ≤ a
  le : a ≤ e
  fit : x.length ≤ 500
  hi : e < x.length
  on : ∀ i : Int, a ≤ i → i < e → flagB (Txt.item x i) = true
  off : flagB (Txt.item x e) = false

theorem FlagRun.lt {x : Str} {a e i : Int} (D : FlagRun x a e) (h2 : i ≤ e) (h : (Builtin.Str.occurrences (Str.ofString "-+ 0#") (Txt.item x i) 0 (Str.ofString "-+ 0#").length 1).isEmpty = false) : i < e := by
  rcases Int.lt_or_eq_of_le h2 with q | q
  · exact q
  · subst q
    have := D.off
    unfold flagB Txt.contains at this
    rw [h] at this
    cases this
theorem FlagRun.end_ {x : Str} {a e i : Int} (D : FlagRun x a e) (h1 : a ≤ i) (h2 : i ≤ e) (h : (Builtin.Str.occurrences (Str.ofString "-+ 0#") (Txt.item x i) 0 (Str.ofString "-+ 0#").length 1).isEmpty = true) : i = e := by
  rcases Int.lt_or_eq_of_le h2 with q | q
  · have := D.on i h1 q
    unfold flagB Txt.contains at this
    rw [h] at this
    cases this
  · exact q
theorem FlagRun.start {x : Str} {a e : Int} (D : FlagRun x a e) : a ≤ a ∧ a ≤ e ∧ Str.ofString "" = Txt.slice x (some a) (some a) := ⟨Int.le_refl _, D.le, slice_start x D.lo (by have := D.le; have := D.hi; omega)⟩
theorem FlagRun.step {x : Str} {a e i : Int} {f : Str} (D : FlagRun x a e) (h1 : a ≤ i) (h2 : i ≤ e) (hf : f = Txt.slice x (some a) (some i)) (h : (Builtin.Str.occurrences (Str.ofString "-+ 0#") (Txt.item x i) 0 (Str.ofString "-+ 0#").length 1).isEmpty = false) :
    a ≤ i + 1 ∧ i + 1 ≤ e ∧ f ++ Txt.item x i = Txt.slice x (some a) (some (i + 1)) := by
  have l := D.lt h2 h
  have l0 := D.lo
  have lh := D.hi
  refine ⟨by omega, by omega, ?_⟩
  rw [hf]
  exact slice_snoc x l0 h1 (by omega)
theorem FlagRun.less {x : Str} {a e i : Int} (D : FlagRun x a e) (h1 : a ≤ i) (h2 : i ≤ e) (h : (Builtin.Str.occurrences (Str.ofString "-+ 0#") (Txt.item x i) 0 (Str.ofString "-+ 0#").length 1).isEmpty = false) : (e - (i + 1)).toNat < (e - i).toNat := by
  have := D.lt h2 h
  omega
theorem FlagRun.some {x : Str} {a e i : Int} {P : Prop} (D : FlagRun x a e) (h1 : a ≤ i) (h2 : i ≤ e) (h : (Txt.slice x (some i) (some (i + 1)) != Str.ofString "") = false) : P := by
  have l0 := D.lo
  have lh := D.hi
  rw [slice_some x (by omega) (by omega)] at h
  cases h

theorem flag_fits {f x : Str} {a b i : Int} (hf : f = Txt.slice x (some a) (some b)) (d : x.length ≤ 500) : f.length + (Txt.item x i).length ≤ sizeLine := by
  have l := Txt.slice_le x (some a) (some b)
  rw [← hf] at l
  have e : (Txt.item x i).length = 1 := rfl
  rw [e, sizeLine_eq]
  omega
theorem item_any {prog : Program} {w : World} {A : Around} {E : Value → Shared → Prop} {s : Shared} {value slice : PySem.Expr} {x : PySem.Str} {t u : Tok} {i : Int} {Q : Value → Shared → Prop} (h0 : 0 ≤ i) (h1 : i < x.length) (hn : x.length ≤ 500) (h : Q (.str (Txt.item x i) s.toks) { s with toks := s.toks + 1 })
    (hs : subscripted slice false (.str x t) (.int i u) = operate [.str x t, .int i u] (getItem (.str x t) (.int i u)) := by with_unfolding_all rfl)
    (ht : ∀ r, letTemporaryGo value (.str x t) r = pure () := by intro _; with_unfolding_all rfl) :
    wpAny (model prog w) A (subscriptTail value slice (.str x t) (.int i u)) Q E s :=
  item_str (fitsSsize_of (N := 9223372036854775808) (by omega) (by omega) (Int.le_refl _)) (by omega) (by omega) (fun e => h) hs ht

/-- a Spec and the place behind it come back -/
abbrev RetSpec (P : Params) (news : List (Addr × Obj)) (fl : Str) (wd : Int) (pv : Tok → Value) (lt : Str) (e : Int) (h₀ : Heap) (L : Addr) (m : Str → Option Value) (s : Shared) (Q : Value → Shared → Prop) : Prop :=
  ∀ (tp sx sd : Addr) (k0 k1 k2 k3 k4 tf tw tv tl te : Tok) (h' : Heap) (tk' : Nat), Fr h₀ L h' m →
    News h₀ L h' ((tp, { cls := .type "tuple", data := .seq #[.ref sx, .int e te] }) :: (sx, instObj 443 sd) :: (sd, dictOf (specD P k0 k1 k2 k3 k4 fl tf wd tw (pv tv) lt tl .none) 5) :: news) →
    (∀ p ∈ news, p.1 < sd) → sd < sx → sx < tp → Q (.ref tp) { s with heap := h', toks := tk' }
theorem mem_three {α : Type} {a b c : α} {n r : List α} (ha : a ∈ r) (hb : b ∈ r) (hc : c ∈ r) (hn : ∀ p ∈ n, p ∈ r) : ∀ p ∈ a :: b :: c :: n, p ∈ r := by
  intro p hp
  rcases List.mem_cons.mp hp with rfl | hp
  · exact ha
  rcases List.mem_cons.mp hp with rfl | hp
  · exact hb
  rcases List.mem_cons.mp hp with rfl | hp
  · exact hc
  exact hn p hp
section
set_option maxHeartbeats 8000000 in
theorem read_spec_ok {w : World} {x : Str} {tx ta : Tok} {src : Addr} {i0 e0 e1 e2 : Int} {o0 o1 : Option Int} {news : List (Addr × Obj)}
    (C0 : DigCase x i0 e0 o0) (hdol : (Txt.slice x (some e0) (some (e0 + 1)) == Str.ofString "$") = false)
    (G : FlagRun x i0 e1) (hstar : (Txt.slice x (some e1) (some (e1 + 1)) == Str.ofString "*") = false)
    (C1 : DigCase x e1 e2 o1) (he2 : 0 ≤ e2) (he2' : e2 < x.length) (hlet0 : (Txt.slice x (some e2) (some (e2 + 1)) == Str.ofString "") = false) (hlet1 : (Builtin.Str.occurrences (Str.ofString "dioxXfeEgGs%") (Txt.slice x (some e2) (some (e2 + 1))) 0 (Str.ofString "dioxXfeEgGs%").length 1).isEmpty = false) (hdot : (Txt.slice x (some e2) (some (e2 + 1)) == Str.ofString ".") = false) :
    Ctr w 503 3 [.str x tx, .int i0 ta, .ref src] news (RetSpec w.params news (Txt.slice x (some i0) (some e1)) (o1.getD 0) (fun _ => .none) (Txt.slice x (some e2) (some (e2 + 1))) (e2 + 1)) := by
  unfold Ctr
  k_with_none
  k_with "call ref" => ((k_here; (with_reducible show wpAny _ _ (call (Value.ref 461) [Value.str _ _, Value.int _ _]) _ _ _); k_dflt (refine' Ctr.use (by k_asm) (by k_asm) (by k_asm) (by k_asm) (by k_asm) (by rfl) (digits_ok (by assumption)) (by (dsimp only; omega)) (by (dsimp only; omega)) ?_; intro tp9 ta9 tb9 h9 tk9 F9 N9 l9; (try k_lt l9); (try dsimp only); (try k_fold))))
  k_with "compareOp IsNot" => ((k_here; (with_reducible show wpAny _ _ (compareOp CmpOp.IsNot (optV _ _) Value.none) _ _ _); refine isNot_optV (fun ho9 => ?_) (fun v9 ho9 => ?_)))
  k_with "compareOp Is" => ((k_here; (with_reducible show wpAny _ _ (compareOp CmpOp.Is (optV _ _) Value.none) _ _ _); refine is_optV (fun ho9 => ?_) (fun v9 ho9 => ?_)))
  k_with "JoinPost" => (exact ⟨rfl, _, _, rfl, by assumption, by assumption⟩)
  k_with "JoinVal" => (first | exact ⟨_, _, _, (by (rename (_ = none) => ho9); rw [ho9]; rfl), rfl, by assumption, by assumption⟩ | exact ⟨_, _, _, (by (rename (_ = some _) => ho9); rw [ho9]; rfl), rfl, by assumption, by assumption⟩)
  k_with "subscriptTail Name Name str int" => ((k_here; (with_reducible show wpAny _ _ (subscriptTail _ _ (Value.str _ _) (Value.int _ _)) _ _ _); refine item_any (by omega) (by omega) (by omega) ?_))
  k_with "inplaceOp Add str str" => ((k_here; (refine SBL.iadd (hsz := (by exact flag_fits (by assumption) (by assumption))) ?_); intro _ _ _))
  k_with "exec If" => ((k_here; first | exact FlagRun.some (by assumption) (by assumption) (by assumption) (by assumption) | ((have he9 := FlagRun.end_ (by assumption) (by assumption) (by assumption) (by assumption)); subst he9)))
  k_with "KswEnd" => (((rename News _ _ _ _ => nE'); (refine' ksw_end ⟨_, _, _, _⟩ (by assumption) nE' (by (intro p9 h9; exact h9)) (by kst_facts) (by kst_all) (by ksw_same) (by kst_p) (by ksw_less))))
  k_fill
  intro mg mb mean loose dp un gd cn cs a ccd cl outer A₀ base h₀ L m s Q E B F X N T hk hdp hun hret
  have d1 := G.lo
  have d2 := G.fit
  have d3 := G.hi
  have d4 := G.le
  refine wpAny_call ?_
  k_dflt cell_enter
  have w1 := C1.bound
  k_with "exec If BoolOp cons" => (fail_if_success (with_reducible show wpAny _ _ _ (JoinPost _ _ _ _ _) _ _)); refine join_stmt (by assumption) (by assumption) ?_ ?_; rotate_left; intro h9 tk9 F9 N9; rotate_left
  k_with "eval IfExp" => (fail_if_success (with_reducible show wpAny _ _ _ (JoinVal _ _ _ _ _ _) _ _)); refine join_val (fun u => .int (o1.getD 0) u) (by assumption) (by assumption) ?_ ?_; rotate_left; intro u9 h9 tk9 F9 N9; rotate_left
  k_with "exec While BoolOp cons nil" => k_while (fun (_ : List Int) (i : Int) (f : PySem.Str) => i0 ≤ i ∧ i ≤ e1 ∧ f = Txt.slice x (some i0) (some i)) (fun (_ : List Int) (i : Int) (_ : PySem.Str) => (e1 - i).toNat) "at" "spec.flags"
  k_with "state" => first | with_reducible exact FlagRun.start (by assumption) | with_reducible exact FlagRun.step (by assumption) (by assumption) (by assumption) (by assumption) (by assumption)
  k_with "measure" => exact FlagRun.less (by assumption) (by assumption) (by assumption) (by assumption)
  k_steps
  all_goals (
    (rename (_ = Txt.slice _ _ _) => hf9); subst hf9
    refine hret _ _ _ _ _ _ _ _ _ _ 0 _ _ _ _ (by assumption) (mem_sub (by assumption) (mem_three (by k_mem) (by k_mem) (by k_mem) (fun p hp => by k_mem))) (by first | assumption | exact ktn_ltOf (by assumption)) (ltN (by omega)) (ltN (by omega)))
end
inductive OnceA : Prop
  | mk
inductive OnceB : Prop
  | mk
theorem digits_v_ok {w : World} {x : Str} {tx ta : Tok} {i0 e v : Int} {news : List (Addr × Obj)} (C : DigCase x i0 e (some v)) :
    Ctr w 461 2 [.str x tx, .int i0 ta] news (RetT news fun t t' => #[.int v t, .int e t']) := digits_ok C
section
set_option maxHeartbeats 4000000 in
theorem read_dot_ok {w : World} {x : Str} {tx ta : Tok} {src : Addr} {i0 e0 e1 e2 e3 v2 : Int} {o0 o1 : Option Int} {news : List (Addr × Obj)}
    (C0 : DigCase x i0 e0 o0) (hdol : (Txt.slice x (some e0) (some (e0 + 1)) == Str.ofString "$") = false)
    (G : FlagRun x i0 e1) (hstar : (Txt.slice x (some e1) (some (e1 + 1)) == Str.ofString "*") = false)
    (C1 : DigCase x e1 e2 o1) (he2 : 0 ≤ e2) (hdot : (Txt.slice x (some e2) (some (e2 + 1)) == Str.ofString ".") = true) (hstar2 : (Txt.slice x (some (e2 + 1)) (some (e2 + 1 + 1)) == Str.ofString "*") = false) (C2 : DigCase x (e2 + 1) e3 (some v2)) (he3 : 0 ≤ e3) (he3' : e3 < x.length) (hlet0 : (Txt.slice x (some e3) (some (e3 + 1)) == Str.ofString "") = false) (hlet1 : (Builtin.Str.occurrences (Str.ofString "dioxXfeEgGs%") (Txt.slice x (some e3) (some (e3 + 1))) 0 (Str.ofString "dioxXfeEgGs%").length 1).isEmpty = false) :
    Ctr w 503 3 [.str x tx, .int i0 ta, .ref src] news (RetSpec w.params news (Txt.slice x (some i0) (some e1)) (o1.getD 0) (fun t => .int v2 t) (Txt.slice x (some e3) (some (e3 + 1))) (e3 + 1)) := by
  unfold Ctr
  k_with_none
  k_with "call ref" => ((k_here; (with_reducible show wpAny _ _ (call (Value.ref 461) [Value.str _ _, Value.int _ _]) _ _ _); k_dflt (refine' Ctr.use (by k_asm) (by k_asm) (by k_asm) (by k_asm) (by k_asm) (by rfl) (digits_ok (by assumption)) (by (dsimp only; omega)) (by (dsimp only; omega)) ?_; intro tp9 ta9 tb9 h9 tk9 F9 N9 l9; (try k_lt l9); (try dsimp only); (try k_fold))))
  k_with "call ref" => ((k_here; (with_reducible show wpAny _ _ (call (Value.ref 461) [Value.str _ _, Value.int _ _]) _ _ _); k_dflt (refine' Ctr.use (by k_asm) (by k_asm) (by k_asm) (by k_asm) (by k_asm) (by rfl) (digits_v_ok (by assumption)) (by (dsimp only; omega)) (by (dsimp only; omega)) ?_; intro tp9 ta9 tb9 h9 tk9 F9 N9 l9; (try k_lt l9); (try dsimp only); (try k_fold))))
  k_with "compareOp IsNot" => ((k_here; (with_reducible show wpAny _ _ (compareOp CmpOp.IsNot (optV _ _) Value.none) _ _ _); refine isNot_optV (fun ho9 => ?_) (fun v9 ho9 => ?_)))
  k_with "compareOp Is" => ((k_here; (with_reducible show wpAny _ _ (compareOp CmpOp.Is (optV _ _) Value.none) _ _ _); refine is_optV (fun ho9 => ?_) (fun v9 ho9 => ?_)))
  k_with "JoinPost" => (exact ⟨rfl, _, _, rfl, by assumption, by assumption⟩)
  k_with "JoinVal" => (first | exact ⟨_, _, _, (by (rename (_ = none) => ho9); rw [ho9]; rfl), rfl, by assumption, by assumption⟩ | exact ⟨_, _, _, (by (rename (_ = some _) => ho9); rw [ho9]; rfl), rfl, by assumption, by assumption⟩)
  k_with "subscriptTail Name Name str int" => ((k_here; (with_reducible show wpAny _ _ (subscriptTail _ _ (Value.str _ _) (Value.int _ _)) _ _ _); refine item_any (by omega) (by omega) (by omega) ?_))
  k_with "inplaceOp Add str str" => ((k_here; (refine SBL.iadd (hsz := (by exact flag_fits (by assumption) (by assumption))) ?_); intro _ _ _))
  k_with "exec If" => ((k_here; first | exact FlagRun.some (by assumption) (by assumption) (by assumption) (by assumption) | ((have he9 := FlagRun.end_ (by assumption) (by assumption) (by assumption) (by assumption)); subst he9)))
  k_with "KswEnd" => (((rename News _ _ _ _ => nE'); (refine' ksw_end ⟨_, _, _, _⟩ (by assumption) nE' (by (intro p9 h9; exact h9)) (by kst_facts) (by kst_all) (by ksw_same) (by kst_p) (by ksw_less))))
  k_fill
  intro mg mb mean loose dp un gd cn cs a ccd cl outer A₀ base h₀ L m s Q E B F X N T hk hdp hun hret
  have d1 := G.lo
  have d2 := G.fit
  have d3 := G.hi
  have d4 := G.le
  refine wpAny_call ?_
  k_dflt cell_enter
  have w1 := C1.bound
  have w2 : 0 ≤ v2 ∧ v2 ≤ 8192 := C2.bound
  k_with "exec If BoolOp cons" => (fail_if_success (with_reducible show wpAny _ _ _ (JoinPost _ _ _ _ _) _ _)); (fail_if_success (have : OnceA := by assumption)); refine join_stmt (by assumption) (by assumption) ?_ ?_; rotate_left; intro h9 tk9 F9 N9; have mk9 : OnceA := .mk; rotate_left
  k_with "eval IfExp" => (fail_if_success (with_reducible show wpAny _ _ _ (JoinVal _ _ _ _ _ _) _ _)); (fail_if_success (have : OnceB := by assumption)); refine join_val (fun u => .int (o1.getD 0) u) (by assumption) (by assumption) ?_ ?_; rotate_left; intro u9 h9 tk9 F9 N9; have mk9 : OnceB := .mk; rotate_left
  k_with "exec While BoolOp cons nil" => k_while (fun (_ : List Int) (i : Int) (f : PySem.Str) => i0 ≤ i ∧ i ≤ e1 ∧ f = Txt.slice x (some i0) (some i)) (fun (_ : List Int) (i : Int) (_ : PySem.Str) => (e1 - i).toNat) "at" "spec.flags"
  k_with "state" => first | with_reducible exact FlagRun.start (by assumption) | with_reducible exact FlagRun.step (by assumption) (by assumption) (by assumption) (by assumption) (by assumption)
  k_with "measure" => exact FlagRun.less (by assumption) (by assumption) (by assumption) (by assumption)
  k_steps
  all_goals (
    (rename (_ = Txt.slice _ _ _) => hf9); subst hf9
    refine hret _ _ _ _ _ _ _ _ _ _ _ _ _ _ _ (by assumption) (mem_sub (by assumption) (mem_three (by k_mem) (by k_mem) (by k_mem) (fun p hp => by k_mem))) (by first | assumption | exact ktn_ltOf (by assumption)) (ltN (by omega)) (ltN (by omega)))
end
/-- the dict of a Vector -/
abbrev vecD (P : Params) (k0 k1 k2 k3 k4 : Tok) (kind : Str) (tk : Tok) (ia : Addr) : List DictEntry :=
  [⟨PyData.keyHash P "kind", .str "kind" k0, .str kind tk⟩, ⟨PyData.keyHash P "items", .str "items" k1, .ref ia⟩, ⟨PyData.keyHash P "attrs", .str "attrs" k2, .none⟩, ⟨PyData.keyHash P "shared", .str "shared" k3, .bool false⟩, ⟨PyData.keyHash P "loose", .str "loose" k4, .bool false⟩]
/-- the dict of a Source -/
abbrev srcD (P : Params) (k0 k1 k2 : Tok) (va : Addr) (turn : Int) (tt : Tok) (taken : Int) (tk : Tok) : List DictEntry :=
  [⟨PyData.keyHash P "vs", .str "vs" k0, .ref va⟩, ⟨PyData.keyHash P "turn", .str "turn" k1, .int turn tt⟩, ⟨PyData.keyHash P "taken", .str "taken" k2, .int taken tk⟩]
/-- a Vector stands in the ledger -/
def VecIn (P : Params) (news : List (Addr × Obj)) (v : Addr) (kind : Str) (its : List Value) : Prop :=
  ∃ (vd ia : Addr) (k0 k1 k2 k3 k4 tk : Tok) (n : Nat), (v, instObj 293 vd) ∈ news ∧ (vd, dictOf (vecD P k0 k1 k2 k3 k4 kind tk ia) 5) ∈ news ∧ (ia, listOf its.toArray n) ∈ news
abbrev RetTake (P : Params) (src srcd va : Addr) (k0 k1 k2 : Tok) (turn : Int) (tt : Tok) (taken : Int) (news : List (Addr × Obj)) (kind : Str) (item : Value) (h₀ : Heap) (L : Addr) (m : Str → Option Value) (s : Shared) (Q : Value → Shared → Prop) : Prop :=
  ∀ (tp : Addr) (t t' : Tok) (h' : Heap) (tk' : Nat), Fr h₀ L h' m →
    News h₀ L h' ((tp, { cls := .type "tuple", data := .seq #[.str kind t, item] }) :: (src, instObj 492 srcd) :: (srcd, dictOf (srcD P k0 k1 k2 va turn tt (taken + 1) t') 3) :: news) →
    (∀ p ∈ news, p.1 < tp) → src < tp → srcd < tp → Q (.ref tp) { s with heap := h', toks := tk' }
theorem item_at {prog w A E s} {value slice : PySem.Expr} {l : Addr} {vs : List Value} {k : Int} {u : Tok} {v : Value} {Q : Value → Shared → Prop}
    (hl : s.heap.IsList l vs.toArray) (h0 : 0 ≤ k) (hhi : k < 2 ^ 63) (hx : vs[k.toNat]? = some v) (h : Q v s)
    (hs : subscripted slice false (.ref l) (.int k u) = operate [.ref l, .int k u] (getItem (.ref l) (.int k u)) := by with_unfolding_all rfl) :
    wpAny (model prog w) A (subscriptTail value slice (.ref l) (.int k u)) Q E s :=
  tail_any hl.typeIs slot_list_getitem.lookup (wpAny_getItem_list hl h0 hhi (by simpa using hx) h) hs
theorem len_any {prog w A E s} {l : Addr} {vs : List Value} {Q : Value → Shared → Prop} (hl : s.heap.IsList l vs.toArray) (hfit : vs.length ≤ 2)
    (h : Q (.int vs.length (s.toks + 1)) { s with toks := s.toks + 1 + 1 }) : wpAny (model prog w) A (call (.builtin "len") [.ref l]) Q E s :=
  call_len_list hl (by simp only [List.size_toArray]; omega) (by simpa only [List.size_toArray] using h)
local macro_rules | `(tactic| k_all) => `(tactic| assumption)
section
set_option maxHeartbeats 4000000 in
theorem take_ok {w : World} {src srcd va v : Addr} {k0 k1 k2 tt tk : Tok} {vs : List Value} {nn : Nat} {turn taken : Int} {kind : Str} {its : List Value} {item : Value} {news : List (Addr × Obj)}
    (hne : ∀ p ∈ news, p.1 ≠ srcd) (hsd : srcd < src) (hva : (va, listOf vs.toArray nn) ∈ news) (hv : vs[taken.toNat]? = some (.ref v)) (h0 : 0 ≤ taken) (hvl : vs.length ≤ 2)
    (V : VecIn w.params news v kind its) (hit : its[(turn.fmod its.length).toNat]? = some item) (ht : 0 ≤ turn) (ht1 : turn ≤ 2) (hil : its.length ≤ 2) :
    Ctr w 482 1 [.ref src, .none] ((src, instObj 492 srcd) :: (srcd, dictOf (srcD w.params k0 k1 k2 va turn tt taken tk) 3) :: news) (RetTake w.params src srcd va k0 k1 k2 turn tt taken news kind item) := by
  unfold Ctr
  k_with_none
  k_with "call builtin:len" => ((k_here; (with_reducible show wpAny _ _ (call (Value.builtin "len") [Value.ref _]) _ _ _); k_dflt (refine' len_any (by exact News.isList (by k_asm) (by k_mem)) (by assumption) ?_)))
  k_with "subscriptTail Name Name ref int" => ((k_here; (with_reducible show wpAny _ _ (subscriptTail _ _ (Value.ref _) (Value.int _ _)) _ _ _); k_dflt (refine' item_at (by exact News.isList (by k_asm) (by k_mem)) (by omega) (by omega) (by assumption) ?_ (by with_unfolding_all rfl))))
  k_with "subscriptTail Name BinOp ref int" => ((k_here; (with_reducible show wpAny _ _ (subscriptTail _ _ (Value.ref _) (Value.int _ _)) _ _ _); k_dflt (refine' item_at (by exact News.isList (by k_asm) (by k_mem)) (by omega) (by omega) (by assumption) ?_ (by with_unfolding_all rfl))))
  k_fill
  intro mg mb mean loose dp un gd cn cs a ccd cl outer A₀ base h₀ L m s Q E B F X N T hk hdp hun hret
  obtain ⟨vd, ia, q0, q1, q2, q3, q4, qk, n9, hv1, hv2, hv3⟩ := V
  replace hsd := ltN hsd
  have hlen : taken < vs.length := by
    obtain ⟨h, _⟩ := List.getElem?_eq_some_iff.mp hv
    omega
  have hilen : 0 < its.length := by
    obtain ⟨h, _⟩ := List.getElem?_eq_some_iff.mp hit
    omega
  have hf0 : 0 ≤ turn.fmod its.length := Int.fmod_nonneg ht (by omega)
  have hf1 : turn.fmod its.length < its.length := Int.fmod_lt_of_pos _ (by omega)
  refine wpAny_call ?_
  k_dflt cell_enter
  k_steps
  exact hret _ _ _ _ _ (by assumption) (by assumption) (by (rename (_ ∧ _ ∧ AllLt _ _) => l8); exact ktn_ltOf l8.2.2) (ltN (by omega)) (ltN (by omega))
end
abbrev RetWhole (P : Params) (src srcd va : Addr) (k0 k1 k2 : Tok) (turn : Int) (tt : Tok) (taken : Int) (news : List (Addr × Obj)) (n : Int) (h₀ : Heap) (L : Addr) (m : Str → Option Value) (s : Shared) (Q : Value → Shared → Prop) : Prop :=
  ∀ (t t' : Tok) (h' : Heap) (tk' : Nat), Fr h₀ L h' m →
    News h₀ L h' ((src, instObj 492 srcd) :: (srcd, dictOf (srcD P k0 k1 k2 va turn tt (taken + 1) t') 3) :: news) → Q (.int n t) { s with heap := h', toks := tk' }
section
set_option maxHeartbeats 4000000 in
theorem take_whole_ok {w : World} {src srcd va v : Addr} {k0 k1 k2 tt tk ti : Tok} {vs : List Value} {nn : Nat} {turn taken : Int} {its : List Value} {n : Int} {news : List (Addr × Obj)}
    (hne : ∀ p ∈ news, p.1 ≠ srcd) (hsd : srcd < src) (hva : (va, listOf vs.toArray nn) ∈ news) (hv : vs[taken.toNat]? = some (.ref v)) (h0 : 0 ≤ taken) (hvl : vs.length ≤ 2)
    (V : VecIn w.params news v (Str.ofString "integer") its) (hit : its[(turn.fmod its.length).toNat]? = some (.int n ti)) (ht : 0 ≤ turn) (ht1 : turn ≤ 2) (hil : its.length ≤ 2) :
    Ctr w 489 2 [.ref src] ((src, instObj 492 srcd) :: (srcd, dictOf (srcD w.params k0 k1 k2 va turn tt taken tk) 3) :: news) (RetWhole w.params src srcd va k0 k1 k2 turn tt taken news n) := by
  unfold Ctr
  k_with_none
  k_with "call ref" => ((k_here; (with_reducible show wpAny _ _ (call (Value.ref 482) [Value.ref _, Value.none]) _ _ _); k_dflt (refine' Ctr.use (by k_asm) (by k_asm) (by k_asm) (by k_asm) (by k_asm) (by rfl) (take_ok (by assumption) (by assumption) (by assumption) (by assumption) (by assumption) (by assumption) (by assumption) (by assumption) (by assumption) (by assumption) (by assumption)) (by (dsimp only; omega)) (by (dsimp only; omega)) ?_; intro tp9 ta9 tb9 h9 tk9 F9 N9 l9 lx9 ly9; (try k_lt l9); (try replace lx9 := ltN lx9); (try replace ly9 := ltN ly9); (try dsimp only); (try k_fold))))
  k_fill
  intro mg mb mean loose dp un gd cn cs a ccd cl outer A₀ base h₀ L m s Q E B F X N T hk hdp hun hret
  refine wpAny_call ?_
  k_dflt cell_enter
  k_steps
  exact hret _ _ _ _ (by assumption) (drop1 (drop1 (by assumption)))
end
theorem bub3 {h₀ h : Heap} {L : Addr} {a b c s d : Addr × Obj} {n : List (Addr × Obj)} (N : News h₀ L h (a :: b :: c :: s :: d :: n)) : News h₀ L h (s :: d :: a :: b :: c :: n) := by
  refine mem_sub N ?_
  intro p hp
  simp only [List.mem_cons] at hp ⊢
  rcases hp with h | h | h | h | h | h <;> simp [h]
theorem VecIn.mono {P : Params} {n n' : List (Addr × Obj)} {v : Addr} {kind : Str} {its : List Value} (V : VecIn P n v kind its) (hs : ∀ p ∈ n, p ∈ n') : VecIn P n' v kind its := by
  obtain ⟨vd, ia, q0, q1, q2, q3, q4, qk, n9, hv1, hv2, hv3⟩ := V
  exact ⟨vd, ia, q0, q1, q2, q3, q4, qk, n9, hs _ hv1, hs _ hv2, hs _ hv3⟩
theorem VecIn.cons {P : Params} {n : List (Addr × Obj)} {q : Addr × Obj} {v : Addr} {kind : Str} {its : List Value} (V : VecIn P n v kind its) : VecIn P (q :: n) v kind its := V.mono fun p hp => .tail _ hp
theorem mem_one {α : Type} {a : α} {n r : List α} (ha : a ∈ r) (hn : ∀ p ∈ n, p ∈ r) : ∀ p ∈ a :: n, p ∈ r := by
  intro p hp
  rcases List.mem_cons.mp hp with rfl | hp
  · exact ha
  exact hn p hp
theorem flag_fits2 {f x : Str} {a b : Int} (hf : f = Txt.slice x (some a) (some b)) (d : x.length ≤ 500) : f.length + (Str.ofString "-").length ≤ sizeLine := by
  have l := Txt.slice_le x (some a) (some b)
  rw [← hf] at l
  rw [len_m, sizeLine_eq]
  omega
def starFl (n : Int) (fl : Str) : Str := if n < 0 then fl ++ Str.ofString "-" else fl
def starWd (n : Int) : Int := if n < 0 then -n else n
abbrev RetSpecS (P : Params) (src srcd va : Addr) (k0 k1 k2 : Tok) (turn : Int) (tt : Tok) (taken : Int) (news : List (Addr × Obj)) (fl : Str) (wd : Int) (lt : Str) (e : Int) (h₀ : Heap) (L : Addr) (m : Str → Option Value) (s : Shared) (Q : Value → Shared → Prop) : Prop :=
  ∀ (tp sx sd : Addr) (q0 q1 q2 q3 q4 tf tw tl te t' : Tok) (h' : Heap) (tk' : Nat), Fr h₀ L h' m →
    News h₀ L h' ((tp, { cls := .type "tuple", data := .seq #[.ref sx, .int e te] }) :: (sx, instObj 443 sd) :: (sd, dictOf (specD P q0 q1 q2 q3 q4 fl tf wd tw .none lt tl .none) 5) :: (src, instObj 492 srcd) :: (srcd, dictOf (srcD P k0 k1 k2 va turn tt (taken + 1) t') 3) :: news) →
    (∀ p ∈ news, p.1 < sd) → src < sd → srcd < sd → sd < sx → sx < tp → Q (.ref tp) { s with heap := h', toks := tk' }
section
set_option maxHeartbeats 4000000 in
theorem read_star_ok {w : World} {x : Str} {tx ta : Tok} {src srcd va v : Addr} {k0 k1 k2 tt tk ti : Tok} {vs : List Value} {nn : Nat} {turn taken : Int} {its : List Value} {n : Int} {i0 e0 e1 : Int} {o0 : Option Int} {news : List (Addr × Obj)}
    (hne : ∀ p ∈ news, p.1 ≠ srcd) (hsd : srcd < src) (hva : (va, listOf vs.toArray nn) ∈ news) (hv : vs[taken.toNat]? = some (.ref v)) (h0 : 0 ≤ taken) (hvl : vs.length ≤ 2)
    (V : VecIn w.params news v (Str.ofString "integer") its) (hit : its[(turn.fmod its.length).toNat]? = some (.int n ti)) (ht : 0 ≤ turn) (ht1 : turn ≤ 2) (hil : its.length ≤ 2)
    (hn0 : -8000 ≤ n) (hn1 : n ≤ 8000)
    (C0 : DigCase x i0 e0 o0) (hdol : (Txt.slice x (some e0) (some (e0 + 1)) == Str.ofString "$") = false)
    (G : FlagRun x i0 e1) (hstar : (Txt.slice x (some e1) (some (e1 + 1)) == Str.ofString "*") = true)
    (he2' : e1 + 1 < x.length) (hlet0 : (Txt.slice x (some (e1 + 1)) (some (e1 + 1 + 1)) == Str.ofString "") = false) (hlet1 : (Builtin.Str.occurrences (Str.ofString "dioxXfeEgGs%") (Txt.slice x (some (e1 + 1)) (some (e1 + 1 + 1))) 0 (Str.ofString "dioxXfeEgGs%").length 1).isEmpty = false) (hdot : (Txt.slice x (some (e1 + 1)) (some (e1 + 1 + 1)) == Str.ofString ".") = false) :
    Ctr w 503 3 [.str x tx, .int i0 ta, .ref src] ((src, instObj 492 srcd) :: (srcd, dictOf (srcD w.params k0 k1 k2 va turn tt taken tk) 3) :: news)
      (RetSpecS w.params src srcd va k0 k1 k2 turn tt taken news (starFl n (Txt.slice x (some i0) (some e1))) (starWd n) (Txt.slice x (some (e1 + 1)) (some (e1 + 1 + 1))) (e1 + 1 + 1)) := by
  unfold Ctr
  k_with_none
  k_with "call ref" => ((k_here; (with_reducible show wpAny _ _ (call (Value.ref 461) [Value.str _ _, Value.int _ _]) _ _ _); k_dflt (refine' Ctr.use (by k_asm) (by k_asm) (by k_asm) (by k_asm) (by k_asm) (by rfl) (digits_ok (by assumption)) (by (dsimp only; omega)) (by (dsimp only; omega)) ?_; intro tp9 ta9 tb9 h9 tk9 F9 N9 l9; (try k_lt l9); (try dsimp only); (try k_fold))))
  k_with "call ref" => ((k_here; (with_reducible show wpAny _ _ (call (Value.ref 461) [Value.str _ _, Value.int _ _]) _ _ _); k_dflt (refine' Ctr.use (by k_asm) (by k_asm) (by k_asm) (by k_asm) (by k_asm) (by rfl) (digits_v_ok (by assumption)) (by (dsimp only; omega)) (by (dsimp only; omega)) ?_; intro tp9 ta9 tb9 h9 tk9 F9 N9 l9; (try k_lt l9); (try dsimp only); (try k_fold))))
  k_with "call ref" => ((k_here; k_dflt (show wpAny _ _ (call (Value.ref 489) [Value.ref _]) _ _ _); k_dflt (refine' Ctr.use (by k_asm) (by k_asm) (by k_asm) (by exact bub3 (by k_asm)) (by k_asm) (by rfl) (take_whole_ok (by k_all) (by assumption) (by k_mem) (by assumption) (by assumption) (by assumption) (by exact (VecIn.cons (VecIn.cons (VecIn.cons (by assumption))))) (by assumption) (by assumption) (by assumption) (by assumption)) (by (dsimp only; omega)) (by (dsimp only; omega)) ?_; intro t9 tb9 h9 tk9 F9 N9; (try dsimp only); (try k_fold))))
  k_with "compareOp IsNot" => ((k_here; (with_reducible show wpAny _ _ (compareOp CmpOp.IsNot (optV _ _) Value.none) _ _ _); refine isNot_optV (fun ho9 => ?_) (fun v9 ho9 => ?_)))
  k_with "compareOp Is" => ((k_here; (with_reducible show wpAny _ _ (compareOp CmpOp.Is (optV _ _) Value.none) _ _ _); refine is_optV (fun ho9 => ?_) (fun v9 ho9 => ?_)))
  k_with "JoinPost" => (exact ⟨rfl, _, _, rfl, by assumption, by assumption⟩)
  k_with "JoinVal" => (first | exact ⟨_, _, _, (by (rename (_ = none) => ho9); rw [ho9]; rfl), rfl, by assumption, by assumption⟩ | exact ⟨_, _, _, (by (rename (_ = some _) => ho9); rw [ho9]; rfl), rfl, by assumption, by assumption⟩)
  k_with "subscriptTail Name Name str int" => ((k_here; (with_reducible show wpAny _ _ (subscriptTail _ _ (Value.str _ _) (Value.int _ _)) _ _ _); refine item_any (by omega) (by omega) (by omega) ?_))
  k_with "inplaceOp Add str str" => ((k_here; (refine SBL.iadd (hsz := (by exact flag_fits (by assumption) (by assumption))) ?_); intro _ _ _))
  k_with "exec If" => ((k_here; first | exact FlagRun.some (by assumption) (by assumption) (by assumption) (by assumption) | ((have he9 := FlagRun.end_ (by assumption) (by assumption) (by assumption) (by assumption)); subst he9)))
  k_with "KswEnd" => (((rename News _ _ _ _ => nE'); (refine' ksw_end ⟨_, _, _, _⟩ (by assumption) nE' (by (intro p9 h9; exact h9)) (by kst_facts) (by kst_all) (by ksw_same) (by kst_p) (by ksw_less))))
  k_with "inplaceOp Add str str" => ((k_here; (with_reducible show wpAny _ _ (inplaceOp Operator.Add (Value.str _ _) (Value.str (Str.ofString _) _)) _ _ _); (refine SBL.iadd (hsz := (by exact flag_fits2 (by assumption) (by assumption))) ?_); intro _ _ _))
  k_fill
  intro mg mb mean loose dp un gd cn cs a ccd cl outer A₀ base h₀ L m s Q E B F X N T hk hdp hun hret
  have d1 := G.lo
  have d2 := G.fit
  have d3 := G.hi
  have d4 := G.le
  replace hsd := ltN hsd
  refine wpAny_call ?_
  k_dflt cell_enter
  k_with "exec If BoolOp cons" => (fail_if_success (with_reducible show wpAny _ _ _ (JoinPost _ _ _ _ _) _ _)); (fail_if_success (have : OnceA := by assumption)); refine join_stmt (by assumption) (by assumption) ?_ ?_; rotate_left; intro h9 tk9 F9 N9; have mk9 : OnceA := .mk; rotate_left
  k_with "exec While BoolOp cons nil" => k_while (fun (_ : List Int) (i : Int) (f : PySem.Str) => i0 ≤ i ∧ i ≤ e1 ∧ f = Txt.slice x (some i0) (some i)) (fun (_ : List Int) (i : Int) (_ : PySem.Str) => (e1 - i).toNat) "at" "spec.flags"
  k_with "state" => first | with_reducible exact FlagRun.start (by assumption) | with_reducible exact FlagRun.step (by assumption) (by assumption) (by assumption) (by assumption) (by assumption)
  k_with "measure" => exact FlagRun.less (by assumption) (by assumption) (by assumption) (by assumption)
  k_steps
  · (rename (_ = Txt.slice _ _ _) => hf9); subst hf9
    simp only [starFl, starWd, if_pos (by assumption : n < 0)] at hret
    refine hret _ _ _ _ _ _ _ _ _ _ _ _ _ _ _ (by assumption) (mem_sub (by assumption) (mem_three (by k_mem) (by k_mem) (by k_mem) (mem_one (by k_mem) (mem_one (by k_mem) (fun p hp => by k_mem))))) ?_ (ltN (by omega)) (ltN (by omega)) (ltN (by omega)) (ltN (by omega))
    (rename (_ ∧ _ ∧ AllLt _ news) => l8); exact ktn_ltOf l8.2.2
  · (rename (_ = Txt.slice _ _ _) => hf9); subst hf9
    simp only [starFl, starWd, if_neg (by assumption : ¬ n < 0)] at hret
    refine hret _ _ _ _ _ _ _ _ _ _ _ _ _ _ _ (by assumption) (mem_sub (by assumption) (mem_three (by k_mem) (by k_mem) (by k_mem) (mem_one (by k_mem) (mem_one (by k_mem) (fun p hp => by k_mem))))) ?_ (ltN (by omega)) (ltN (by omega)) (ltN (by omega)) (ltN (by omega))
    (rename (_ ∧ _ ∧ AllLt _ news) => l8); exact ktn_ltOf l8.2.2
end
def cutF (o : Option Int) (x : Str) : Str := match o with
  | none => x
  | some c => Txt.slice x none (some c)
theorem handed_optV {o : Option Int} {t : Tok} : handedIn (optV o t) = true := by
  cases o <;> rfl
local macro_rules | `(tactic| k_handed) => `(tactic| exact handed_optV)
section
set_option maxHeartbeats 4000000 in
theorem text_ok {w : World} {x : Str} {tx tc tp : Tok} {o : Option Int} {sx sd : Addr} {k0 k1 k2 k3 k4 : Tok} {fl : Str} {tf : Tok} {wd : Int} {tw : Tok} {lt : Str} {tl : Tok} {wv : Value} {news : List (Addr × Obj)}
    (hs : (sx, instObj 443 sd) ∈ news) (hd : (sd, dictOf (specD w.params k0 k1 k2 k3 k4 fl tf wd tw (optV o tp) lt tl wv) 5) ∈ news) (h0 : 0 ≤ wd) (h1 : wd ≤ 8192) (hx : x.length ≤ 5) (ho : ∀ c, o = some c → 0 ≤ c ∧ c ≤ 6) :
    Ctr w 574 4 [.str (Str.ofString "character") tc, .str x tx, .ref sx] news (RetV news fun t => .str (padF (cutF o x) fl wd) t) := by
  unfold Ctr
  k_with_none
  k_with "compareOp IsNot" => ((k_here; (with_reducible show wpAny _ _ (compareOp CmpOp.IsNot (optV _ _) Value.none) _ _ _); refine isNot_optV (fun ho9 => ?_) (fun v9 ho9 => ?_) <;> subst ho9 <;> dsimp only [optV] at *))
  k_with "call ref" => ((k_here; (with_reducible show wpAny _ _ (call (Value.ref 510) [Value.str _ _, Value.ref _]) _ _ _); k_dflt (refine' Ctr.use (by k_asm) (by k_asm) (by k_asm) (by k_asm) (by k_asm) (by rfl) (padded_ok (by k_mem) (by k_mem) (by omega) (by omega)) (by (dsimp only; omega)) (by (dsimp only; omega)) ?_; intro t9 h9 tk9 F9 N9; (try dsimp only); (try k_fold))))
  k_fill
  intro mg mb mean loose dp un gd cn cs a ccd cl outer A₀ base h₀ L m s Q E B F X N T hk hdp hun hret
  refine wpAny_call ?_
  k_dflt cell_enter
  k_steps
  all_goals exact hret _ _ _ (by assumption) (mem_sub (by assumption) (fun p hp => by k_mem))
end
def numF (o : Option Int) (fl : Str) (wd : Int) : Str := match o with
  | none => padF (Str.ofString "NA") fl wd
  | some n => signedF (wholeF n) fl wd
theorem whole_opt_ok {w : World} {o : Option Int} {tn ti : Tok} {sx sd : Addr} {k0 k1 k2 k3 k4 : Tok} {fl : Str} {tf : Tok} {wd : Int} {tw tp : Tok} {lt : Str} {tl : Tok} {wv : Value} {news : List (Addr × Obj)}
    (hs : (sx, instObj 443 sd) ∈ news) (hd : (sd, dictOf (specD w.params k0 k1 k2 k3 k4 fl tf wd tw (optV none tp) lt tl wv) 5) ∈ news) (h0 : 0 ≤ wd) (h1 : wd ≤ 8192) (hn : ∀ n, o = some n → -1000000 < n ∧ n < 1000000)
    (hl : (Builtin.Str.occurrences (Str.ofString "di") lt 0 (Str.ofString "di").length 1).isEmpty = false) (hf : (Builtin.Str.occurrences fl (Str.ofString "#") 0 fl.length 1).isEmpty = true) :
    Ctr w 546 3 [.str (Str.ofString "integer") ti, optV o tn, .ref sx] news (RetV news fun t => .str (numF o fl wd) t) := by
  cases o with
  | none => exact whole_none_ok hs hd h0 h1
  | some n => exact whole_int_ok hs hd h0 h1 (hn n rfl).1 (hn n rfl).2 hl hf
/-- what one_form gives back: the source has moved on -/
abbrev RetOne (P : Params) (src srcd va : Addr) (k0 k1 k2 : Tok) (turn : Int) (tt : Tok) (taken : Int) (news : List (Addr × Obj)) (r : Str) (h₀ : Heap) (L : Addr) (m : Str → Option Value) (s : Shared) (Q : Value → Shared → Prop) : Prop :=
  ∀ (t t' : Tok) (h' : Heap) (tk' : Nat), Fr h₀ L h' m →
    News h₀ L h' ((src, instObj 492 srcd) :: (srcd, dictOf (srcD P k0 k1 k2 va turn tt taken t') 3) :: news) → Q (.str r t) { s with heap := h', toks := tk' }
section
set_option maxHeartbeats 4000000 in
theorem one_pct_ok {w : World} {src srcd va : Addr} {k0 k1 k2 tt tk : Tok} {turn taken : Int} {sx sd : Addr} {q0 q1 q2 q3 q4 : Tok} {fl : Str} {tf : Tok} {wd : Int} {tw tp : Tok} {o : Option Int} {lt : Str} {tl : Tok} {news : List (Addr × Obj)}
    (hs : (sx, instObj 443 sd) ∈ news) (hd : (sd, dictOf (specD w.params q0 q1 q2 q3 q4 fl tf wd tw (optV o tp) lt tl .none) 5) ∈ news) (hl : (lt == Str.ofString "%") = true) :
    Ctr w 581 5 [.ref sx, .ref src] ((src, instObj 492 srcd) :: (srcd, dictOf (srcD w.params k0 k1 k2 va turn tt taken tk) 3) :: news) (RetOne w.params src srcd va k0 k1 k2 turn tt taken news (Str.ofString "%")) := by
  unfold Ctr
  k_with_none
  k_with "call ref" => ((k_here; k_dflt (show wpAny _ _ (call (Value.ref 482) [Value.ref _, Value.none]) _ _ _); k_dflt (refine' Ctr.use (by k_asm) (by k_asm) (by k_asm) (by k_asm) (by k_asm) (by rfl) (take_ok (by assumption) (by assumption) (by assumption) (by assumption) (by assumption) (by assumption) (by assumption) (by assumption) (by assumption) (by assumption) (by assumption)) (by (dsimp only; omega)) (by (dsimp only; omega)) ?_; intro tp9 ta9 tb9 h9 tk9 F9 N9 l9 lx9 ly9; (try k_lt l9); (try replace lx9 := ltN lx9); (try replace ly9 := ltN ly9); (try dsimp only); (try k_fold))))
  k_with "call ref" => ((k_here; (with_reducible show wpAny _ _ (call (Value.ref 546) [Value.str _ _, _, Value.ref _]) _ _ _); k_dflt (refine' Ctr.use (by k_asm) (by k_asm) (by k_asm) (by k_asm) (by k_asm) (by rfl) (whole_opt_ok (by k_mem) (by k_mem) (by omega) (by omega) (by assumption) (by assumption) (by assumption)) (by (dsimp only; omega)) (by (dsimp only; omega)) ?_; intro t9 h9 tk9 F9 N9; (try dsimp only); (try k_fold))))
  k_with "call ref" => ((k_here; (with_reducible show wpAny _ _ (call (Value.ref 574) [Value.str _ _, Value.str _ _, Value.ref _]) _ _ _); k_dflt (refine' Ctr.use (by k_asm) (by k_asm) (by k_asm) (by k_asm) (by k_asm) (by rfl) (text_ok (by k_mem) (by k_mem) (by omega) (by omega) (by assumption) (by assumption)) (by (dsimp only; omega)) (by (dsimp only; omega)) ?_; intro t9 h9 tk9 F9 N9; (try dsimp only); (try k_fold))))
  k_fill
  intro mg mb mean loose dp un gd cn cs a ccd cl outer A₀ base h₀ L m s Q E B F X N T hk hdp hun hret
  refine wpAny_call ?_
  k_dflt cell_enter
  k_steps
  exact hret _ _ _ _ (by assumption) (by assumption)
set_option maxHeartbeats 4000000 in
theorem one_num_ok {w : World} {src srcd va v : Addr} {k0 k1 k2 tt tk ti : Tok} {vs : List Value} {nn : Nat} {turn taken : Int} {its : List Value} {on : Option Int} {sx sd : Addr} {q0 q1 q2 q3 q4 : Tok} {fl : Str} {tf : Tok} {wd : Int} {tw tp : Tok} {lt : Str} {tl : Tok} {news : List (Addr × Obj)}
    (hne : ∀ p ∈ news, p.1 ≠ srcd) (hsd : srcd < src) (hva : (va, listOf vs.toArray nn) ∈ news) (hv : vs[taken.toNat]? = some (.ref v)) (ht0 : 0 ≤ taken) (hvl : vs.length ≤ 2)
    (V : VecIn w.params news v (Str.ofString "integer") its) (hit : its[(turn.fmod its.length).toNat]? = some (optV on ti)) (ht : 0 ≤ turn) (ht1 : turn ≤ 2) (hil : its.length ≤ 2)
    (hs : (sx, instObj 443 sd) ∈ news) (hd : (sd, dictOf (specD w.params q0 q1 q2 q3 q4 fl tf wd tw (optV none tp) lt tl .none) 5) ∈ news) (h0 : 0 ≤ wd) (h1 : wd ≤ 8192) (hn : ∀ n, on = some n → -1000000 < n ∧ n < 1000000)
    (hp : (lt == Str.ofString "%") = false) (hl0 : (Builtin.Str.occurrences (Str.ofString "dioxX") lt 0 (Str.ofString "dioxX").length 1).isEmpty = false)
    (hl : (Builtin.Str.occurrences (Str.ofString "di") lt 0 (Str.ofString "di").length 1).isEmpty = false) (hf : (Builtin.Str.occurrences fl (Str.ofString "#") 0 fl.length 1).isEmpty = true) :
    Ctr w 581 5 [.ref sx, .ref src] ((src, instObj 492 srcd) :: (srcd, dictOf (srcD w.params k0 k1 k2 va turn tt taken tk) 3) :: news) (RetOne w.params src srcd va k0 k1 k2 turn tt (taken + 1) news (numF on fl wd)) := by
  unfold Ctr
  k_with_none
  k_with "call ref" => ((k_here; k_dflt (show wpAny _ _ (call (Value.ref 482) [Value.ref _, Value.none]) _ _ _); k_dflt (refine' Ctr.use (by k_asm) (by k_asm) (by k_asm) (by k_asm) (by k_asm) (by rfl) (take_ok (by assumption) (by assumption) (by assumption) (by assumption) (by assumption) (by assumption) (by assumption) (by assumption) (by assumption) (by assumption) (by assumption)) (by (dsimp only; omega)) (by (dsimp only; omega)) ?_; intro tp9 ta9 tb9 h9 tk9 F9 N9 l9 lx9 ly9; (try k_lt l9); (try replace lx9 := ltN lx9); (try replace ly9 := ltN ly9); (try dsimp only); (try k_fold))))
  k_with "call ref" => ((k_here; (with_reducible show wpAny _ _ (call (Value.ref 546) [Value.str _ _, _, Value.ref _]) _ _ _); k_dflt (refine' Ctr.use (by k_asm) (by k_asm) (by k_asm) (by k_asm) (by k_asm) (by rfl) (whole_opt_ok (by k_mem) (by k_mem) (by omega) (by omega) (by assumption) (by assumption) (by assumption)) (by (dsimp only; omega)) (by (dsimp only; omega)) ?_; intro t9 h9 tk9 F9 N9; (try dsimp only); (try k_fold))))
  k_with "call ref" => ((k_here; (with_reducible show wpAny _ _ (call (Value.ref 574) [Value.str _ _, Value.str _ _, Value.ref _]) _ _ _); k_dflt (refine' Ctr.use (by k_asm) (by k_asm) (by k_asm) (by k_asm) (by k_asm) (by rfl) (text_ok (by k_mem) (by k_mem) (by omega) (by omega) (by assumption) (by assumption)) (by (dsimp only; omega)) (by (dsimp only; omega)) ?_; intro t9 h9 tk9 F9 N9; (try dsimp only); (try k_fold))))
  k_fill
  intro mg mb mean loose dp un gd cn cs a ccd cl outer A₀ base h₀ L m s Q E B F X N T hk hdp hun hret
  refine wpAny_call ?_
  k_dflt cell_enter
  k_steps
  exact hret _ _ _ _ (by assumption) (drop1 (by assumption))
set_option maxHeartbeats 4000000 in
theorem one_text_ok {w : World} {src srcd va v : Addr} {k0 k1 k2 tt tk tx : Tok} {vs : List Value} {nn : Nat} {turn taken : Int} {its : List Value} {x : Str} {sx sd : Addr} {q0 q1 q2 q3 q4 : Tok} {fl : Str} {tf : Tok} {wd : Int} {tw tp : Tok} {o : Option Int} {lt : Str} {tl : Tok} {news : List (Addr × Obj)}
    (hne : ∀ p ∈ news, p.1 ≠ srcd) (hsd : srcd < src) (hva : (va, listOf vs.toArray nn) ∈ news) (hv : vs[taken.toNat]? = some (.ref v)) (ht0 : 0 ≤ taken) (hvl : vs.length ≤ 2)
    (V : VecIn w.params news v (Str.ofString "character") its) (hit : its[(turn.fmod its.length).toNat]? = some (.str x tx)) (ht : 0 ≤ turn) (ht1 : turn ≤ 2) (hil : its.length ≤ 2)
    (hs : (sx, instObj 443 sd) ∈ news) (hd : (sd, dictOf (specD w.params q0 q1 q2 q3 q4 fl tf wd tw (optV o tp) lt tl .none) 5) ∈ news) (h0 : 0 ≤ wd) (h1 : wd ≤ 8192) (hx : x.length ≤ 5) (ho : ∀ c, o = some c → 0 ≤ c ∧ c ≤ 6)
    (hp : (lt == Str.ofString "%") = false) (hl0 : (Builtin.Str.occurrences (Str.ofString "dioxX") lt 0 (Str.ofString "dioxX").length 1).isEmpty = true)
    (hl : (lt == Str.ofString "s") = true) :
    Ctr w 581 5 [.ref sx, .ref src] ((src, instObj 492 srcd) :: (srcd, dictOf (srcD w.params k0 k1 k2 va turn tt taken tk) 3) :: news) (RetOne w.params src srcd va k0 k1 k2 turn tt (taken + 1) news (padF (cutF o x) fl wd)) := by
  unfold Ctr
  k_with_none
  k_with "call ref" => ((k_here; k_dflt (show wpAny _ _ (call (Value.ref 482) [Value.ref _, Value.none]) _ _ _); k_dflt (refine' Ctr.use (by k_asm) (by k_asm) (by k_asm) (by k_asm) (by k_asm) (by rfl) (take_ok (by assumption) (by assumption) (by assumption) (by assumption) (by assumption) (by assumption) (by assumption) (by assumption) (by assumption) (by assumption) (by assumption)) (by (dsimp only; omega)) (by (dsimp only; omega)) ?_; intro tp9 ta9 tb9 h9 tk9 F9 N9 l9 lx9 ly9; (try k_lt l9); (try replace lx9 := ltN lx9); (try replace ly9 := ltN ly9); (try dsimp only); (try k_fold))))
  k_with "call ref" => ((k_here; (with_reducible show wpAny _ _ (call (Value.ref 546) [Value.str _ _, _, Value.ref _]) _ _ _); k_dflt (refine' Ctr.use (by k_asm) (by k_asm) (by k_asm) (by k_asm) (by k_asm) (by rfl) (whole_opt_ok (by k_mem) (by k_mem) (by omega) (by omega) (by assumption) (by assumption) (by assumption)) (by (dsimp only; omega)) (by (dsimp only; omega)) ?_; intro t9 h9 tk9 F9 N9; (try dsimp only); (try k_fold))))
  k_with "call ref" => ((k_here; (with_reducible show wpAny _ _ (call (Value.ref 574) [Value.str _ _, Value.str _ _, Value.ref _]) _ _ _); k_dflt (refine' Ctr.use (by k_asm) (by k_asm) (by k_asm) (by k_asm) (by k_asm) (by rfl) (text_ok (by k_mem) (by k_mem) (by omega) (by omega) (by assumption) (by assumption)) (by (dsimp only; omega)) (by (dsimp only; omega)) ?_; intro t9 h9 tk9 F9 N9; (try dsimp only); (try k_fold))))
  k_fill
  intro mg mb mean loose dp un gd cn cs a ccd cl outer A₀ base h₀ L m s Q E B F X N T hk hdp hun hret
  refine wpAny_call ?_
  k_dflt cell_enter
  k_steps
  exact hret _ _ _ _ (by assumption) (drop1 (by assumption))
end
/-- the vectors that a list of the call's holds -/
def VsIn (P : Params) (news : List (Addr × Obj)) (vs : List Value) (dat : List (Str × List Value)) : Prop :=
  ∀ (k : Nat) (kind : Str) (its : List Value), dat[k]? = some (kind, its) → ∃ v, vs[k]? = some (.ref v) ∧ VecIn P news v kind its ∧ its.length ≤ 2
theorem VsIn.mono {P : Params} {n n' : List (Addr × Obj)} {vs : List Value} {dat : List (Str × List Value)} (V : VsIn P n vs dat) (hs : ∀ p ∈ n, p ∈ n') : VsIn P n' vs dat := fun k kind its e => by
  obtain ⟨v, h1, h2, h3⟩ := V k kind its e
  exact ⟨v, h1, h2.mono hs, h3⟩
/-- what one_form makes of a Spec: the text, and how far the source has moved -/
inductive OneCase (dat : List (Str × List Value)) (turn : Int) (fl : Str) (wd : Int) : Option Int → Str → Int → Int → Str → Prop
  | pct {o lt taken} (hl : (lt == Str.ofString "%") = true) : OneCase dat turn fl wd o lt taken taken (Str.ofString "%")
  | num {lt taken} (its : List Value) (on : Option Int) (ti : Tok) (hd : dat[taken.toNat]? = some (Str.ofString "integer", its)) (hit : its[(turn.fmod its.length).toNat]? = some (optV on ti))
      (ht0 : 0 ≤ taken) (h0 : 0 ≤ wd) (h1 : wd ≤ 8192) (hn : ∀ n, on = some n → -1000000 < n ∧ n < 1000000)
      (hp : (lt == Str.ofString "%") = false) (hl0 : (Builtin.Str.occurrences (Str.ofString "dioxX") lt 0 (Str.ofString "dioxX").length 1).isEmpty = false)
      (hl : (Builtin.Str.occurrences (Str.ofString "di") lt 0 (Str.ofString "di").length 1).isEmpty = false) (hf : (Builtin.Str.occurrences fl (Str.ofString "#") 0 fl.length 1).isEmpty = true) :
      OneCase dat turn fl wd none lt taken (taken + 1) (numF on fl wd)
  | text {o lt taken} (its : List Value) (x : Str) (tx : Tok) (hd : dat[taken.toNat]? = some (Str.ofString "character", its)) (hit : its[(turn.fmod its.length).toNat]? = some (.str x tx))
      (ht0 : 0 ≤ taken) (h0 : 0 ≤ wd) (h1 : wd ≤ 8192) (hx : x.length ≤ 5) (ho : ∀ c, o = some c → 0 ≤ c ∧ c ≤ 6)
      (hp : (lt == Str.ofString "%") = false) (hl0 : (Builtin.Str.occurrences (Str.ofString "dioxX") lt 0 (Str.ofString "dioxX").length 1).isEmpty = true)
      (hl : (lt == Str.ofString "s") = true) : OneCase dat turn fl wd o lt taken (taken + 1) (padF (cutF o x) fl wd)
theorem one_any_ok {w : World} {src srcd va : Addr} {k0 k1 k2 tt tk : Tok} {vs : List Value} {nn : Nat} {dat : List (Str × List Value)} {turn taken taken' : Int} {r : Str} {sx sd : Addr} {q0 q1 q2 q3 q4 : Tok} {fl : Str} {tf : Tok} {wd : Int} {tw tp : Tok} {o : Option Int} {lt : Str} {tl : Tok} {news : List (Addr × Obj)}
    (C : OneCase dat turn fl wd o lt taken taken' r)
    (hne : ∀ p ∈ news, p.1 ≠ srcd) (hsd : srcd < src) (hva : (va, listOf vs.toArray nn) ∈ news) (hvl : vs.length ≤ 2) (V : VsIn w.params news vs dat) (ht : 0 ≤ turn) (ht1 : turn ≤ 2)
    (hs : (sx, instObj 443 sd) ∈ news) (hd : (sd, dictOf (specD w.params q0 q1 q2 q3 q4 fl tf wd tw (optV o tp) lt tl .none) 5) ∈ news) :
    Ctr w 581 5 [.ref sx, .ref src] ((src, instObj 492 srcd) :: (srcd, dictOf (srcD w.params k0 k1 k2 va turn tt taken tk) 3) :: news) (RetOne w.params src srcd va k0 k1 k2 turn tt taken' news r) := by
  cases C with
  | pct hl => exact one_pct_ok hs hd hl
  | num its on ti hd9 hit ht0 h0 h1 hn hp hl0 hl hf =>
    obtain ⟨v, e1, e2, e3⟩ := V _ _ _ hd9
    exact one_num_ok hne hsd hva e1 ht0 hvl e2 hit ht ht1 e3 hs hd h0 h1 hn hp hl0 hl hf
  | text its x tx hd9 hit ht0 h0 h1 hx ho hp hl0 hl =>
    obtain ⟨v, e1, e2, e3⟩ := V _ _ _ hd9
    exact one_text_ok hne hsd hva e1 ht0 hvl e2 hit ht ht1 e3 hs hd h0 h1 hx ho hp hl0 hl
/-- what read_spec makes of the text from i0: flags, width, precision, letter, the place behind, and how far the source has moved -/
inductive ReadCase (x : Str) (dat : List (Str × List Value)) (turn : Int) (i0 : Int) : Str → Int → Option Int → Str → Int → Int → Int → Prop
  | plain {taken} (e0 e1 e2 : Int) (o0 o1 : Option Int) (C0 : DigCase x i0 e0 o0) (hdol : (Txt.slice x (some e0) (some (e0 + 1)) == Str.ofString "$") = false)
      (G : FlagRun x i0 e1) (hstar : (Txt.slice x (some e1) (some (e1 + 1)) == Str.ofString "*") = false)
      (C1 : DigCase x e1 e2 o1) (he2 : 0 ≤ e2) (he2' : e2 < x.length) (hlet0 : (Txt.slice x (some e2) (some (e2 + 1)) == Str.ofString "") = false) (hlet1 : (Builtin.Str.occurrences (Str.ofString "dioxXfeEgGs%") (Txt.slice x (some e2) (some (e2 + 1))) 0 (Str.ofString "dioxXfeEgGs%").length 1).isEmpty = false) (hdot : (Txt.slice x (some e2) (some (e2 + 1)) == Str.ofString ".") = false) :
      ReadCase x dat turn i0 (Txt.slice x (some i0) (some e1)) (o1.getD 0) none (Txt.slice x (some e2) (some (e2 + 1))) (e2 + 1) taken taken
  | dot {taken} (e0 e1 e2 e3 v2 : Int) (o0 o1 : Option Int) (C0 : DigCase x i0 e0 o0) (hdol : (Txt.slice x (some e0) (some (e0 + 1)) == Str.ofString "$") = false)
      (G : FlagRun x i0 e1) (hstar : (Txt.slice x (some e1) (some (e1 + 1)) == Str.ofString "*") = false)
      (C1 : DigCase x e1 e2 o1) (he2 : 0 ≤ e2) (hdot : (Txt.slice x (some e2) (some (e2 + 1)) == Str.ofString ".") = true) (hstar2 : (Txt.slice x (some (e2 + 1)) (some (e2 + 1 + 1)) == Str.ofString "*") = false) (C2 : DigCase x (e2 + 1) e3 (some v2)) (he3 : 0 ≤ e3) (he3' : e3 < x.length) (hlet0 : (Txt.slice x (some e3) (some (e3 + 1)) == Str.ofString "") = false) (hlet1 : (Builtin.Str.occurrences (Str.ofString "dioxXfeEgGs%") (Txt.slice x (some e3) (some (e3 + 1))) 0 (Str.ofString "dioxXfeEgGs%").length 1).isEmpty = false) :
      ReadCase x dat turn i0 (Txt.slice x (some i0) (some e1)) (o1.getD 0) (some v2) (Txt.slice x (some e3) (some (e3 + 1))) (e3 + 1) taken taken
  | star {taken} (its : List Value) (n : Int) (ti : Tok) (hd : dat[taken.toNat]? = some (Str.ofString "integer", its)) (hit : its[(turn.fmod its.length).toNat]? = some (.int n ti)) (ht0 : 0 ≤ taken) (hn0 : -8000 ≤ n) (hn1 : n ≤ 8000)
      (e0 e1 : Int) (o0 : Option Int) (C0 : DigCase x i0 e0 o0) (hdol : (Txt.slice x (some e0) (some (e0 + 1)) == Str.ofString "$") = false)
      (G : FlagRun x i0 e1) (hstar : (Txt.slice x (some e1) (some (e1 + 1)) == Str.ofString "*") = true)
      (he2' : e1 + 1 < x.length) (hlet0 : (Txt.slice x (some (e1 + 1)) (some (e1 + 1 + 1)) == Str.ofString "") = false) (hlet1 : (Builtin.Str.occurrences (Str.ofString "dioxXfeEgGs%") (Txt.slice x (some (e1 + 1)) (some (e1 + 1 + 1))) 0 (Str.ofString "dioxXfeEgGs%").length 1).isEmpty = false) (hdot : (Txt.slice x (some (e1 + 1)) (some (e1 + 1 + 1)) == Str.ofString ".") = false) :
      ReadCase x dat turn i0 (starFl n (Txt.slice x (some i0) (some e1))) (starWd n) none (Txt.slice x (some (e1 + 1)) (some (e1 + 1 + 1))) (e1 + 1 + 1) taken (taken + 1)
abbrev RetRead (P : Params) (src srcd va : Addr) (k0 k1 k2 : Tok) (turn : Int) (tt : Tok) (taken' : Int) (news : List (Addr × Obj)) (fl : Str) (wd : Int) (o : Option Int) (lt : Str) (e : Int) (h₀ : Heap) (L : Addr) (m : Str → Option Value) (s : Shared) (Q : Value → Shared → Prop) : Prop :=
  ∀ (tp sx sd : Addr) (q0 q1 q2 q3 q4 tf tw tv tl te t' : Tok) (h' : Heap) (tk' : Nat), Fr h₀ L h' m →
    News h₀ L h' ((tp, { cls := .type "tuple", data := .seq #[.ref sx, .int e te] }) :: (sx, instObj 443 sd) :: (sd, dictOf (specD P q0 q1 q2 q3 q4 fl tf wd tw (optV o tv) lt tl .none) 5) :: (src, instObj 492 srcd) :: (srcd, dictOf (srcD P k0 k1 k2 va turn tt taken' t') 3) :: news) →
    (∀ p ∈ news, p.1 < sd) → src < sd → srcd < sd → sd < sx → sx < tp → Q (.ref tp) { s with heap := h', toks := tk' }
theorem read_any_ok {w : World} {x : Str} {tx ta : Tok} {src srcd va : Addr} {k0 k1 k2 tt tk : Tok} {vs : List Value} {nn : Nat} {dat : List (Str × List Value)} {turn taken taken' : Int} {i0 e : Int} {fl : Str} {wd : Int} {o : Option Int} {lt : Str} {news : List (Addr × Obj)}
    (C : ReadCase x dat turn i0 fl wd o lt e taken taken')
    (hne : ∀ p ∈ news, p.1 ≠ srcd) (hsd : srcd < src) (hva : (va, listOf vs.toArray nn) ∈ news) (hvl : vs.length ≤ 2) (V : VsIn w.params news vs dat) (ht : 0 ≤ turn) (ht1 : turn ≤ 2) :
    Ctr w 503 3 [.str x tx, .int i0 ta, .ref src] ((src, instObj 492 srcd) :: (srcd, dictOf (srcD w.params k0 k1 k2 va turn tt taken tk) 3) :: news)
      (RetRead w.params src srcd va k0 k1 k2 turn tt taken' news fl wd o lt e) := by
  cases C with
  | plain e0 e1 e2 o0 o1 C0 hdol G hstar C1 he2 he2' hlet0 hlet1 hdot =>
    intro mg mb mean loose dp un gd cn cs a ccd cl outer A₀ base h₀ L m s Q E B F X N T hk hdp hun hret
    exact read_spec_ok C0 hdol G hstar C1 he2 he2' hlet0 hlet1 hdot _ _ _ _ _ _ _ _ _ _ _ _ _ _ _ _ _ _ _ _ _ B F X N T hk hdp hun
      (fun tp sx sd q0 q1 q2 q3 q4 tf tw tv tl te h' tk' F' N' hl h2 h3 => hret tp sx sd q0 q1 q2 q3 q4 tf tw tv tl te tk h' tk' F' N' (fun p hp => hl p (.tail _ (.tail _ hp))) (hl _ (.head _)) (hl _ (.tail _ (.head _))) h2 h3)
  | dot e0 e1 e2 e3 v2 o0 o1 C0 hdol G hstar C1 he2 hdot hstar2 C2 he3 he3' hlet0 hlet1 =>
    intro mg mb mean loose dp un gd cn cs a ccd cl outer A₀ base h₀ L m s Q E B F X N T hk hdp hun hret
    exact read_dot_ok C0 hdol G hstar C1 he2 hdot hstar2 C2 he3 he3' hlet0 hlet1 _ _ _ _ _ _ _ _ _ _ _ _ _ _ _ _ _ _ _ _ _ B F X N T hk hdp hun
      (fun tp sx sd q0 q1 q2 q3 q4 tf tw tv tl te h' tk' F' N' hl h2 h3 => hret tp sx sd q0 q1 q2 q3 q4 tf tw tv tl te tk h' tk' F' N' (fun p hp => hl p (.tail _ (.tail _ hp))) (hl _ (.head _)) (hl _ (.tail _ (.head _))) h2 h3)
  | star its n ti hd hit ht0 hn0 hn1 e0 e1 o0 C0 hdol G hstar he2' hlet0 hlet1 hdot =>
    obtain ⟨v, a1, a2, a3⟩ := V _ _ _ hd
    intro mg mb mean loose dp un gd cn cs a ccd cl outer A₀ base h₀ L m s Q E B F X N T hk hdp hun hret
    exact read_star_ok hne hsd hva a1 ht0 hvl a2 hit ht ht1 a3 hn0 hn1 C0 hdol G hstar he2' hlet0 hlet1 hdot _ _ _ _ _ _ _ _ _ _ _ _ _ _ _ _ _ _ _ _ _ B F X N T hk hdp hun
      (fun tp sx sd q0 q1 q2 q3 q4 tf tw tl te t' h' tk' F' N' hl h2 h3 h4 h5 => hret tp sx sd q0 q1 q2 q3 q4 tf tw 0 tl te t' h' tk' F' N' hl h2 h3 h4 h5)
/-- from a place on, the text is literals and forms, and gives these texts -/
inductive Run (x : Str) (dat : List (Str × List Value)) (turn : Int) : Int → Int → List Str → Prop
  | done {taken} : Run x dat turn x.length taken []
  | step {at_ taken} (e e' : Int) (fl : Str) (wd : Int) (o : Option Int) (lt : Str) (mid taken' : Int) (r : Str) (rest : List Str)
      (h0 : 0 ≤ at_) (h1 : at_ ≤ e) (h2 : e < x.length) (h3 : x.length ≤ 500) (hf : Txt.find3 x (Str.ofString "%") at_ = e)
      (R : ReadCase x dat turn (e + 1) fl wd o lt e' taken mid) (O : OneCase dat turn fl wd o lt mid taken' r)
      (hr : r.length ≤ 9000) (he : e < e') (he' : e' ≤ x.length) (next : Run x dat turn e' taken' rest) : Run x dat turn at_ taken (Txt.slice x (some at_) (some e) :: r :: rest)
def GoesOn (x : Str) (dat : List (Str × List Value)) (turn : Int) (out : List Str) (at_ : Int) (parts : List Str) (taken : Int) : Prop :=
  ∃ rest, Run x dat turn at_ taken rest ∧ parts ++ rest = out
theorem GoesOn.step {x : Str} {dat : List (Str × List Value)} {turn : Int} {out : List Str} {i : Int} {parts : List Str} {taken : Int} (g : GoesOn x dat turn out i parts taken) (hi : i < x.length) :
    ∃ (e e' : Int) (fl : Str) (wd : Int) (o : Option Int) (lt : Str) (mid taken' : Int) (r : Str), (0 ≤ i ∧ i ≤ e ∧ e < x.length ∧ e < e' ∧ e' ≤ x.length) ∧ Txt.find3 x (Str.ofString "%") i = e ∧
      ReadCase x dat turn (e + 1) fl wd o lt e' taken mid ∧ OneCase dat turn fl wd o lt mid taken' r ∧ GoesOn x dat turn out e' (parts ++ [Txt.slice x (some i) (some e)] ++ [r]) taken' := by
  obtain ⟨rest, R, hout⟩ := g
  cases R with
  | done => exact absurd hi (by omega)
  | step e e' fl wd o lt mid taken' r rest h0 h1 h2 h3 hf R O hr he he' next =>
    exact ⟨e, e', fl, wd, o, lt, mid, taken', r, ⟨h0, h1, h2, he, he'⟩, hf, R, O, rest, next, by rw [← hout]; simp⟩
theorem GoesOn.fin {x : Str} {dat : List (Str × List Value)} {turn : Int} {out : List Str} {i : Int} {parts : List Str} {taken : Int} (g : GoesOn x dat turn out i parts taken) (hi : ¬ i < x.length) : parts = out := by
  obtain ⟨rest, R, hout⟩ := g
  cases R with
  | done => rw [← hout, List.append_nil]
  | step e e' fl wd o lt mid taken' r rest h0 h1 h2 h3 hf R O hr he he' next => exact absurd h2 (by omega)
theorem find_e {prog : Program} {w : World} {A : Around} {E : Value → Shared → Prop} {s : Shared} {x y : Str} {t u v : Tok} {i e : Int} {Q : Value → Shared → Prop} (hf : Txt.find3 x y i = e) (hq : Q (.int e s.toks) { s with toks := s.toks + 1 }) : wpAny (model prog w) A (call (.builtin "str.find") [.str x t, .str y u, .int i v]) Q E s := by
  subst hf
  exact SC.find3 hq
theorem bub1 {h₀ h : Heap} {L : Addr} {a s d : Addr × Obj} {n : List (Addr × Obj)} (N : News h₀ L h (a :: s :: d :: n)) : News h₀ L h (s :: d :: a :: n) := by
  refine mem_sub N ?_
  intro p hp
  simp only [List.mem_cons] at hp ⊢
  rcases hp with h | h | h | h <;> simp [h]
theorem GoesOn.len {x : Str} {dat : List (Str × List Value)} {turn : Int} {out : List Str} {i : Int} {parts : List Str} {taken : Int} (g : GoesOn x dat turn out i parts taken) : parts.length ≤ out.length := by
  obtain ⟨rest, R, hout⟩ := g
  rw [← hout, List.length_append]
  omega
theorem StrsAre.snoc {a : Array Value} {ys : List Str} {y : Str} {t : Tok} (h : StrsAre a.toList ys) : StrsAre (a.push (.str y t)).toList (ys ++ [y]) := by
  rw [Array.toList_push]
  exact StrsAre.append' h (.cons _ _ .nil)
theorem strs_size {a : Array Value} {ys : List Str} (h : StrsAre a.toList ys) : a.size = ys.length := by
  rw [← StrsAre.length h, Array.length_toList]
/-- what sprintf_one's loop turns: the place, the texts, what the source has given -/
abbrev OneSt := Int × Tok × List Str × Array Value × Nat × Int × Tok
abbrev oneLed (P : Params) (l src srcd va : Addr) (k0 k1 k2 : Tok) (turn : Int) (tt : Tok) (news : List (Addr × Obj)) (c : OneSt) : List (Addr × Obj) :=
  (l, listOf c.2.2.2.1 c.2.2.2.2.1) :: (src, instObj 492 srcd) :: (srcd, dictOf (srcD P k0 k1 k2 va turn tt c.2.2.2.2.2.1 c.2.2.2.2.2.2) 3) :: news
abbrev onePs (c : OneSt) : List (Str × Value) := [("at", .int c.1 c.2.1)]
abbrev oneFacts (c : OneSt) : Prop := StrsAre c.2.2.2.1.toList c.2.2.1
abbrev oneGo (x : Str) (dat : List (Str × List Value)) (turn : Int) (out : List Str) (c : OneSt) : Prop := GoesOn x dat turn out c.1 c.2.2.1 c.2.2.2.2.2.1
abbrev oneMu (x : Str) (c : OneSt) : Nat := (x.length - c.1).toNat
theorem loop_one {prog : Program} {w : World} {A : Around} {E : Value → Shared → Prop} {Q : Flow → Shared → Prop} {s : Shared} {env : Env} {h₀ : Heap} {L : Addr} {test : PySem.Expr} {body : List Stmt} {pos : Pos} {m₀ : Str → Option Value}
    {P : Params} {l src srcd va : Addr} {k0 k1 k2 tt t0 t1 : Tok} {n0 : Nat} {x : Str} {dat : List (Str × List Value)} {turn : Int} {out : List Str} {news : List (Addr × Obj)} (stored : List Str)
    (R : Run x dat turn 0 0 out) (F : Fr h₀ L s.heap m₀) (N : News h₀ L s.heap ((l, listOf #[] n0) :: (src, instObj 492 srcd) :: (srcd, dictOf (srcD P k0 k1 k2 va turn tt 0 t1) 3) :: news)) (hat : m₀ "at" = some (.int 0 t0))
    (go : ∀ (i : Int) (ti : Tok) (parts : List Str) (items : Array Value) (n : Nat) (taken : Int) (tk : Tok) (u : Str → Option Value) h tk', StrsAre items.toList parts → GoesOn x dat turn out i parts taken →
      Fr h₀ L h (kstB (fun z => if stored.contains z then u z else m₀ z) [("at", .int i ti)]) → News h₀ L h ((l, listOf items n) :: (src, instObj 492 srcd) :: (srcd, dictOf (srcD P k0 k1 k2 va turn tt taken tk) 3) :: news) →
      wpAny (model prog w) A (isTrue test env (eval test env)) (fun b s₂ =>
        if b = true then wpAny (model prog w) A (execs body env) (KswPost h₀ L s (oneLed P l src srcd va k0 k1 k2 turn tt news) onePs oneFacts stored m₀ (oneGo x dat turn out) (oneMu x) Q (i, ti, parts, items, n, taken, tk)) E s₂ else Q .next s₂) E { s with heap := h, toks := tk' })
    (hE : PassesOwn (model prog w) A env E := by passes_own) :
    wpAny (model prog w) A (exec (.While test body [] pos) env) Q E s :=
  ksw_while (oneLed P l src srcd va k0 k1 k2 turn tt news) onePs oneFacts stored (oneGo x dat turn out) (oneMu x) (0, t0, [], #[], n0, 0, t1) F N StrsAre.nil (fun p hp => by
    rcases List.mem_cons.mp hp with rfl | hp
    · exact hat
    · cases hp) ⟨out, R, rfl⟩ (fun c u h tk hf hp F' N' => go c.1 c.2.1 c.2.2.1 c.2.2.2.1 c.2.2.2.2.1 c.2.2.2.2.2.1 c.2.2.2.2.2.2 u h tk hf hp F' N') hE
local macro_rules | `(tactic| k_all) => `(tactic| first | assumption | exact fun p hp => Nat.ne_of_lt (ktn_ltOf (by assumption) p hp))
section
local macro_rules | `(tactic| walk_at "KswEnd") => `(tactic| ((rename News _ _ _ _ => nE'); (refine' ksw_end ⟨_, _, _, _, _, _, _⟩ ?z1 nE' ?z2 ?z3 ?z4 ?z5 ?z6 ?z7); (case z6 => assumption); (case z1 => assumption); (case z2 => exact mem_one (by k_mem) (mem_one (by k_mem) (mem_one (by k_mem) (fun p hp => by k_mem)))); (case z3 => exact StrsAre.snoc (StrsAre.snoc (by assumption))); (case z4 => kst_all); (case z5 => ksw_same); (case z7 => (dsimp only [oneMu]; omega))))
set_option maxHeartbeats 4000000 in
theorem sprintf_one_ok {w : World} {x : Str} {tx tt : Tok} {va : Addr} {vs : List Value} {nn : Nat} {dat : List (Str × List Value)} {turn : Int} {out : List Str} {news : List (Addr × Obj)}
    (R : Run x dat turn 0 0 out) (hva : (va, listOf vs.toArray nn) ∈ news) (hvl : vs.length ≤ 2) (V : VsIn w.params news vs dat) (ht : 0 ≤ turn) (ht1 : turn ≤ 2) (hx : x.length ≤ 500) (hout : (out.map (·.length)).sum ≤ 100000) (hol : out.length ≤ 100) :
    Ctr w 588 6 [.str x tx, .ref va, .int turn tt] news (RetV news fun t => .str (Txt.join (Str.ofString "") out) t) := by
  unfold Ctr
  k_with_none
  k_with "call builtin:str.find" => ((k_here; (with_reducible show wpAny _ _ (call (Value.builtin "str.find") [Value.str _ _, Value.str _ _, Value.int _ _]) _ _ _); (rename GoesOn _ _ _ _ _ _ _ => g9); (obtain ⟨e9, e8, fl9, wd9, o9, lt9, mid9, tk8, r9, hb9, hf9, hr9, ho9, hg9⟩ := g9.step (by omega)); refine find_e hf9 ?_))
  k_with "call ref" => ((k_here; (with_reducible show wpAny _ _ (call (Value.ref 503) [Value.str _ _, Value.int _ _, Value.ref _]) _ _ _); k_dflt (refine' Ctr.use (by k_asm) (by k_asm) (by k_asm) (by exact bub1 (by k_asm)) (by k_asm) (by rfl) (read_any_ok (by assumption) (by k_all) (by omega) (by k_mem) (by assumption) (by ((rename VsIn _ _ _ _ => V9); exact V9.mono (fun p hp => by k_mem))) (by assumption) (by assumption)) (by (dsimp only; omega)) (by (dsimp only; omega)) ?_; intro tp9 sx9 sd9 q0 q1 q2 q3 q4 tf9 tw9 tv9 tl9 te9 t9 h9 tk9 F9 N9 l9 lx9 ly9 lz9 lw9; (try k_lt l9); (try replace lx9 := ltN lx9); (try replace ly9 := ltN ly9); (try replace lz9 := ltN lz9); (try replace lw9 := ltN lw9); (try dsimp only); (try k_fold))))
  k_with "call ref" => ((k_here; (with_reducible show wpAny _ _ (call (Value.ref 581) [Value.ref _, Value.ref _]) _ _ _); k_dflt (refine' Ctr.use (by k_asm) (by k_asm) (by k_asm) (by exact bub3 (by k_asm)) (by k_asm) (by rfl) (one_any_ok (by assumption) (by k_all) (by omega) (by k_mem) (by assumption) (by ((rename VsIn _ _ _ _ => V9); exact V9.mono (fun p hp => by k_mem))) (by assumption) (by assumption) (by k_mem) (by k_mem)) (by (dsimp only; omega)) (by (dsimp only; omega)) ?_; intro t9 t8 h9 tk9 F9 N9; (try dsimp only); (try k_fold))))
  k_with "call builtin:str.join" => ((k_here; (with_reducible show wpAny _ _ (call (Value.builtin "str.join") [Value.str _ _, Value.ref _]) _ _ _); (rename GoesOn _ _ _ _ _ _ _ => g9); (have he9 := g9.fin (by omega)); subst he9; k_dflt (refine' join_list (by is_list) (by (first | assumption | (simp only [List.toList_toArray]; assumption))) (by (simp only [len_e]; omega)) ?_; intro t9 k9)))
  k_with "call builtin:list.append" => ((k_here; (with_reducible show wpAny _ _ (call (Value.builtin _) [Value.ref _, _]) _ _ _); k_dflt (refine' append_K (by k_asm) (by k_asm) (by k_upd) ?_ (by ((rename StrsAre _ _ => hS9); (have hz9 := strs_size hS9); (try rw [Array.size_push]); rw [sizeLine_eq]; omega)); k_whole); intro h' F' N'; (try k_sweep)))
  k_with "exec While Compare cons nil" => ((k_here; (refine loop_one ["at", "end", "spec"] (by assumption) (by assumption) (by assumption) (by with_unfolding_all rfl) ?_); intro kI kTi kParts kItems kN kTaken kTk kU kH kTk' kFacts kInv kFr kNews; (have hp9 := kInv.len); (try dsimp only [kstB] at kFr); (try dsimp only at kNews)))
  k_fill
  intro mg mb mean loose dp un gd cn cs a ccd cl outer A₀ base h₀ L m s Q E B F X N T hk hdp hun hret
  refine wpAny_call ?_
  k_dflt cell_enter
  k_steps
  exact hret _ _ _ (by assumption) (mem_sub (by assumption) (fun p hp => by k_mem))
end
/-- the texts that come back, in a new list -/
abbrev RetL (news : List (Addr × Obj)) (R : List Str) (h₀ : Heap) (L : Addr) (m : Str → Option Value) (s : Shared) (Q : Value → Shared → Prop) : Prop :=
  ∀ (tp : Addr) (n : Nat) (items : Array Value) (h' : Heap) (tk' : Nat), StrsAre items.toList R → Fr h₀ L h' m → News h₀ L h' ((tp, listOf items n) :: news) → (∀ p ∈ news, p.1 < tp) → Q (.ref tp) { s with heap := h', toks := tk' }
structure RunOk (x : Str) (dat : List (Str × List Value)) (turn : Int) (out : List Str) : Prop where
  run : Run x dat turn 0 0 out
  sum : (out.map (·.length)).sum ≤ 100000
  len : out.length ≤ 100
theorem len_anyA {prog w A E s} {l : Addr} {its : Array Value} {Q : Value → Shared → Prop} (hl : s.heap.IsList l its) (hfit : its.size ≤ 2)
    (h : Q (.int its.size (s.toks + 1)) { s with toks := s.toks + 1 + 1 }) : wpAny (model prog w) A (call (.builtin "len") [.ref l]) Q E s :=
  call_len_list hl (by omega) h
theorem unrEndR {h₀ : Heap} {L I : Addr} {it : Obj} {rest : (Str → Option Value) → List (Addr × Obj) → Prop} {s₁ : Shared} {h' : Heap} {tk : Nat} {m' : Str → Option Value} {all news : List (Addr × Obj)} {l : Addr} {a : Array Value} {n : Nat} {z : Addr × Obj}
    (hz : z ∈ news) (F : Fr h₀ L h' m') (N : News h₀ L h' all) (hI : (I, it) ∈ all) (hq : (l, listOf a n) ∈ all) (hs : ∀ p ∈ news, p ∈ all) (oq : l < I) (off : AllLt I news) (r : rest m' ((l, listOf a n) :: news)) : UnrEnd h₀ L s₁ I it rest { s₁ with heap := h', toks := tk } :=
  UnrEnd.intro F N _ (mem_one hI (mem_one hq hs)) (fun p hp => by
    rcases List.mem_cons.mp hp with rfl | hp
    · exact Nat.ne_of_lt oq
    · exact Nat.ne_of_lt (ktn_ltOf off p hp)) r
section
local macro_rules | `(tactic| walk_at "UnrEnd") => `(tactic| (k_dflt (refine' UnrEnd.intro ?eF ?eN _ ?eS ?eO ⟨?eL, ?_⟩; (case eL => assumption); (case eF => assumption); (case eN => assumption); (case eS => exact mem_one (by k_mem) (fun p hp => by k_mem)); (case eO => exact fun p hp => Nat.ne_of_lt (by first | exact (by assumption : ∀ p ∈ _, p.1 < _) p hp | exact ktn_ltOf (by assumption) p hp)))))
set_option maxHeartbeats 4000000 in
theorem vectors_1_ok {w : World} {x : Str} {tx : Tok} {fv va v : Addr} {nn : Nat} {kind : Str} {i1 : Value} {out : List Str} {news : List (Addr × Obj)}
    (hf : VecIn w.params news fv (Str.ofString "character") [.str x tx]) (hva : (va, listOf [.ref v].toArray nn) ∈ news) (V : VecIn w.params news v kind [i1]) (hk9 : kind = Str.ofString "integer" ∨ kind = Str.ofString "character")
    (hx : x.length ≤ 500) (R0 : RunOk x [(kind, [i1])] 0 out) :
    Ctr w 595 7 [.ref fv, .ref va] news (RetL news [Txt.join (Str.ofString "") out]) := by
  unfold Ctr
  k_with_none
  k_with "call ref" => ((k_here; (with_reducible show wpAny _ _ (call (Value.ref 588) [Value.str _ _, Value.ref _, Value.int _ _]) _ _ _); k_dflt (refine' Ctr.use (by k_asm) (by k_asm) (by k_asm) (by k_asm) (by k_asm) (by rfl) (sprintf_one_ok (RunOk.run (by assumption)) (by k_mem) (by exact Nat.le_of_ble_eq_true rfl) (by ((rename VsIn _ _ _ _ => V9); exact V9.mono (fun p hp => by k_mem))) (by decide) (by decide) (by assumption) (RunOk.sum (by assumption)) (RunOk.len (by assumption))) (by (dsimp only; omega)) (by (dsimp only; omega)) ?_; intro t9 h9 tk9 F9 N9; (try dsimp only); (try k_fold))))
  k_with "exec For Name Name cons nil" => ((k_here; (rename Fr _ _ _ _ => lF'); (with_unfolding_all refine' For_invVF lF' (by exact rfl) (by exact rfl) ?_; k_whole)))
  k_with "subscriptTail Name BinOp ref int" => ((k_here; (with_reducible show wpAny _ _ (subscriptTail _ _ (Value.ref _) (Value.int _ _)) _ _ _); k_dflt (refine' item_at (by exact News.isList (by k_asm) (by k_mem)) (by decide) (by decide) (by exact rfl) ?_ (by with_unfolding_all rfl))))
  k_with "pyIter ref" => (((with_reducible show wpAny _ _ (pyIter (Value.ref _)) (fun it s₂ => LoopAtV _ _ _ _ _ _ _ _ _ it s₂) _ _); k_dflt (refine iter_listUnr (by rfl) (by assumption) (by assumption) (by assumption) (by rfl) (by rfl) ?_); intro i' l1))
  k_with "UnrEnd" => ((k_dflt (refine' unrEndR (by assumption) (by assumption) (by assumption) (by k_mem) (by k_mem) (by exact (fun p hp => by k_mem)) (by exact ltN (by omega)) (by ((rename (_ ∧ AllLt _ _) => l8); exact l8.2)) ?_)))
  k_fill
  intro mg mb mean loose dp un gd cn cs a ccd cl outer A₀ base h₀ L m s Q E B F X N T hk hdp hun hret
  have VV : VsIn w.params news [.ref v] [(kind, [i1])] := by
    intro k kd its e
    cases k with
    | zero =>
      cases e
      exact ⟨v, rfl, V, Nat.le_succ 1⟩
    | succ k => cases e
  obtain ⟨fd, fa, p0, p1, p2, p3, p4, pk, m9, hf1, hf2, hf3⟩ := hf
  obtain ⟨vd, ia, q0, q1, q2, q3, q4, qk, n9, hv1, hv2, hv3⟩ := V
  have hkin : ([Str.ofString "logical", Str.ofString "integer", Str.ofString "double", Str.ofString "character"].any fun x => x == kind) = true := by
    rcases hk9 with rfl | rfl <;> decide +kernel
  refine wpAny_call ?_
  k_dflt cell_enter
  k_steps
  all_goals first
    | (exfalso; (rename (ite _ _ _ = _) => kSe9); revert kSe9; decide)
    | (refine' hret _ _ _ _ _ ?hS ?hF (mem_sub ?hN ?hM) ?hL; (case hF => assumption); (case hN => assumption); (case hM => exact mem_one (by k_mem) (fun p hp => by k_mem)); (case hS => exact StrsAre.snoc StrsAre.nil); (case hL => assumption))
end
section
local macro_rules | `(tactic| walk_at "UnrEnd") => `(tactic| (k_dflt (refine' UnrEnd.intro ?eF ?eN _ ?eS ?eO ⟨?eL, ?_⟩; (case eL => assumption); (case eF => assumption); (case eN => assumption); (case eS => exact mem_one (by k_mem) (fun p hp => by k_mem)); (case eO => exact fun p hp => Nat.ne_of_lt (by first | exact (by assumption : ∀ p ∈ _, p.1 < _) p hp | exact ktn_ltOf (by assumption) p hp)))))
set_option maxHeartbeats 4000000 in
theorem vectors_2_ok {w : World} {x : Str} {tx : Tok} {fv va v v' : Addr} {nn : Nat} {kind : Str} {i1 i2 : Value} {out : List Str} {news : List (Addr × Obj)}
    (hf : VecIn w.params news fv (Str.ofString "character") [.str x tx]) (hva : (va, listOf [.ref v, .ref v'].toArray nn) ∈ news) (V : VecIn w.params news v (Str.ofString "integer") [i1]) (V' : VecIn w.params news v' kind [i2]) (hk9 : kind = Str.ofString "integer" ∨ kind = Str.ofString "character")
    (hx : x.length ≤ 500) (R0 : RunOk x [(Str.ofString "integer", [i1]), (kind, [i2])] 0 out) :
    Ctr w 595 7 [.ref fv, .ref va] news (RetL news [Txt.join (Str.ofString "") out]) := by
  unfold Ctr
  k_with_none
  k_with "call ref" => ((k_here; (with_reducible show wpAny _ _ (call (Value.ref 588) [Value.str _ _, Value.ref _, Value.int _ _]) _ _ _); k_dflt (refine' Ctr.use (by k_asm) (by k_asm) (by k_asm) (by k_asm) (by k_asm) (by rfl) (sprintf_one_ok (RunOk.run (by assumption)) (by k_mem) (by exact Nat.le_of_ble_eq_true rfl) (by ((rename VsIn _ _ _ _ => V9); exact V9.mono (fun p hp => by k_mem))) (by decide) (by decide) (by assumption) (RunOk.sum (by assumption)) (RunOk.len (by assumption))) (by (dsimp only; omega)) (by (dsimp only; omega)) ?_; intro t9 h9 tk9 F9 N9; (try dsimp only); (try k_fold))))
  k_with "exec For Name Name cons nil" => ((k_here; (rename Fr _ _ _ _ => lF'); (with_unfolding_all refine' For_invVF lF' (by exact rfl) (by exact rfl) ?_; k_whole)))
  k_with "subscriptTail Name BinOp ref int" => ((k_here; (with_reducible show wpAny _ _ (subscriptTail _ _ (Value.ref _) (Value.int _ _)) _ _ _); k_dflt (refine' item_at (by exact News.isList (by k_asm) (by k_mem)) (by decide) (by decide) (by exact rfl) ?_ (by with_unfolding_all rfl))))
  k_with "pyIter ref" => (((with_reducible show wpAny _ _ (pyIter (Value.ref _)) (fun it s₂ => LoopAtV _ _ _ _ _ _ _ _ _ it s₂) _ _); k_dflt (refine iter_listUnr (by rfl) (by assumption) (by assumption) (by assumption) (by rfl) (by rfl) ?_); intro i' l1))
  k_with "UnrEnd" => ((k_dflt (refine' unrEndR (by assumption) (by assumption) (by assumption) (by k_mem) (by k_mem) (by exact (fun p hp => by k_mem)) (by exact ltN (by omega)) (by ((rename (_ ∧ AllLt _ _) => l8); exact l8.2)) ?_)))
  k_fill
  intro mg mb mean loose dp un gd cn cs a ccd cl outer A₀ base h₀ L m s Q E B F X N T hk hdp hun hret
  have VV : VsIn w.params news [.ref v, .ref v'] [(Str.ofString "integer", [i1]), (kind, [i2])] := by
    intro k kd its e
    match k with
    | 0 => cases e; exact ⟨v, rfl, V, Nat.le_succ 1⟩
    | 1 => cases e; exact ⟨v', rfl, V', Nat.le_succ 1⟩
    | k + 2 => cases e
  obtain ⟨fd, fa, p0, p1, p2, p3, p4, pk, m9, hf1, hf2, hf3⟩ := hf
  obtain ⟨vd, ia, q0, q1, q2, q3, q4, qk, n9, hv1, hv2, hv3⟩ := V
  obtain ⟨vd', ia', q0', q1', q2', q3', q4', qk', n9', hv1', hv2', hv3'⟩ := V'
  have hkin : ([Str.ofString "logical", Str.ofString "integer", Str.ofString "double", Str.ofString "character"].any fun x => x == kind) = true := by
    rcases hk9 with rfl | rfl <;> decide +kernel
  refine wpAny_call ?_
  k_dflt cell_enter
  k_steps
  all_goals first
    | (exfalso; (rename (ite _ _ _ = _) => kSe9); revert kSe9; decide)
    | (refine' hret _ _ _ _ _ ?hS ?hF (mem_sub ?hN ?hM) ?hL; (case hF => assumption); (case hN => assumption); (case hM => exact mem_one (by k_mem) (fun p hp => by k_mem)); (case hS => exact StrsAre.snoc StrsAre.nil); (case hL => assumption))
end
section
local macro_rules | `(tactic| walk_at "UnrEnd") => `(tactic| (k_dflt (refine' UnrEnd.intro ?eF ?eN _ ?eS ?eO ⟨?eL, ?_⟩; (case eL => assumption); (case eF => assumption); (case eN => assumption); (case eS => exact mem_one (by k_mem) (fun p hp => by k_mem)); (case eO => exact fun p hp => Nat.ne_of_lt (by first | exact (by assumption : ∀ p ∈ _, p.1 < _) p hp | exact ktn_ltOf (by assumption) p hp)))))
set_option maxHeartbeats 4000000 in
theorem vectors_t_ok {w : World} {x : Str} {tx : Tok} {fv va v : Addr} {nn : Nat} {i1 i2 : Value} {out out' : List Str} {news : List (Addr × Obj)}
    (hf : VecIn w.params news fv (Str.ofString "character") [.str x tx]) (hva : (va, listOf [.ref v].toArray nn) ∈ news) (V : VecIn w.params news v (Str.ofString "integer") [i1, i2])
    (hx : x.length ≤ 500) (R0 : RunOk x [(Str.ofString "integer", [i1, i2])] 0 out) (R1 : RunOk x [(Str.ofString "integer", [i1, i2])] 1 out') :
    Ctr w 595 7 [.ref fv, .ref va] news (RetL news [Txt.join (Str.ofString "") out, Txt.join (Str.ofString "") out']) := by
  unfold Ctr
  k_with_none
  k_with "call ref" => ((k_here; (with_reducible show wpAny _ _ (call (Value.ref 588) [Value.str _ _, Value.ref _, Value.int _ _]) _ _ _); k_dflt (refine' Ctr.use (by k_asm) (by k_asm) (by k_asm) (by k_asm) (by k_asm) (by rfl) (sprintf_one_ok (RunOk.run (by assumption)) (by k_mem) (by exact Nat.le_of_ble_eq_true rfl) (by ((rename VsIn _ _ _ _ => V9); exact V9.mono (fun p hp => by k_mem))) (by decide) (by decide) (by assumption) (RunOk.sum (by assumption)) (RunOk.len (by assumption))) (by (dsimp only; omega)) (by (dsimp only; omega)) ?_; intro t9 h9 tk9 F9 N9; (try dsimp only); (try k_fold))))
  k_with "exec For Name Name cons nil" => ((k_here; (rename Fr _ _ _ _ => lF'); (with_unfolding_all refine' For_invVF lF' (by exact rfl) (by exact rfl) ?_; k_whole)))
  k_with "subscriptTail Name BinOp ref int" => ((k_here; (with_reducible show wpAny _ _ (subscriptTail _ _ (Value.ref _) (Value.int _ _)) _ _ _); k_dflt (refine' item_at (by exact News.isList (by k_asm) (by k_mem)) (by decide) (by decide) (by exact rfl) ?_ (by with_unfolding_all rfl))))
  k_with "pyIter ref" => (((with_reducible show wpAny _ _ (pyIter (Value.ref _)) (fun it s₂ => LoopAtV _ _ _ _ _ _ _ _ _ it s₂) _ _); k_dflt (refine iter_listUnr (by rfl) (by assumption) (by assumption) (by assumption) (by rfl) (by rfl) ?_); intro i' l1))
  k_with "UnrEnd" => ((k_dflt (refine' unrEndR (by assumption) (by assumption) (by assumption) (by k_mem) (by k_mem) (by exact (fun p hp => by k_mem)) (by exact ltN (by omega)) (by ((rename (_ ∧ AllLt _ _) => l8); exact l8.2)) ?_)))
  k_fill
  intro mg mb mean loose dp un gd cn cs a ccd cl outer A₀ base h₀ L m s Q E B F X N T hk hdp hun hret
  have VV : VsIn w.params news [.ref v] [(Str.ofString "integer", [i1, i2])] := by
    intro k kd its e
    match k with
    | 0 => cases e; exact ⟨v, rfl, V, Nat.le_refl 2⟩
    | k + 1 => cases e
  obtain ⟨fd, fa, p0, p1, p2, p3, p4, pk, m9, hf1, hf2, hf3⟩ := hf
  obtain ⟨vd, ia, q0, q1, q2, q3, q4, qk, n9, hv1, hv2, hv3⟩ := V
  refine wpAny_call ?_
  k_dflt cell_enter
  k_steps
  all_goals first
    | (exfalso; (rename (ite _ _ _ = _) => kSe9); revert kSe9; decide)
    | (refine' hret _ _ _ _ _ ?hS ?hF (mem_sub ?hN ?hM) ?hL; (case hF => assumption); (case hN => assumption); (case hM => exact mem_one (by k_mem) (fun p hp => by k_mem)); (case hS => exact StrsAre.snoc (StrsAre.snoc StrsAre.nil)); (case hL => assumption))
end
theorem app_list (x y : Str) : (x ++ y).cps.toList = x.cps.toList ++ y.cps.toList := by rw [Str.cps_append, Array.toList_append]
theorem l_m : (Str.ofString "-").cps.toList = [45] := by decide +kernel
theorem l_p : (Str.ofString "+").cps.toList = [43] := by decide +kernel
theorem l_b : (Str.ofString " ").cps.toList = [32] := by decide +kernel
theorem l_0 : (Str.ofString "0").cps.toList = [48] := by decide +kernel
theorem l_e : (Str.ofString "").cps.toList = [] := by decide +kernel
theorem slice_to {x : Str} {j : Int} (h1 : 0 ≤ j) (h2 : j ≤ x.length) : (Txt.slice x none (some j)).cps.toList = x.cps.toList.take j.toNat := by
  have e : Txt.slice x none (some j) = Txt.slice x (some 0) (some j) := by
    show StrLaws.sliceText x none (some j) = StrLaws.sliceText x (some 0) (some j)
    unfold StrLaws.sliceText
    rw [StrLaws.sliceIdx_none_lo]
  rw [e, slice_list (Int.le_refl 0) h1 h2]
  simp
theorem numT_signs {n : Int} : ∀ c ∈ (numT n).cps.toList, 48 ≤ c ∧ c ≤ 57 := by
  intro c hc
  have hn : 0 ≤ (if n < 0 then -n else n) := by split <;> omega
  unfold numT at hc
  generalize (if n < 0 then -n else n) = k at hc hn
  rw [signs_ofString] at hc
  obtain ⟨ch, hm, e⟩ := List.mem_map.mp hc
  rw [Int.toString_eq_repr, Int.repr_eq_if, if_pos hn, Nat.toList_repr] at hm
  have := digit_range (Nat.isDigit_of_mem_toDigits (by decide) (by decide) hm)
  omega
theorem numT_minus (n : Int) : (Txt.slice (numT n) none (some 1) == Str.ofString "-") = false := by
  rw [beq_eq_false_iff_ne]
  intro e
  have h : ∀ c ∈ (Txt.slice (numT n) none (some 1)).cps.toList, c ∈ (numT n).cps.toList := by
    intro c hc
    by_cases hl : (1 : Int) ≤ (numT n).length
    · rw [slice_to (by decide) hl] at hc
      exact List.mem_of_mem_take hc
    · have h0 : (numT n).length = 0 := by omega
      have h1 := Txt.slice_le (numT n) none (some 1)
      have h2 : (Txt.slice (numT n) none (some 1)).length = 0 := by omega
      have h3 : (Txt.slice (numT n) none (some 1)).cps.toList.length = 0 := by rw [Array.length_toList]; exact h2
      rw [List.eq_nil_of_length_eq_zero h3] at hc
      cases hc
  have h2 := numT_signs 45 (h 45 (by rw [e, l_m]; exact List.mem_singleton.mpr rfl))
  omega
theorem minus_head (y : Str) : (Txt.slice (Str.ofString "-" ++ y) none (some 1) == Str.ofString "-") = true := by
  rw [beq_iff_eq]
  refine str_ext ?_
  rw [slice_to (by decide) (by rw [len_app, len_m]; omega), app_list, l_m]
  rfl
theorem slice_from {x : Str} {a : Int} (h0 : 0 ≤ a) (h1 : a ≤ x.length) : (Txt.slice x (some a) none).cps.toList = x.cps.toList.drop a.toNat := by
  have e : Txt.slice x (some a) none = Txt.slice x (some a) (some x.length) := by
    show StrLaws.sliceText x (some a) none = StrLaws.sliceText x (some a) (some x.length)
    unfold StrLaws.sliceText
    rw [StrLaws.sliceIdx_none_hi]
  rw [e, slice_list h0 h1 (Int.le_refl _)]
  rw [List.take_of_length_le]
  rw [List.length_drop, Array.length_toList]
  have : x.length = x.cps.size := rfl
  omega
def frontF (n : Int) (fl : Str) : Str := headF (wholeF n) fl
theorem front_neg {n : Int} {fl : Str} (h : n < 0) : frontF n fl = Str.ofString "-" := by
  unfold frontF headF
  rw [show wholeF n = Str.ofString "-" ++ numT n from if_pos h, if_pos (minus_head _)]
theorem front_pos {n : Int} {fl : Str} (h : ¬ n < 0) : frontF n fl = if Txt.contains fl (Str.ofString "+") = true then Str.ofString "+" else if Txt.contains fl (Str.ofString " ") = true then Str.ofString " " else Str.ofString "" := by
  unfold frontF headF
  rw [show wholeF n = numT n from if_neg h, numT_minus]
  rfl
theorem digits_whole (n : Int) : digitsF (wholeF n) = numT n := by
  unfold digitsF
  by_cases h : n < 0
  · rw [show wholeF n = Str.ofString "-" ++ numT n from if_pos h, if_pos (minus_head _)]
    refine str_ext ?_
    rw [slice_from (by decide) (by rw [len_app, len_m]; omega), app_list, l_m]
    rfl
  · rw [show wholeF n = numT n from if_neg h, numT_minus]
    rfl
theorem front_len (n : Int) (fl : Str) : (frontF n fl).length ≤ 1 := by
  by_cases h : n < 0
  · rw [front_neg h, len_m]; omega
  · rw [front_pos h]
    split
    · rw [len_p]; omega
    · split
      · rw [len_b]; omega
      · rw [len_e]; omega
theorem zero_c : (Str.ofString "0").cps.getD 0 0 = 48 := by decide +kernel
/-- noughts ahead, as far as the width -/
def upTo (b : Str) (W : Int) : Str := Txt.rjustF b W 48
theorem upTo_step {b : Str} {W : Int} (h : (b.length : Int) < W) : upTo (Str.ofString "0" ++ b) W = upTo b W := by
  refine str_ext ?_
  unfold upTo
  rw [rjustF_list, rjustF_list, app_list, l_0, len_app]
  have e : W.toNat - b.length = (W.toNat - ((Str.ofString "0").length + b.length)) + 1 := by
    have : (Str.ofString "0").length = 1 := by decide +kernel
    omega
  rw [e, List.replicate_succ']
  simp
theorem upTo_end {b : Str} {W : Int} (h : ¬ (b.length : Int) < W) : upTo b W = b := by
  refine str_ext ?_
  unfold upTo
  rw [rjustF_list]
  have e : W.toNat - b.length = 0 := by omega
  rw [e]
  rfl
theorem numF_zero {n wd : Int} {fl : Str} (h1 : Txt.contains fl (Str.ofString "0") = true) (h2 : Txt.contains fl (Str.ofString "-") = false) :
    numF (some n) fl wd = padF (frontF n fl ++ upTo (numT n) (wd - (frontF n fl).length)) fl wd := by
  show padF (headF _ _ ++ filledF _ _ _) fl wd = _
  unfold filledF upTo
  rw [if_pos ⟨h1, h2⟩, digits_whole, zero_c]
  rfl
theorem numF_plain {n wd : Int} {fl : Str} (h : Txt.contains fl (Str.ofString "0") = false ∨ Txt.contains fl (Str.ofString "-") = true) :
    numF (some n) fl wd = padF (frontF n fl ++ numT n) fl wd := by
  show padF (headF _ _ ++ filledF _ _ _) fl wd = _
  unfold filledF
  rw [if_neg (by rintro ⟨h1, h2⟩; rcases h with h | h <;> simp_all), digits_whole]
  rfl
def blanksF (k : Int) : Str := if 0 < k then Txt.mul (Str.ofString " ") k else Str.ofString ""
theorem blanks_list (k : Int) : (blanksF k).cps.toList = List.replicate k.toNat 32 := by
  unfold blanksF
  split
  · rw [show Str.ofString " " = ⟨#[32]⟩ from by decide +kernel, mul_one_list]
  · rw [show k.toNat = 0 from by omega]
    rfl
theorem len_blanks (k : Int) : (blanksF k).length = k.toNat := by
  rw [len_of_list (blanks_list k), List.length_replicate]
theorem pad_left {body fl : Str} {wd : Int} (h : Txt.contains fl (Str.ofString "-") = true) (h0 : 0 ≤ wd) : body ++ blanksF (wd - body.length) = padF body fl wd := by
  unfold padF
  rw [if_pos h]
  refine str_ext ?_
  rw [app_list, blanks_list, show Txt.ljust body wd = Txt.ljustF body wd 32 from rfl, ljustF_list]
  rw [show (wd - (body.length : Int)).toNat = wd.toNat - body.length from by omega]
theorem pad_right {body fl : Str} {wd : Int} (h : Txt.contains fl (Str.ofString "-") = false) (h0 : 0 ≤ wd) : blanksF (wd - body.length) ++ body = padF body fl wd := by
  unfold padF
  rw [if_neg (by rw [h]; exact Bool.false_ne_true)]
  refine str_ext ?_
  rw [app_list, blanks_list, show Txt.rjust body wd = Txt.rjustF body wd 32 from rfl, rjustF_list]
  rw [show (wd - (body.length : Int)).toNat = wd.toNat - body.length from by omega]
theorem len_z : (Str.ofString "0").length = 1 := by decide +kernel
theorem front_p {n : Int} {fl : Str} (h : ¬ n < 0) (h1 : (Builtin.Str.occurrences fl (Str.ofString "+") 0 fl.length 1).isEmpty = false) : frontF n fl = Str.ofString "+" := by
  rw [front_pos h, if_pos (has_of h1)]
theorem front_b {n : Int} {fl : Str} (h : ¬ n < 0) (h1 : (Builtin.Str.occurrences fl (Str.ofString "+") 0 fl.length 1).isEmpty = true) (h2 : (Builtin.Str.occurrences fl (Str.ofString " ") 0 fl.length 1).isEmpty = false) : frontF n fl = Str.ofString " " := by
  rw [front_pos h, hasnt_of h1, if_neg Bool.false_ne_true, if_pos (has_of h2)]
theorem front_e {n : Int} {fl : Str} (h : ¬ n < 0) (h1 : (Builtin.Str.occurrences fl (Str.ofString "+") 0 fl.length 1).isEmpty = true) (h2 : (Builtin.Str.occurrences fl (Str.ofString " ") 0 fl.length 1).isEmpty = true) : frontF n fl = Str.ofString "" := by
  rw [front_pos h, hasnt_of h1, if_neg Bool.false_ne_true, hasnt_of h2, if_neg Bool.false_ne_true]
theorem size_ok {x y : Str} {a b : Nat} (ha : x.length ≤ a) (hb : y.length ≤ b) (h : a + b ≤ 16777216) : x.length + y.length ≤ sizeLine := by
  rw [sizeLine_eq]; omega
section
set_option maxHeartbeats 4000000 in
theorem blanks_ok {w : World} {k : Int} {tk : Tok} {news : List (Addr × Obj)} (h0 : k ≤ 100) :
    Ctr w 616 1 [.int k tk] news (RetV news fun t => .str (blanksF k) t) := by
  unfold Ctr
  k_with_none
  k_fill
  intro mg mb mean loose dp un gd cn cs a ccd cl outer A₀ base h₀ L m s Q E B F X N T hk hdp hun hret
  refine wpAny_call ?_
  k_dflt cell_enter
  k_steps
  · exact cb_retS hret (if_pos (by assumption)).symm (by assumption) (by assumption)
  · exact cb_retS hret (if_neg (by assumption)).symm (by assumption) (by assumption)
set_option maxHeartbeats 4000000 in
theorem wide_ok {w : World} {body fl : Str} {tb tw tf : Tok} {wd : Int} {news : List (Addr × Obj)} (h0 : 0 ≤ wd) (h1 : wd ≤ 12) (hb : body.length ≤ 1000) :
    Ctr w 623 2 [.str body tb, .int wd tw, .str fl tf] news (RetV news fun t => .str (padF body fl wd) t) := by
  unfold Ctr
  k_with_none
  k_with "call ref" => ((k_here; (with_reducible show wpAny _ _ (call (Value.ref 616) [Value.int _ _]) _ _ _); k_dflt (refine' Ctr.use (by k_asm) (by k_asm) (by k_asm) (by k_asm) (by k_asm) (by rfl) (blanks_ok (by omega)) (by (dsimp only; omega)) (by (dsimp only; omega)) ?_; intro t9 h9 tk9 F9 N9; (try dsimp only); (try k_fold))))
  k_with "binaryOp Add str str" => ((k_here; (with_reducible show wpAny _ _ (binaryOp Operator.Add (Value.str _ _) (Value.str _ _)) _ _ _); (refine SBL.add (hsz := (by (simp only [len_blanks, len_app, sizeLine_eq]; omega))) ?_); intro _ _ _))
  k_fill
  intro mg mb mean loose dp un gd cn cs a ccd cl outer A₀ base h₀ L m s Q E B F X N T hk hdp hun hret
  refine wpAny_call ?_
  k_dflt cell_enter
  k_steps
  · exact cb_retS hret (pad_right (hasnt_of (by assumption)) (by omega)) (by assumption) (by assumption)
  · exact cb_retS hret (pad_left (has_of (by assumption)) (by omega)) (by assumption) (by assumption)
set_option maxHeartbeats 4000000 in
theorem shown_none_ok {w : World} {t1 t2 : Tok} {wd : Int} {fl : Str} {news : List (Addr × Obj)} (h0 : 0 ≤ wd) (h1 : wd ≤ 12) :
    Ctr w 630 3 [.none, .int wd t1, .str fl t2] news (RetV news fun t => .str (numF none fl wd) t) := by
  unfold Ctr
  k_with_none
  k_with "call ref" => ((k_here; (with_reducible show wpAny _ _ (call (Value.ref 616) [Value.int _ _]) _ _ _); k_dflt (refine' Ctr.use (by k_asm) (by k_asm) (by k_asm) (by k_asm) (by k_asm) (by rfl) (blanks_ok (by omega)) (by (dsimp only; omega)) (by (dsimp only; omega)) ?_; intro t9 h9 tk9 F9 N9; (try dsimp only); (try k_fold))))
  k_with "binaryOp Add str str" => ((k_here; (with_reducible show wpAny _ _ (binaryOp Operator.Add (Value.str _ _) (Value.str _ _)) _ _ _); (refine SBL.add (hsz := (by (simp only [len_blanks, len_app, sizeLine_eq]; omega))) ?_); intro _ _ _))
  k_with "call ref" => ((k_here; (with_reducible show wpAny _ _ (call (Value.ref 623) [Value.str _ _, Value.int _ _, Value.str _ _]) _ _ _); k_dflt (refine' Ctr.use (by k_asm) (by k_asm) (by k_asm) (by k_asm) (by k_asm) (by rfl) (wide_ok (by omega) (by omega) (by first | omega | decide +kernel | (simp only [len_app]; omega))) (by (dsimp only; omega)) (by (dsimp only; omega)) ?_; intro t9 h9 tk9 F9 N9; (try dsimp only); (try k_fold))))
  k_fill
  intro mg mb mean loose dp un gd cn cs a ccd cl outer A₀ base h₀ L m s Q E B F X N T hk hdp hun hret
  refine wpAny_call ?_
  k_dflt cell_enter
  k_steps
  exact cb_retS hret rfl (by assumption) (by assumption)
set_option maxHeartbeats 4000000 in
theorem shown_int_ok {w : World} {n : Int} {t0 t1 t2 : Tok} {wd : Int} {fl : Str} {news : List (Addr × Obj)} (h0 : 0 ≤ wd) (h1 : wd ≤ 12) (hn0 : -1000000 < n) (hn1 : n < 1000000) :
    Ctr w 630 3 [.int n t0, .int wd t1, .str fl t2] news (RetV news fun t => .str (numF (some n) fl wd) t) := by
  unfold Ctr
  k_with_none
  k_with "call ref" => ((k_here; (with_reducible show wpAny _ _ (call (Value.ref 616) [Value.int _ _]) _ _ _); k_dflt (refine' Ctr.use (by k_asm) (by k_asm) (by k_asm) (by k_asm) (by k_asm) (by rfl) (blanks_ok (by omega)) (by (dsimp only; omega)) (by (dsimp only; omega)) ?_; intro t9 h9 tk9 F9 N9; (try dsimp only); (try k_fold))))
  k_with "binaryOp Add str str" => ((k_here; (with_reducible show wpAny _ _ (binaryOp Operator.Add (Value.str _ _) (Value.str _ _)) _ _ _); (refine SBL.add (hsz := (by (simp only [len_blanks, len_app, sizeLine_eq]; omega))) ?_); intro _ _ _))
  k_with "call ref" => ((k_here; (with_reducible show wpAny _ _ (call (Value.ref 623) [Value.str _ _, Value.int _ _, Value.str _ _]) _ _ _); k_dflt (refine' Ctr.use (by k_asm) (by k_asm) (by k_asm) (by k_asm) (by k_asm) (by rfl) (wide_ok (by omega) (by omega) (by first | omega | decide +kernel | (simp only [len_app]; omega))) (by (dsimp only; omega)) (by (dsimp only; omega)) ?_; intro t9 h9 tk9 F9 N9; (try dsimp only); (try k_fold))))
  k_with "binaryOp Add str str" => ((k_here; (with_reducible show wpAny _ _ (binaryOp Operator.Add (Value.str (Str.ofString _) _) (Value.str _ _)) _ _ _); (refine SBL.add (hsz := (by (simp only [len_z, sizeLine_eq]; omega))) ?_); intro _ _ _))
  k_with "JoinSt" => (first | exact joinSt_new (by assumption) (by first | with_reducible rfl | exact front_neg (by assumption) | exact front_p (by assumption) (by assumption) | exact front_b (by assumption) (by assumption) (by assumption)) (by assumption) | exact joinSt_old (by assumption) (by with_unfolding_all rfl) (front_e (by assumption) (by assumption) (by assumption)) (by assumption))
  k_fill
  intro mg mb mean loose dp un gd cn cs a ccd cl outer A₀ base h₀ L m s Q E B F X N T hk hdp hun hret
  have hl9 : (numT n).length ≤ 10 := len_numT hn0 hn1
  have hl8 := len_numT hn0 hn1
  have hf9 := front_len n fl
  refine wpAny_call ?_
  k_dflt cell_enter
  k_with "exec If Compare cons cons" => (fail_if_success (with_reducible show wpAny _ _ _ (JoinSt _ _ _ _ _ _ _) _ _)); refine join_store (Str.ofString "front") (fun u => .str (frontF n fl) u) (by assumption) (by assumption) ?_ ?_; rotate_left; intro u9 h9 tk9 F9 N9; rotate_left
  k_with "exec While Compare cons nil" => k_while (fun (_ : List Int) (b : PySem.Str) => upTo b (wd - ((frontF n fl).length : Nat)) = upTo (numT n) (wd - ((frontF n fl).length : Nat)) ∧ b.length ≤ 20) (fun (_ : List Int) (b : PySem.Str) => (wd - b.length).toNat) "behind"
  k_with "state" => first | exact ⟨rfl, by omega⟩ | exact ⟨(upTo_step (by omega)).trans (And.left (by assumption)), by (rw [len_app, len_z]; omega)⟩ | exact ⟨(upTo_step (by omega)).trans (by assumption), by (rw [len_app, len_z]; omega)⟩
  k_with "measure" => rw [len_app, len_z]; omega
  k_steps
  · exact cb_retS hret (numF_plain (.inl (hasnt_of (by assumption)))).symm (by assumption) (by assumption)
  · (rename (upTo _ _ = upTo _ _) => h7); exact cb_retS hret (by rw [numF_zero (has_of (by assumption)) (hasnt_of (by assumption)), ← h7, upTo_end (by omega)]) (by assumption) (by assumption)
  · exact cb_retS hret (numF_plain (.inr (has_of (by assumption)))).symm (by assumption) (by assumption)
theorem shown_ok {w : World} {o : Option Int} {t0 t1 t2 : Tok} {wd : Int} {fl : Str} {news : List (Addr × Obj)} (h0 : 0 ≤ wd) (h1 : wd ≤ 12) (hn : ∀ n, o = some n → -1000000 < n ∧ n < 1000000) :
    Ctr w 630 3 [optV o t0, .int wd t1, .str fl t2] news (RetV news fun t => .str (numF o fl wd) t) := by
  cases o with
  | none => exact shown_none_ok h0 h1
  | some n => exact shown_int_ok h0 h1 (hn n rfl).1 (hn n rfl).2
end
/-- what sprintf_vectors makes of a form and a list of vectors -/
def AskH (w : World) (x : Str) (va : Addr) (R : List Str) (news : List (Addr × Obj)) : Prop :=
  ∀ (t : Tok) (fv : Addr) (news' : List (Addr × Obj)), VecIn w.params news' fv (Str.ofString "character") [.str x t] → (∀ p ∈ news, p ∈ news') → Ctr w 595 7 [.ref fv, .ref va] news' (RetL news' R)
theorem AskH.use {w : World} {x : Str} {t : Tok} {va fv : Addr} {R : List Str} {news news' : List (Addr × Obj)} (H : AskH w x va R news) (V : VecIn w.params news' fv (Str.ofString "character") [.str x t]) (S : ∀ p ∈ news, p ∈ news') :
    Ctr w 595 7 [.ref fv, .ref va] news' (RetL news' R) := H t fv news' V S
section
set_option maxHeartbeats 4000000 in
theorem asked_ok {w : World} {x : Str} {tx : Tok} {va : Addr} {R : List Str} {news : List (Addr × Obj)}
    (H : AskH w x va R news) :
    Ctr w 637 9 [.str x tx, .ref va] news (RetL news R) := by
  unfold Ctr
  k_with_none
  k_with "call ref" => ((k_here; (with_reducible show wpAny _ _ (call (Value.ref 595) [Value.ref _, Value.ref _]) _ _ _); k_dflt (refine' Ctr.use (by k_asm) (by k_asm) (by k_asm) (by k_asm) (by k_asm) (by rfl) (AskH.use (by assumption) (by exact ⟨_, _, _, _, _, _, _, _, _, by k_mem, by k_mem, by k_mem⟩) (by exact (fun p hp => by k_mem))) (by (dsimp only; omega)) (by (dsimp only; omega)) ?_; intro tp9 n9 it9 h9 tk9 S9 F9 N9 l9; (try k_lt l9); (try dsimp only); (try k_fold))))
  k_fill
  intro mg mb mean loose dp un gd cn cs a ccd cl outer A₀ base h₀ L m s Q E B F X N T hk hdp hun hret
  refine wpAny_call ?_
  k_dflt cell_enter
  k_steps
  refine' hret _ _ _ _ _ ?hS ?hF (mem_sub ?hN ?hM) ?hL
  case hS => assumption
  case hF => assumption
  case hN => assumption
  case hM => exact mem_one (by k_mem) (fun p hp => by k_mem)
  case hL => (rename (_ ∧ _ ∧ _ ∧ AllLt _ _) => l8); exact ktn_ltOf l8.2.2.2
end
abbrev one (c : Nat) : Str := ⟨#[c]⟩
theorem len_cps (x : Str) : x.cps.toList.length = x.length := Array.length_toList
theorem slice_sign {x : Str} {i : Int} {k c : Nat} (hi : i = (k : Int)) (h : x.cps.toList[k]? = some c) : Txt.slice x (some i) (some (i + 1)) = one c := by
  subst hi
  obtain ⟨hk, hc⟩ := List.getElem?_eq_some_iff.mp h
  rw [len_cps] at hk
  refine str_ext ?_
  rw [slice_list (by omega) (by omega) (by omega)]
  have e1 : ((k : Int) + 1 - (k : Int)).toNat = 1 := by omega
  rw [e1, Int.toNat_natCast, List.take_one, List.head?_drop, h]
  rfl
theorem item_sign {x : Str} {i : Int} {k c : Nat} (hi : i = (k : Int)) (h : x.cps.toList[k]? = some c) : Txt.item x i = one c := by
  subst hi
  obtain ⟨hk, hc⟩ := List.getElem?_eq_some_iff.mp h
  rw [len_cps] at hk
  refine str_ext ?_
  obtain ⟨d, hd, he⟩ := item_list (x := x) (i := (k : Int)) (by omega) (by omega)
  rw [Int.toNat_natCast, h] at hd
  cases hd
  exact he
theorem mid_at {l pre ds rest : List Nat} {c j : Nat} (hx : l = pre ++ (ds ++ c :: rest)) (hj : j < ds.length) : ∃ d, d ∈ ds ∧ l[pre.length + j]? = some d := by
  refine ⟨ds[j], List.getElem_mem hj, ?_⟩
  rw [hx, List.getElem?_append_right (by omega), Nat.add_sub_cancel_left, List.getElem?_append_left hj, List.getElem?_eq_getElem hj]
theorem mid_end {l pre ds rest : List Nat} {c : Nat} (hx : l = pre ++ (ds ++ c :: rest)) : l[pre.length + ds.length]? = some c := by
  rw [hx, List.getElem?_append_right (by omega), Nat.add_sub_cancel_left, List.getElem?_append_right (Nat.le_refl _), Nat.sub_self]
  rfl
theorem mid_len {x : Str} {pre ds rest : List Nat} {c : Nat} (hx : x.cps.toList = pre ++ (ds ++ c :: rest)) : pre.length + ds.length < x.length := by
  rw [← len_cps, hx]
  simp only [List.length_append, List.length_cons]
  omega
theorem digRun_of {x : Str} {pre ds rest : List Nat} {c : Nat} {a e : Int} (hx : x.cps.toList = pre ++ (ds ++ c :: rest)) (ha : a = (pre.length : Int)) (he : e = ((pre.length + ds.length : Nat) : Int))
    (hd : ∀ d ∈ ds, digB (one d) = true) (hc : digB (one c) = false) (h5 : ds.length ≤ 5) (hf : x.length ≤ 500) : DigRun x a e where
  lo := by omega
  le := by omega
  five := by omega
  fit := hf
  hi := by have := mid_len hx; omega
  on i h1 h2 := by
    obtain ⟨d, hm, hg⟩ := mid_at (j := (i - a).toNat) hx (by omega)
    rw [slice_sign (k := pre.length + (i - a).toNat) (by omega) hg]
    exact hd d hm
  off := by
    rw [slice_sign he (mid_end hx)]
    exact hc
theorem slice_mid {x : Str} {pre ds rest : List Nat} {c : Nat} {a e : Int} (hx : x.cps.toList = pre ++ (ds ++ c :: rest)) (ha : a = (pre.length : Int)) (he : e = ((pre.length + ds.length : Nat) : Int)) :
    Txt.slice x (some a) (some e) = ⟨ds.toArray⟩ := by
  refine str_ext ?_
  have := mid_len hx
  rw [slice_list (by omega) (by omega) (by omega)]
  have e1 : (e - a).toNat = ds.length := by omega
  rw [e1, show a.toNat = pre.length from by omega, hx, List.drop_left, List.take_left]
/-- what the figures say -/
def DigVal (ds : List Nat) (o : Option Int) : Prop :=
  (ds = [] ∧ o = none) ∨ (ds ≠ [] ∧ ds.length ≤ 5 ∧ ∃ v, o = some v ∧ PySem.intText? ⟨ds.toArray⟩ = some v ∧ 0 ≤ v ∧ v ≤ 8192)
theorem digCase_of {x : Str} {pre ds rest : List Nat} {c : Nat} {a e : Int} {o : Option Int} (hx : x.cps.toList = pre ++ (ds ++ c :: rest)) (ha : a = (pre.length : Int)) (he : e = ((pre.length + ds.length : Nat) : Int))
    (hd : ∀ d ∈ ds, digB (one d) = true) (hc : digB (one c) = false) (hf : x.length ≤ 500) (hv : DigVal ds o) : DigCase x a e o := by
  rcases hv with ⟨h1, rfl⟩ | ⟨h1, h2, v, rfl, h3, h4, h5⟩
  · subst h1
    have ee : e = a := by rw [he, ha]; simp
    exact .none (digRun_of hx ha (by rw [ha]; simp) hd hc (by decide) hf) ee
  · refine .some v (digRun_of hx ha he hd hc h2 hf) ?_ ?_ h4 h5
    · have : 0 < ds.length := List.length_pos_iff.mpr h1
      omega
    · rw [slice_mid hx ha he]; exact h3
theorem flagRun_of {x : Str} {pre ds rest : List Nat} {c : Nat} {a e : Int} (hx : x.cps.toList = pre ++ (ds ++ c :: rest)) (ha : a = (pre.length : Int)) (he : e = ((pre.length + ds.length : Nat) : Int))
    (hd : ∀ d ∈ ds, flagB (one d) = true) (hc : flagB (one c) = false) (hf : x.length ≤ 500) : FlagRun x a e where
  lo := by omega
  le := by omega
  fit := hf
  hi := by have := mid_len hx; omega
  on i h1 h2 := by
    obtain ⟨d, hm, hg⟩ := mid_at (j := (i - a).toNat) hx (by omega)
    rw [item_sign (k := pre.length + (i - a).toNat) (by omega) hg]
    exact hd d hm
  off := by
    rw [item_sign he (mid_end hx)]
    exact hc
theorem dig_yes : ∀ c ∈ [48, 49, 50, 51, 52, 53, 54, 55, 56, 57], digB (one c) = true := by decide +kernel
theorem dig_no : ∀ c ∈ [45, 43, 32, 42, 46, 100, 105, 115, 37], digB (one c) = false := by decide +kernel
theorem flag_yes : ∀ c ∈ [45, 43, 32, 48], flagB (one c) = true := by decide +kernel
theorem flag_no : ∀ c ∈ [49, 50, 51, 52, 53, 54, 55, 56, 57, 42, 46, 100, 105, 115, 37], flagB (one c) = false := by decide +kernel
theorem not_dol : ∀ c ∈ [48, 49, 50, 51, 52, 53, 54, 55, 56, 57, 45, 43, 32, 42, 46, 100, 105, 115, 37], (one c == Str.ofString "$") = false := by decide +kernel
theorem not_star : ∀ c ∈ [48, 49, 50, 51, 52, 53, 54, 55, 56, 57, 46, 100, 105, 115, 37], (one c == Str.ofString "*") = false := by decide +kernel
theorem not_dot : ∀ c ∈ [100, 105, 115, 37], (one c == Str.ofString ".") = false := by decide +kernel
theorem not_none : ∀ c ∈ [100, 105, 115, 37], (one c == Str.ofString "") = false := by decide +kernel
theorem is_letter : ∀ c ∈ [100, 105, 115, 37], (Builtin.Str.occurrences (Str.ofString "dioxXfeEgGs%") (one c) 0 (Str.ofString "dioxXfeEgGs%").length 1).isEmpty = false := by decide +kernel
/-- the signs -, +, blank and 0 in the law's order or turned about -/
def FlagList (fs : List Nat) : Prop := ∃ sg z : List Nat, (∀ c ∈ sg, c ∈ [45, 43, 32]) ∧ (z = [] ∨ z = [48]) ∧ (fs = sg ++ z ∨ fs = z ++ sg)
def allW : List (Int × List Nat) := [(0, []), (1, [49]), (2, [50]), (3, [51]), (4, [52]), (5, [53]), (6, [54]), (7, [55]), (8, [56]), (9, [57]), (10, [49, 48]), (11, [49, 49]), (12, [49, 50])]
theorem allW_fig : ∀ p ∈ allW, PySem.intText? ⟨(48 :: p.2).toArray⟩ = some p.1 ∧ (p.2 ≠ [] → PySem.intText? ⟨p.2.toArray⟩ = some p.1) ∧ (p.2 = [] → p.1 = 0) ∧ 0 ≤ p.1 ∧ p.1 ≤ 12 ∧ p.2.length ≤ 2 := by decide +kernel
theorem allW_dig : ∀ p ∈ allW, ∀ d ∈ p.2, d ∈ [48, 49, 50, 51, 52, 53, 54, 55, 56, 57] := by decide +kernel
theorem allW_head : ∀ p ∈ allW, ∀ d ∈ p.2.head?, d ∈ [49, 50, 51, 52, 53, 54, 55, 56, 57] := by decide +kernel
def widO (wd : Int) (wt : List Nat) : Option Int := if wt = [] then none else some wd
theorem widO_val {wd : Int} {wt : List Nat} (h : (wd, wt) ∈ allW) : DigVal wt (widO wd wt) ∧ (widO wd wt).getD 0 = wd := by
  obtain ⟨h1, h2, h3, h4, h5, h6⟩ := allW_fig _ h
  by_cases e : wt = []
  · exact ⟨.inl ⟨e, if_pos e⟩, by rw [widO, if_pos e]; exact (h3 e).symm⟩
  · exact ⟨.inr ⟨e, Nat.le_trans h6 (by decide), wd, if_neg e, h2 e, h4, Int.le_trans h5 (by decide)⟩, by rw [widO, if_neg e]; rfl⟩
theorem zero_val {wd : Int} {wt : List Nat} (h : (wd, wt) ∈ allW) : DigVal (48 :: wt) (some wd) := by
  obtain ⟨h1, h2, h3, h4, h5, h6⟩ := allW_fig _ h
  exact .inr ⟨List.cons_ne_nil _ _, by simp only [List.length_cons]; exact Nat.le_trans (Nat.succ_le_succ h6) (by decide), wd, rfl, h1, h4, Int.le_trans h5 (by decide)⟩
theorem flags_yes {fs : List Nat} (h : FlagList fs) : ∀ d ∈ fs, d ∈ [45, 43, 32, 48] := by
  obtain ⟨sg, z, h1, h2, h3⟩ := h
  intro d hd
  have hd' : d ∈ sg ∨ d ∈ z := by rcases h3 with rfl | rfl <;> rcases List.mem_append.mp hd with h | h <;> simp [h]
  rcases hd' with h | h
  · have := h1 d h; simp only [List.mem_cons, List.not_mem_nil, or_false] at this ⊢; omega
  · rcases h2 with rfl | rfl
    · cases h
    · rw [List.mem_singleton.mp h]; decide
/-- the first figures of a form: how far they go, and what they say -/
theorem first_figs {fs wt : List Nat} {wd : Int} (hf : FlagList fs) (hw : (wd, wt) ∈ allW) :
    ∃ (ds mid : List Nat) (o : Option Int), fs ++ wt = ds ++ mid ∧ (∀ d ∈ ds, d ∈ [48, 49, 50, 51, 52, 53, 54, 55, 56, 57]) ∧ DigVal ds o ∧ (mid = [] ∨ ∃ c r, mid = c :: r ∧ c ∈ [45, 43, 32]) := by
  obtain ⟨sg, z, h1, h2, h3⟩ := hf
  have hdw := allW_dig _ hw
  have nilcase : ∃ (ds mid : List Nat) (o : Option Int), wt = ds ++ mid ∧ (∀ d ∈ ds, d ∈ [48, 49, 50, 51, 52, 53, 54, 55, 56, 57]) ∧ DigVal ds o ∧ (mid = [] ∨ ∃ c r, mid = c :: r ∧ c ∈ [45, 43, 32]) :=
    ⟨wt, [], _, (List.append_nil _).symm, hdw, (widO_val hw).1, .inl rfl⟩
  have zerocase : ∃ (ds mid : List Nat) (o : Option Int), 48 :: wt = ds ++ mid ∧ (∀ d ∈ ds, d ∈ [48, 49, 50, 51, 52, 53, 54, 55, 56, 57]) ∧ DigVal ds o ∧ (mid = [] ∨ ∃ c r, mid = c :: r ∧ c ∈ [45, 43, 32]) := by
    refine ⟨48 :: wt, [], _, (List.append_nil _).symm, ?_, zero_val hw, .inl rfl⟩
    intro d hd
    rcases List.mem_cons.mp hd with rfl | hd
    · decide
    · exact hdw d hd
  cases sg with
  | nil =>
    rcases h2 with rfl | rfl
    · rcases h3 with rfl | rfl <;> exact nilcase
    · rcases h3 with rfl | rfl <;> exact zerocase
  | cons c r =>
    have hc := h1 c (List.mem_cons_self ..)
    rcases h3 with rfl | rfl
    · exact ⟨[], (c :: r ++ z) ++ wt, none, rfl, fun d hd => (nomatch hd), .inl ⟨rfl, rfl⟩, .inr ⟨c, _, rfl, hc⟩⟩
    · rcases h2 with rfl | rfl
      · exact ⟨[], (c :: r) ++ wt, none, rfl, fun d hd => (nomatch hd), .inl ⟨rfl, rfl⟩, .inr ⟨c, _, rfl, hc⟩⟩
      · exact ⟨[48], (c :: r) ++ wt, some 0, rfl, fun d hd => by rw [List.mem_singleton.mp hd]; decide, .inr ⟨List.cons_ne_nil _ _, by decide, 0, rfl, (by decide +kernel), by decide, by decide⟩, .inr ⟨c, _, rfl, hc⟩⟩
theorem mem_of {c : Nat} {a b : List Nat} (h : c ∈ a) (s : a.all (fun d => b.contains d) = true) : c ∈ b := by
  have := List.all_eq_true.mp s c h
  simpa using this
theorem case0 {x : Str} {pre fs wt rest : List Nat} {c : Nat} {wd a : Int} (hx : x.cps.toList = pre ++ ((fs ++ wt) ++ c :: rest)) (ha : a = (pre.length : Int)) (hf : FlagList fs) (hw : (wd, wt) ∈ allW)
    (hc : c ∈ [42, 46, 100, 105, 115, 37]) (hl : x.length ≤ 500) : ∃ e o, DigCase x a e o ∧ (Txt.slice x (some e) (some (e + 1)) == Str.ofString "$") = false := by
  obtain ⟨ds, mid, o, e1, h1, h2, h3⟩ := first_figs hf hw
  rcases h3 with rfl | ⟨d, r, rfl, hd⟩
  · have hx' : x.cps.toList = pre ++ (ds ++ c :: rest) := by rw [hx, e1, List.append_nil]
    refine ⟨_, o, digCase_of hx' ha rfl (fun d hd => dig_yes d (h1 d hd)) (dig_no c (mem_of hc (by decide))) hl h2, ?_⟩
    rw [slice_sign rfl (mid_end hx')]
    exact not_dol c (mem_of hc (by decide))
  · have hx' : x.cps.toList = pre ++ (ds ++ d :: (r ++ c :: rest)) := by rw [hx, e1]; simp
    refine ⟨_, o, digCase_of hx' ha rfl (fun d hd => dig_yes d (h1 d hd)) (dig_no d (mem_of hd (by decide))) hl h2, ?_⟩
    rw [slice_sign rfl (mid_end hx')]
    exact not_dol d (mem_of hd (by decide))
/-- behind the flags stands a figure of the width, or the sign behind -/
theorem behind {wt rest : List Nat} {c : Nat} {wd : Int} (hw : (wd, wt) ∈ allW) : ∃ d r, wt ++ c :: rest = d :: r ∧ (d = c ∨ d ∈ [49, 50, 51, 52, 53, 54, 55, 56, 57]) := by
  cases wt with
  | nil => exact ⟨c, rest, rfl, .inl rfl⟩
  | cons d r => exact ⟨d, _, rfl, .inr (allW_head _ hw d rfl)⟩
theorem read_plain {x : Str} {pre fs wt rest : List Nat} {c : Nat} {wd a : Int} {dat : List (Str × List Value)} {turn taken : Int} (hx : x.cps.toList = pre ++ (fs ++ (wt ++ c :: rest))) (ha : a = (pre.length : Int)) (hf : FlagList fs) (hw : (wd, wt) ∈ allW)
    (hc : c ∈ [100, 105, 115, 37]) (hl : x.length ≤ 500) : ReadCase x dat turn a ⟨fs.toArray⟩ wd none (one c) (((pre.length + fs.length + wt.length + 1 : Nat) : Int)) taken taken := by
  obtain ⟨e0, o0, C0, hdol⟩ := case0 (x := x) (by rw [hx, List.append_assoc]) ha hf hw (mem_of hc (by decide)) hl
  obtain ⟨d, r, hb, hd⟩ := behind (rest := rest) (c := c) hw
  have hx1 : x.cps.toList = pre ++ (fs ++ d :: r) := by rw [hx, hb]
  have hx2 : x.cps.toList = (pre ++ fs) ++ (wt ++ c :: rest) := by rw [hx]; simp
  have hfl : flagB (one d) = false := by
    rcases hd with rfl | hd
    · exact flag_no _ (mem_of hc (by decide))
    · exact flag_no _ (mem_of hd (by decide))
  have hst : (one d == Str.ofString "*") = false := by
    rcases hd with rfl | hd
    · exact not_star _ (mem_of hc (by decide))
    · exact not_star _ (mem_of hd (by decide))
  have G := flagRun_of hx1 ha (e := ((pre.length + fs.length : Nat) : Int)) rfl (fun d hd => flag_yes d (flags_yes hf d hd)) hfl hl
  have C1 := digCase_of (a := ((pre.length + fs.length : Nat) : Int)) (e := ((pre.length + fs.length + wt.length : Nat) : Int)) hx2 (by rw [List.length_append]) (by rw [List.length_append]) (fun d hd => dig_yes d (allW_dig _ hw d hd)) (dig_no c (mem_of hc (by decide))) hl (widO_val hw).1
  have hs : Txt.slice x (some ((pre.length + fs.length + wt.length : Nat) : Int)) (some (((pre.length + fs.length + wt.length : Nat) : Int) + 1)) = one c := by
    refine slice_sign rfl ?_
    have := mid_end hx2
    rw [List.length_append] at this
    exact this
  have hlen : pre.length + fs.length + wt.length < x.length := by
    have := mid_len hx2
    rw [List.length_append] at this
    exact this
  have R := ReadCase.plain (dat := dat) (turn := turn) (taken := taken) e0 _ _ o0 _ C0 hdol G (by rw [slice_sign rfl (mid_end hx1)]; exact hst) C1 (by omega) (by omega) (by rw [hs]; exact not_none c hc) (by rw [hs]; exact is_letter c hc) (by rw [hs]; exact not_dot c hc)
  rw [hs, slice_mid hx1 ha rfl, (widO_val hw).2] at R
  exact R
theorem contains_one (x : Str) (c : Nat) : Txt.contains x (one c) = decide (c ∈ x.cps.toList) := StrLaws.found_one x c
theorem s_m : Str.ofString "-" = one 45 := by decide +kernel
theorem s_p : Str.ofString "+" = one 43 := by decide +kernel
theorem s_b : Str.ofString " " = one 32 := by decide +kernel
theorem s_0 : Str.ofString "0" = one 48 := by decide +kernel
theorem s_h : Str.ofString "#" = one 35 := by decide +kernel
theorem s_pct : Str.ofString "%" = one 37 := by decide +kernel
theorem no_hash {fs : List Nat} (hf : FlagList fs) : (Builtin.Str.occurrences (⟨fs.toArray⟩ : Str) (Str.ofString "#") 0 (⟨fs.toArray⟩ : Str).length 1).isEmpty = true := by
  have h := contains_one (⟨fs.toArray⟩ : Str) 35
  have h2 : (35 ∈ (⟨fs.toArray⟩ : Str).cps.toList) = False := by
    refine eq_false fun hm => ?_
    have := flags_yes hf 35 hm
    revert this; decide
  rw [← s_h] at h
  unfold Txt.contains at h
  rw [decide_eq_false (by rw [h2]; exact not_false)] at h
  simpa using h
theorem read_text {x : Str} {pre fs wt end_ rest : List Nat} {wd a : Int} {o : Option Int} {dat : List (Str × List Value)} {turn taken : Int} (hx : x.cps.toList = pre ++ (fs ++ (wt ++ (end_ ++ rest)))) (ha : a = (pre.length : Int)) (hf : FlagList fs) (hw : (wd, wt) ∈ allW)
    (he : (end_ = [115] ∧ o = none) ∨ ∃ d : Nat, d ≤ 5 ∧ end_ = [46, 48 + d, 115] ∧ o = some (d : Int)) (hl : x.length ≤ 500) : ReadCase x dat turn a ⟨fs.toArray⟩ wd o (one 115) (((pre.length + fs.length + wt.length + end_.length : Nat) : Int)) taken taken := by
  rcases he with ⟨rfl, rfl⟩ | ⟨d9, hd9, rfl, rfl⟩
  · exact read_plain (c := 115) (rest := rest) hx ha hf hw (by decide) hl
  · have hx0 : x.cps.toList = pre ++ ((fs ++ wt) ++ 46 :: ((48 + d9) :: 115 :: rest)) := by rw [hx]; simp
    obtain ⟨e0, o0, C0, hdol⟩ := case0 hx0 ha hf hw (by decide) hl
    obtain ⟨d, r, hb, hd⟩ := behind (rest := (48 + d9) :: 115 :: rest) (c := 46) hw
    have hx1 : x.cps.toList = pre ++ (fs ++ d :: r) := by rw [hx0, ← hb]; simp
    have hx2 : x.cps.toList = (pre ++ fs) ++ (wt ++ 46 :: ((48 + d9) :: 115 :: rest)) := by rw [hx0]; simp
    have hx3 : x.cps.toList = (pre ++ fs ++ wt ++ [46]) ++ ([48 + d9] ++ 115 :: rest) := by rw [hx0]; simp
    have hfl : flagB (one d) = false := by
      rcases hd with rfl | hd
      · exact flag_no _ (by decide)
      · exact flag_no _ (mem_of hd (by decide))
    have hst : (one d == Str.ofString "*") = false := by
      rcases hd with rfl | hd
      · exact not_star _ (by decide)
      · exact not_star _ (mem_of hd (by decide))
    have G := flagRun_of hx1 ha (e := ((pre.length + fs.length : Nat) : Int)) rfl (fun d hd => flag_yes d (flags_yes hf d hd)) hfl hl
    have C1 := digCase_of (a := ((pre.length + fs.length : Nat) : Int)) (e := ((pre.length + fs.length + wt.length : Nat) : Int)) hx2 (by rw [List.length_append]) (by rw [List.length_append]) (fun d hd => dig_yes d (allW_dig _ hw d hd)) (dig_no 46 (by decide)) hl (widO_val hw).1
    have hdig : 48 + d9 ∈ [48, 49, 50, 51, 52, 53, 54, 55, 56, 57] := by simp only [List.mem_cons, List.not_mem_nil, or_false]; omega
    have hval : ∀ k ∈ List.range 6, PySem.intText? ⟨[48 + k].toArray⟩ = some (k : Int) := by decide +kernel
    have l3 : (pre ++ fs ++ wt ++ [46]).length = pre.length + fs.length + wt.length + 1 := by simp only [List.length_append, List.length_cons, List.length_nil]
    have C2 := digCase_of (a := ((pre.length + fs.length + wt.length : Nat) : Int) + 1) (e := ((pre.length + fs.length + wt.length + 2 : Nat) : Int)) (o := some (d9 : Int)) hx3 (by rw [l3]; omega) (by rw [l3]; rfl) (fun d hd => dig_yes d (by rw [List.mem_singleton.mp hd]; exact hdig)) (dig_no 115 (by decide)) hl
      (.inr ⟨List.cons_ne_nil _ _, Nat.le_of_ble_eq_true rfl, _, rfl, hval d9 (List.mem_range.mpr (by omega)), by omega, by omega⟩)
    have hs : Txt.slice x (some ((pre.length + fs.length + wt.length : Nat) : Int)) (some (((pre.length + fs.length + wt.length : Nat) : Int) + 1)) = one 46 := by
      refine slice_sign rfl ?_
      have := mid_end hx2
      rw [List.length_append] at this
      exact this
    have hs1 : Txt.slice x (some (((pre.length + fs.length + wt.length : Nat) : Int) + 1)) (some (((pre.length + fs.length + wt.length : Nat) : Int) + 1 + 1)) = one (48 + d9) := by
      refine slice_sign (k := pre.length + fs.length + wt.length + 1) (by omega) ?_
      have hx4 : x.cps.toList = (pre ++ fs ++ wt ++ [46]) ++ ([] ++ (48 + d9) :: 115 :: rest) := by rw [hx3]; simp
      have := mid_end hx4
      rw [l3] at this
      exact this
    have hs2 : Txt.slice x (some ((pre.length + fs.length + wt.length + 2 : Nat) : Int)) (some (((pre.length + fs.length + wt.length + 2 : Nat) : Int) + 1)) = one 115 := by
      refine slice_sign rfl ?_
      have := mid_end hx3
      rw [l3] at this
      exact this
    have hlen : pre.length + fs.length + wt.length + 2 < x.length := by
      have := mid_len hx3
      rw [l3] at this
      exact this
    have R := ReadCase.dot (dat := dat) (turn := turn) (taken := taken) e0 _ _ _ _ o0 _ C0 hdol G (by rw [slice_sign rfl (mid_end hx1)]; exact hst) C1 (by omega) (by rw [hs]; decide +kernel) (by rw [hs1]; exact not_star _ (mem_of hdig (by decide))) C2 (by omega) (by omega) (by rw [hs2]; exact not_none 115 (by decide)) (by rw [hs2]; exact is_letter 115 (by decide))
    rw [hs2, slice_mid hx1 ha rfl, (widO_val hw).2] at R
    exact R
theorem read_star {x : Str} {pre fs rest : List Nat} {c : Nat} {a n : Int} {dat : List (Str × List Value)} {turn taken : Int} {its : List Value} {ti : Tok} (hx : x.cps.toList = pre ++ (fs ++ 42 :: c :: rest)) (ha : a = (pre.length : Int)) (hf : FlagList fs)
    (hc : c ∈ [100, 105, 115, 37]) (hl : x.length ≤ 500) (hd : dat[taken.toNat]? = some (Str.ofString "integer", its)) (hit : its[(turn.fmod its.length).toNat]? = some (.int n ti)) (ht0 : 0 ≤ taken) (hn0 : -8000 ≤ n) (hn1 : n ≤ 8000) :
    ReadCase x dat turn a (starFl n ⟨fs.toArray⟩) (starWd n) none (one c) (((pre.length + fs.length + 2 : Nat) : Int)) taken (taken + 1) := by
  obtain ⟨e0, o0, C0, hdol⟩ := case0 (wd := 0) (wt := []) (c := 42) (rest := c :: rest) (by rw [hx]; simp) ha hf (by decide) (by decide) hl
  have hx1 : x.cps.toList = (pre ++ fs ++ [42]) ++ ([] ++ c :: rest) := by rw [hx]; simp
  have l1 : (pre ++ fs ++ [42]).length = pre.length + fs.length + 1 := by simp only [List.length_append, List.length_cons, List.length_nil]
  have G := flagRun_of hx ha (e := ((pre.length + fs.length : Nat) : Int)) rfl (fun d hd => flag_yes d (flags_yes hf d hd)) (flag_no 42 (by decide)) hl
  have hs : Txt.slice x (some (((pre.length + fs.length : Nat) : Int) + 1)) (some (((pre.length + fs.length : Nat) : Int) + 1 + 1)) = one c := by
    refine slice_sign (k := pre.length + fs.length + 1) (by omega) ?_
    have := mid_end hx1
    rw [l1] at this
    exact this
  have hlen : pre.length + fs.length + 1 < x.length := by
    have := mid_len hx1
    rw [l1] at this
    exact this
  have R := ReadCase.star (dat := dat) (turn := turn) its n ti hd hit ht0 hn0 hn1 e0 _ o0 C0 hdol G (by rw [slice_sign rfl (mid_end hx)]; decide +kernel) (by omega) (by rw [hs]; exact not_none c hc) (by rw [hs]; exact is_letter c hc) (by rw [hs]; exact not_dot c hc)
  rw [hs, slice_mid hx ha rfl] at R
  exact R
theorem find_pct {x : Str} {pre mid rest : List Nat} {i : Int} (hx : x.cps.toList = pre ++ (mid ++ 37 :: rest)) (hi : i = (pre.length : Int)) (hm : ∀ c ∈ mid, c ≠ 37) : Txt.find3 x (Str.ofString "%") i = ((pre.length + mid.length : Nat) : Int) := by
  have hlen := mid_len hx
  have hfrom : fromIndex x.length i = pre.length := by
    subst hi
    unfold fromIndex
    rw [if_neg (by omega)]
    omega
  have hat : x.cps.getD (pre.length + mid.length) 0 = 37 := StrLaws.getD_of_getElem? (mid_end hx)
  rw [s_pct]
  rcases StrLaws.find3_spec x 37 i with ⟨h1, h2⟩ | ⟨k, h1, h2, h3, h4, h5⟩
  · exact absurd hat (h2 _ (by rw [hfrom]; omega) hlen)
  · rw [h1]
    rw [hfrom] at h2 h5
    congr 1
    rcases Nat.lt_trichotomy k (pre.length + mid.length) with q | q | q
    · exfalso
      obtain ⟨d, hd, hg⟩ := mid_at (j := k - pre.length) hx (by omega)
      rw [show pre.length + (k - pre.length) = k from by omega] at hg
      have := StrLaws.getD_of_getElem? hg
      exact hm d hd (this.symm.trans h4)
    · exact q
    · exact absurd hat (h5 _ (by omega) q)
theorem run_step {x : Str} {pre mid rest : List Nat} {dat : List (Str × List Value)} {turn taken : Int} {i e' e9 : Int} {fl : Str} {wd : Int} {o : Option Int} {lt : Str} {mid9 taken' : Int} {r : Str} {out : List Str}
    (hx : x.cps.toList = pre ++ (mid ++ 37 :: rest)) (hi : i = (pre.length : Int)) (hm : ∀ c ∈ mid, c ≠ 37) (hl : x.length ≤ 500) (he9 : e9 = ((pre.length + mid.length + 1 : Nat) : Int))
    (R : ReadCase x dat turn e9 fl wd o lt e' taken mid9) (O : OneCase dat turn fl wd o lt mid9 taken' r) (hr : r.length ≤ 9000) (h1 : ((pre.length + mid.length : Nat) : Int) < e') (h2 : e' ≤ x.length)
    (next : Run x dat turn e' taken' out) : Run x dat turn i taken (⟨mid.toArray⟩ :: r :: out) := by
  have hlen := mid_len hx
  have S := Run.step (at_ := i) (taken := taken) ((pre.length + mid.length : Nat) : Int) e' fl wd o lt mid9 taken' r out (by omega) (by omega) (by omega) hl (find_pct hx hi hm) (by rw [he9] at R; exact R) O hr h1 h2 next
  rw [slice_mid hx hi rfl] at S
  exact S
/-- a contract that asks a fact of the caller's own heap -/
abbrev CtrP (w : World) (f : Addr) (need : Nat) (vs : List Value) (news : List (Addr × Obj)) (Pre : Heap → Prop)
    (Ret : Heap → Addr → (Str → Option Value) → Shared → (Value → Shared → Prop) → Prop) : Prop :=
  ∀ (mg mb : Str → Option Value) (mean : ExcName → Option Value) (loose : List Str) (dp un : Nat) (gd : Option (List Code)) (cn : Str) (cs : Scope) (a : Addr) (ccd : Value) (cl : List (Str × Addr)) (outer : List Env) (A₀ : Around) (base h₀ : Heap) (L : Addr) (m : Str → Option Value) (s : Shared) (Q E : Value → Shared → Prop),
    Pre h₀ → Below A₀ base outer h₀ → Fr h₀ L s.heap m → (laid.heap_1 w.params).In h₀ → News h₀ L s.heap news → Top view loose mean mg mb h₀ → cs.kind = .function →
    dp + need < recursionLimit → un + 8 * need < cLine → Ret h₀ L m s Q →
      wpAny (model (PySem.Challenge.rw_ov0084_01).row.prog w) (ktrTop dp un gd cn cs L a ccd cl outer) (call (.ref f) vs) Q E s
theorem CtrP.use {w : World} {f : Addr} {need : Nat} {vs : List Value} {news : List (Addr × Obj)} {Pre : Heap → Prop} {Ret : Heap → Addr → (Str → Option Value) → Shared → (Value → Shared → Prop) → Prop} {mg mb : Str → Option Value} {mean : ExcName → Option Value} {loose : List Str} {dp un : Nat} {gd : Option (List Code)} {cn : Str} {cs : Scope} {a : Addr} {ccd : Value} {cl : List (Str × Addr)} {outer : List Env} {A₀ : Around} {base h₀ : Heap} {L : Addr} {m : Str → Option Value} {s : Shared} {Q E : Value → Shared → Prop}
    (B : Below A₀ base outer h₀) (F : Fr h₀ L s.heap m) (X : (laid.heap_1 w.params).In h₀) (N : News h₀ L s.heap news) (T : Top view loose mean mg mb h₀) (hk : cs.kind = .function) (C : CtrP w f need vs news Pre Ret) (P : Pre h₀)
    (hd : dp + need < recursionLimit) (hu : un + 8 * need < cLine) (ret : Ret h₀ L m s Q) : wpAny (model (PySem.Challenge.rw_ov0084_01).row.prog w) (ktrTop dp un gd cn cs L a ccd cl outer) (call (.ref f) vs) Q E s :=
  C _ _ _ _ _ _ _ _ _ _ _ _ _ _ _ _ _ _ _ _ _ P B F X N T hk hd hu ret
abbrev RetNat (news : List (Addr × Obj)) (h₀ : Heap) (L : Addr) (m : Str → Option Value) (s : Shared) (Q : Value → Shared → Prop) : Prop :=
  ∀ (v : Int) (t : Tok) (h' : Heap) (tk' : Nat), 0 ≤ v → Fr h₀ L h' m → News h₀ L h' news → Q (.int v t) { s with heap := h', toks := tk' }
/-- the ways of a statement meet: one name is stored, its value has a word -/
def JoinEx (nm : Str) (V : Value → Prop) (h₀ : Heap) (L : Addr) (m : Str → Option Value) (s : Shared) (news : List (Addr × Obj)) (fl : Flow) (s' : Shared) : Prop :=
  fl = .next ∧ ∃ (v : Value) (h' : Heap) (tk' : Nat), V v ∧ s' = { s with heap := h', toks := tk' } ∧ Fr h₀ L h' (fun y => if y = nm then some v else m y) ∧ News h₀ L h' news
theorem join_ex {M : Model} {A : Around} {t : Sem Flow} {Q : Flow → Shared → Prop} {E : Value → Shared → Prop} {s : Shared} {h₀ : Heap} {L : Addr} {m : Str → Option Value} {news : List (Addr × Obj)} (nm : Str) (V : Value → Prop)
    (F : Fr h₀ L s.heap m) (N : News h₀ L s.heap news) (w : wpAny M A t (JoinEx nm V h₀ L m s news) E s)
    (c : ∀ (v : Value) (h' : Heap) (tk' : Nat), V v → Fr h₀ L h' (fun y => if y = nm then some v else m y) → News h₀ L h' news → Q .next { s with heap := h', toks := tk' }) : wpAny M A t Q E s :=
  wpAny_mono w (fun fl s' h => by
    obtain ⟨rfl, v, h', tk', hV, rfl, F', N'⟩ := h
    exact c v h' tk' hV F' N') fun _ _ x => x
theorem joinEx_new {nm : Str} {V : Value → Prop} {v : Value} {h₀ : Heap} {L : Addr} {m : Str → Option Value} {s : Shared} {news n' : List (Addr × Obj)} {h' : Heap} {tk' : Nat}
    (F : Fr h₀ L h' (fun k => if k = nm then some v else m k)) (hV : V v) (N : News h₀ L h' n') (hs : ∀ p ∈ news, p ∈ n') : JoinEx nm V h₀ L m s news .next { s with heap := h', toks := tk' } :=
  ⟨rfl, v, h', tk', hV, rfl, F, mem_sub N hs⟩
theorem joinEx_twice {nm : Str} {V : Value → Prop} {v v' : Value} {h₀ : Heap} {L : Addr} {m : Str → Option Value} {s : Shared} {news n' : List (Addr × Obj)} {h' : Heap} {tk' : Nat}
    (F : Fr h₀ L h' (fun k => if k = nm then some v else if k = nm then some v' else m k)) (hV : V v) (N : News h₀ L h' n') (hs : ∀ p ∈ news, p ∈ n') : JoinEx nm V h₀ L m s news .next { s with heap := h', toks := tk' } := by
  have e : (fun k => if k = nm then some v else if k = nm then some v' else m k) = (fun k => if k = nm then some v else m k) := by
    funext k
    by_cases h : k = nm <;> simp [h]
  rw [e] at F
  exact ⟨rfl, v, h', tk', hV, rfl, F, mem_sub N hs⟩
theorem joinEx_old {nm : Str} {V : Value → Prop} {v : Value} {h₀ : Heap} {L : Addr} {m : Str → Option Value} {s : Shared} {news n' : List (Addr × Obj)} {h' : Heap} {tk' : Nat}
    (F : Fr h₀ L h' m) (hm : m nm = some v) (hV : V v) (N : News h₀ L h' n') (hs : ∀ p ∈ news, p ∈ n') : JoinEx nm V h₀ L m s news .next { s with heap := h', toks := tk' } :=
  ⟨rfl, v, h', tk', hV, rfl, Fr.same F hm, mem_sub N hs⟩
def IsNum (v : Value) : Prop := ∃ (o : Option Int) (t : Tok), v = optV o t ∧ ∀ n, o = some n → -1000000 < n ∧ n < 1000000
theorem IsNum.none : IsNum .none := ⟨Option.none, 0, rfl, fun n h => nomatch h⟩
theorem IsNum.int {n : Int} {t : Tok} (h0 : -1000000 < n) (h1 : n < 1000000) : IsNum (.int n t) := ⟨some n, t, rfl, fun k h => by cases h; exact ⟨h0, h1⟩⟩
theorem num_mod {v : Int} {t : Tok} : IsNum (.int (v.fmod 1000000) t) := by
  have e : v.fmod 1000000 = v % 1000000 := Int.fmod_eq_emod_of_nonneg _ (by decide)
  exact IsNum.int (by rw [e]; omega) (by rw [e]; omega)
theorem num_neg {v : Int} {t : Tok} : IsNum (.int (0 - v.fmod 1000000) t) := by
  have e : v.fmod 1000000 = v % 1000000 := Int.fmod_eq_emod_of_nonneg _ (by decide)
  exact IsNum.int (by rw [e]; omega) (by rw [e]; omega)
def IsStep (prev : Str) (k : Int) (v : Value) : Prop := ∃ (z : Str) (t : Tok), v = .str z t ∧ (z = prev ∨ z = prev ++ Txt.item (Str.ofString "-+ 0") k)
theorem IsStep.same {prev : Str} {k : Int} {t : Tok} : IsStep prev k (.str prev t) := ⟨prev, t, rfl, .inl rfl⟩
theorem IsStep.more {prev c : Str} {k : Int} {t : Tok} (h : c = Txt.item (Str.ofString "-+ 0") k) : IsStep prev k (.str (prev ++ c) t) := ⟨_, t, rfl, .inr (by rw [h])⟩
theorem flags_made {z0 z1 z2 z3 z4 : Str} {k0 k1 k2 k3 : Int} (h0 : z0 = Str.ofString "") (e0 : k0 = 0) (e1 : k1 = 1) (e2 : k2 = 2) (e3 : k3 = 3)
    (h1 : z1 = z0 ∨ z1 = z0 ++ Txt.item (Str.ofString "-+ 0") k0) (h2 : z2 = z1 ∨ z2 = z1 ++ Txt.item (Str.ofString "-+ 0") k1) (h3 : z3 = z2 ∨ z3 = z2 ++ Txt.item (Str.ofString "-+ 0") k2) (h4 : z4 = z3 ∨ z4 = z3 ++ Txt.item (Str.ofString "-+ 0") k3) :
    ∃ sg z : List Nat, (∀ c ∈ sg, c ∈ [45, 43, 32]) ∧ (z = [] ∨ z = [48]) ∧ z4.cps.toList = sg ++ z ∧ sg.length ≤ 3 := by
  subst h0 e0 e1 e2 e3
  have i0 : (Txt.item (Str.ofString "-+ 0") 0).cps.toList = [45] := by decide +kernel
  have i1 : (Txt.item (Str.ofString "-+ 0") 1).cps.toList = [43] := by decide +kernel
  have i2 : (Txt.item (Str.ofString "-+ 0") 2).cps.toList = [32] := by decide +kernel
  have i3 : (Txt.item (Str.ofString "-+ 0") 3).cps.toList = [48] := by decide +kernel
  have p1 : ∃ sg : List Nat, (∀ c ∈ sg, c ∈ [45, 43, 32]) ∧ z1.cps.toList = sg ∧ sg.length ≤ 1 := by
    rcases h1 with rfl | rfl
    · exact ⟨[], by decide, l_e, by decide⟩
    · exact ⟨[45], by decide, by rw [app_list, l_e, i0]; rfl, by decide⟩
  obtain ⟨s1, q1, r1, t1⟩ := p1
  have p2 : ∃ sg : List Nat, (∀ c ∈ sg, c ∈ [45, 43, 32]) ∧ z2.cps.toList = sg ∧ sg.length ≤ 2 := by
    rcases h2 with rfl | rfl
    · exact ⟨s1, q1, r1, by omega⟩
    · refine ⟨s1 ++ [43], ?_, by rw [app_list, r1, i1], by simp only [List.length_append, List.length_cons, List.length_nil]; omega⟩
      intro c hc
      rcases List.mem_append.mp hc with h | h
      · exact q1 c h
      · rw [List.mem_singleton.mp h]; decide
  obtain ⟨s2, q2, r2, t2⟩ := p2
  have p3 : ∃ sg : List Nat, (∀ c ∈ sg, c ∈ [45, 43, 32]) ∧ z3.cps.toList = sg ∧ sg.length ≤ 3 := by
    rcases h3 with rfl | rfl
    · exact ⟨s2, q2, r2, by omega⟩
    · refine ⟨s2 ++ [32], ?_, by rw [app_list, r2, i2], by simp only [List.length_append, List.length_cons, List.length_nil]; omega⟩
      intro c hc
      rcases List.mem_append.mp hc with h | h
      · exact q2 c h
      · rw [List.mem_singleton.mp h]; decide
  obtain ⟨s3, q3, r3, t3⟩ := p3
  rcases h4 with rfl | rfl
  · exact ⟨s3, [], q3, .inl rfl, by rw [r3, List.append_nil], t3⟩
  · exact ⟨s3, [48], q3, .inr rfl, by rw [app_list, r3, i3], t3⟩
/-- the flags as the law draws them: minus, plus, blank, then nought -/
def FlagOrd (fl : Str) : Prop := ∃ sg z : List Nat, (∀ c ∈ sg, c ∈ [45, 43, 32]) ∧ (z = [] ∨ z = [48]) ∧ fl.cps.toList = sg ++ z ∧ sg.length ≤ 3
/-- what _law_drawn gives back -/
abbrev RetDrawn (news : List (Addr × Obj)) (h₀ : Heap) (L : Addr) (m : Str → Option Value) (s : Shared) (Q : Value → Shared → Prop) : Prop :=
  ∀ (o : Option Int) (wd cut : Int) (fl letters : Str) (tp : Addr) (t0 t1 t2 t3 t4 : Tok) (h' : Heap) (tk' : Nat), (∀ n, o = some n → -1000000 < n ∧ n < 1000000) → 0 ≤ wd → wd ≤ 12 → FlagOrd fl → letters.length ≤ 5 → 0 ≤ cut → cut ≤ 6 → Fr h₀ L h' m →
    News h₀ L h' ((tp, { cls := .type "tuple", data := .seq #[optV o t0, .int wd t1, .str fl t2, .str letters t3, .int cut t4] }) :: news) → (∀ p ∈ news, p.1 < tp) → Q (.ref tp) { s with heap := h', toks := tk' }
section
set_option maxHeartbeats 4000000 in
theorem bare_ok {w : World} {sa : Addr} {ns : List Int} {vs : List Value} {i : Int} {ti : Tok} {news : List (Addr × Obj)}
    (hi : IntsAre vs ns) (h0 : 0 ≤ i) (h1 : i ≤ 10) (hl : ns.length ≤ 63) :
    CtrP w 602 1 [.ref sa, .int i ti] news (fun h => h.IsList sa vs.toArray) (RetNat news) := by
  unfold CtrP
  k_with_none
  k_fill
  intro mg mb mean loose dp un gd cn cs a ccd cl outer A₀ base h₀ L m s Q E hL B F X N T hk hdp hun hret
  refine wpAny_call ?_
  k_dflt cell_enter
  have hG9 := Fr.lst (by assumption) hL
  k_steps
  · exact hret _ _ _ _ (by split <;> omega) (by assumption) (by assumption)
  · exact hret _ _ _ _ (Int.le_refl 0) (by assumption) (by assumption)
end
inductive OnceC : Prop
  | mk
theorem item_len (x : Str) (i : Int) : (Txt.item x i).length = 1 := rfl
theorem join_flag {M : Model} {A : Around} {t : Sem Flow} {Q : Flow → Shared → Prop} {E : Value → Shared → Prop} {s : Shared} {h₀ : Heap} {L : Addr} {m : Str → Option Value} {news : List (Addr × Obj)} {prev : Str} {tp tk : Tok} {k : Int}
    (F : Fr h₀ L s.heap m) (N : News h₀ L s.heap news) (hm : m (Str.ofString "flags") = some (.str prev tp)) (hk : m (Str.ofString "at") = some (.int k tk)) (w : wpAny M A t (JoinEx (Str.ofString "flags") (IsStep prev k) h₀ L m s news) E s)
    (c : ∀ (z : Str) (u : Tok) (h' : Heap) (tk' : Nat), (z = prev ∨ z = prev ++ Txt.item (Str.ofString "-+ 0") k) → z.length ≤ prev.length + 1 → Fr h₀ L h' (fun y => if y = Str.ofString "flags" then some (.str z u) else m y) → News h₀ L h' news → Q .next { s with heap := h', toks := tk' }) : wpAny M A t Q E s :=
  join_ex _ _ F N w fun v h' tk' hV F' N' => by
    obtain ⟨z, u, rfl, hz⟩ := hV
    exact c z u h' tk' hz (by rcases hz with rfl | rfl <;> (try rw [len_app, item_len]) <;> omega) F' N'
theorem join_num {M : Model} {A : Around} {t : Sem Flow} {Q : Flow → Shared → Prop} {E : Value → Shared → Prop} {s : Shared} {h₀ : Heap} {L : Addr} {m : Str → Option Value} {news : List (Addr × Obj)}
    (F : Fr h₀ L s.heap m) (N : News h₀ L s.heap news) (w : wpAny M A t (JoinEx (Str.ofString "number_now") IsNum h₀ L m s news) E s)
    (c : ∀ (o : Option Int) (u : Tok) (h' : Heap) (tk' : Nat), (∀ n, o = some n → -1000000 < n ∧ n < 1000000) → Fr h₀ L h' (fun y => if y = Str.ofString "number_now" then some (optV o u) else m y) → News h₀ L h' news → Q .next { s with heap := h', toks := tk' }) : wpAny M A t Q E s :=
  join_ex _ _ F N w fun v h' tk' hV F' N' => by
    obtain ⟨o, u, rfl, hz⟩ := hV
    exact c o u h' tk' hz F' N'
theorem first_item {vs : List Value} {ns : List Int} (hi : IntsAre vs ns) (h : decide (ns = []) = false) : ∃ (n : Int) (t : Tok), vs[(0 : Int).toNat]? = some (.int n t) := by
  cases hi with
  | nil => simp at h
  | cons n t r => exact ⟨_, _, rfl⟩
theorem unrEndN {h₀ : Heap} {L I : Addr} {it : Obj} {rest : (Str → Option Value) → List (Addr × Obj) → Prop} {s₁ : Shared} {h' : Heap} {tk : Nat} {m' : Str → Option Value} {news : List (Addr × Obj)}
    (F : Fr h₀ L h' m') (N : News h₀ L h' ((I, it) :: news)) (off : ∀ p ∈ news, p.1 < I) (r : rest m' news) : UnrEnd h₀ L s₁ I it rest { s₁ with heap := h', toks := tk } :=
  UnrEnd.intro F N _ (fun p hp => hp) (fun p hp => Nat.ne_of_lt (off p hp)) r
def LetSize (size : Int) (letters : Str) : Prop := 0 ≤ size ∧ ((letters.length = 0 ∧ size < 243) ∨ (letters.length = 1 ∧ size < 81) ∨ (letters.length = 2 ∧ size < 27) ∨ (letters.length = 3 ∧ size < 9) ∨ (letters.length = 4 ∧ size < 3) ∨ (letters.length = 5 ∧ size < 1))
theorem third_lt {a k : Int} (h : a < 3 * k) : a / 3 < k := by omega
theorem third_pos {a : Int} (h : 0 ≤ a) : 0 ≤ a / 3 := Int.ediv_nonneg h (by decide)
theorem LetSize.start {v : Int} : LetSize (v.fmod 243) (Str.ofString "") := by
  have e : v.fmod 243 = v % 243 := Int.fmod_eq_emod_of_nonneg _ (by decide)
  rw [e]
  exact ⟨Int.emod_nonneg _ (by decide), .inl ⟨len_e, Int.emod_lt_of_pos _ (by decide)⟩⟩
theorem LetSize.step {size : Int} {letters : Str} {c : Str} (h : LetSize size letters) (h0 : 0 < size) (hc : c.length = 1) : LetSize (size.fdiv 3) (letters ++ c) := by
  have e : size.fdiv 3 = size / 3 := Int.fdiv_eq_ediv_of_nonneg _ (by decide)
  have el : ∀ n, letters.length = n → (letters ++ c).length = n + 1 := fun n hn => by rw [len_app, hc, hn]
  rw [e]
  obtain ⟨hp, ⟨a, b⟩ | ⟨a, b⟩ | ⟨a, b⟩ | ⟨a, b⟩ | ⟨a, b⟩ | ⟨a, b⟩⟩ := h
  · exact ⟨third_pos hp, .inr (.inl ⟨el _ a, third_lt b⟩)⟩
  · exact ⟨third_pos hp, .inr (.inr (.inl ⟨el _ a, third_lt b⟩))⟩
  · exact ⟨third_pos hp, .inr (.inr (.inr (.inl ⟨el _ a, third_lt b⟩)))⟩
  · exact ⟨third_pos hp, .inr (.inr (.inr (.inr (.inl ⟨el _ a, third_lt b⟩))))⟩
  · exact ⟨third_pos hp, .inr (.inr (.inr (.inr (.inr ⟨el _ a, third_lt b⟩))))⟩
  · exact absurd (Int.lt_of_lt_of_le h0 (Int.le_of_lt_add_one b)) (Int.lt_irrefl _)
theorem LetSize.less {size : Int} (h0 : 0 < size) : (size.fdiv 3).toNat < size.toNat := by
  have e : size.fdiv 3 = size / 3 := Int.fdiv_eq_ediv_of_nonneg _ (by decide)
  rw [e]
  omega
theorem LetSize.len {size : Int} {letters : Str} (h : LetSize size letters) : letters.length ≤ 5 := by
  obtain ⟨hp, ⟨a, b⟩ | ⟨a, b⟩ | ⟨a, b⟩ | ⟨a, b⟩ | ⟨a, b⟩ | ⟨a, b⟩⟩ := h <;> (rw [a]; decide)
section
local macro_rules | `(tactic| walk_at "call ref") => `(tactic| (k_here; (with_reducible show wpAny _ _ (call (Value.ref 602) [Value.ref _, Value.int _ _]) _ _ _); k_dflt (refine' CtrP.use ?B ?F ?X ?N ?T ?k (bare_ok ?c1 ?c2 ?c3 ?c4) ?P ?dp ?un ?_; (case B => k_asm); (case F => k_asm); (case X => k_asm); (case N => k_asm); (case T => k_asm); (case k => rfl); (case P => assumption); (case c1 => assumption); (case c2 => decide); (case c3 => decide); (case c4 => assumption); (case dp => (dsimp only; omega)); (case un => (dsimp only; omega)); intro v9 t9 h9 tk9 hv9 F9 N9; (try dsimp only); (try k_fold))))
set_option maxHeartbeats 4000000 in
theorem drawn_ok {w : World} {sa : Addr} {ns : List Int} {vs : List Value} {news : List (Addr × Obj)} (hi : IntsAre vs ns) (hl : ns.length ≤ 63) :
    CtrP w 609 12 [.ref sa] news (fun h => h.IsList sa vs.toArray) (RetDrawn news) := by
  unfold CtrP
  k_with_none
  k_with "eval Call" => ((k_here; k_dflt (refine Call_ ?_)))
  k_with "compareOp NotEq ref ref" => ((k_here; (with_reducible show wpAny _ _ (compareOp CmpOp.NotEq (Value.ref _) (Value.ref _)) _ _ _); k_dflt (refine' ne_intsK (us := []) (ms := []) (by exact Fr.lst (by assumption) (by assumption)) (by assumption) (by exact News.isList (by k_asm) (by k_mem)) (by exact IntsAre.nil) (by (dsimp only; omega)) ?_)))
  k_with "subscriptTail Name Constant ref int" => ((k_here; (with_reducible show wpAny _ _ (subscriptTail _ _ (Value.ref _) (Value.int _ _)) _ _ _); (obtain ⟨n9, t9, hx9⟩ := first_item (by assumption) (by assumption)); k_dflt (refine' item_at (by exact Fr.lst (by assumption) (by assumption)) (Int.le_refl 0) (by decide) hx9 ?_ (by with_unfolding_all rfl))))
  k_with "subscriptTail Constant" => ((k_here; (with_reducible show wpAny _ _ (subscriptTail _ _ (Value.str _ _) (Value.int _ _)) _ _ _); (rename LetSize _ _ => h8); refine item_any (Int.fmod_nonneg h8.1 (by decide)) (Int.lt_of_lt_of_le (Int.fmod_lt_of_pos _ (by decide)) (by decide +kernel)) (by decide +kernel) ?_))
  k_with "UnrEnd" => ((k_dflt (refine' unrEndN (by assumption) (by assumption) (by first | assumption | exact ktn_ltOf (by assumption)) ?_)))
  k_with "inplaceOp Add str str" => ((k_here; (with_reducible show wpAny _ _ (inplaceOp Operator.Add (Value.str _ _) (Value.str (Txt.item _ _) _)) _ _ _); (refine SBL.iadd (hsz := (by (rw [item_len, sizeLine_eq]; first | omega | ((rename LetSize _ _ => h8); (have h7 := h8.len); omega)))) ?_); intro _ _ _))
  k_with "JoinEx" => (first | exact joinEx_new (by assumption) num_mod (by assumption) (fun p hp => by k_mem) | exact joinEx_twice (by assumption) num_neg (by assumption) (fun p hp => by k_mem) | exact joinEx_old (by assumption) (by with_unfolding_all rfl) IsNum.none (by assumption) (fun p hp => by k_mem) | exact joinEx_new (by assumption) (IsStep.more (by first | rfl | decide +kernel)) (by assumption) (fun p hp => by k_mem) | exact joinEx_new (by assumption) ⟨_, _, rfl, .inr (by decide +kernel)⟩ (by assumption) (fun p hp => by k_mem) | exact joinEx_old (by assumption) (by with_unfolding_all rfl) IsStep.same (by assumption) (fun p hp => by k_mem))
  k_fill
  intro mg mb mean loose dp un gd cn cs a ccd cl outer A₀ base h₀ L m s Q E hL B F X N T hk hdp hun hret
  refine wpAny_call ?_
  k_dflt cell_enter
  have hG9 := Fr.lst (by assumption) hL
  have le9 := len_e
  k_with "exec If Compare cons" => (fail_if_success (with_reducible show wpAny _ _ _ (JoinEx _ _ _ _ _ _ _) _ _)); first | ((fail_if_success (have : OnceC := by assumption)); refine join_num (by assumption) (by assumption) ?_ ?_; rotate_left; intro o9 u9 h9 tk9 hb9 F9 N9; have mk9 : OnceC := .mk; rotate_left) | (refine join_flag (by assumption) (by assumption) (by with_unfolding_all rfl) (by with_unfolding_all rfl) ?_ ?_; rotate_left; intro z9 u9 h9 tk9 hz9 hz8 F9 N9; rotate_left)
  k_with "exec While Compare cons nil" => k_while (fun (_ : List Int) (size : Int) (letters : PySem.Str) => LetSize size letters) (fun (_ : List Int) (size : Int) (_ : PySem.Str) => size.toNat) "size" "letters"
  k_with "state" => first | exact LetSize.step (by assumption) (by assumption) rfl | exact LetSize.start
  k_with "measure" => exact LetSize.less (by assumption)
  k_steps
  have e13 : ∀ v : Int, 0 ≤ v.fmod 13 ∧ v.fmod 13 ≤ 12 := fun v => by
    have e : v.fmod 13 = v % 13 := Int.fmod_eq_emod_of_nonneg _ (by decide)
    rw [e]; omega
  have e7 : ∀ v : Int, 0 ≤ v.fmod 7 ∧ v.fmod 7 ≤ 6 := fun v => by
    have e : v.fmod 7 = v % 7 := Int.fmod_eq_emod_of_nonneg _ (by decide)
    rw [e]; omega
  refine' hret _ _ _ _ _ _ _ _ _ _ _ _ _ ?hb (e13 _).1 (e13 _).2 ?hf ?hl (e7 _).1 (e7 _).2 ?hF ?hN ?hL
  case hF => assumption
  case hN => assumption
  case hb => assumption
  case hf =>
    refine' flags_made rfl ?e0 ?e1 ?e2 ?e3 ?h1 ?h2 ?h3 ?h4
    case h4 => assumption
    case h3 => assumption
    case h2 => assumption
    case h1 => assumption
    all_goals decide
  case hl => exact LetSize.len (by assumption)
  case hL => assumption
end
theorem str_eta (x : Str) : (⟨x.cps.toList.toArray⟩ : Str) = x := str_ext rfl
theorem flagList_of {fl : Str} (h : FlagOrd fl) : FlagList fl.cps.toList := by
  obtain ⟨sg, z, h1, h2, h3, _⟩ := h
  exact ⟨sg, z, h1, h2, .inl h3⟩
theorem flagList_rev {fl : Str} (h : FlagOrd fl) : FlagList fl.cps.toList.reverse := by
  obtain ⟨sg, z, h1, h2, h3, _⟩ := h
  refine ⟨sg.reverse, z, fun c hc => h1 c (List.mem_reverse.mp hc), h2, .inr ?_⟩
  rw [h3, List.reverse_append]
  rcases h2 with rfl | rfl <;> rfl
theorem flagOrd_len {fl : Str} (h : FlagOrd fl) : fl.length ≤ 4 := by
  obtain ⟨sg, z, h1, h2, h3, h4⟩ := h
  rw [← len_cps, h3, List.length_append]
  rcases h2 with rfl | rfl <;> simp only [List.length_nil, List.length_cons] <;> omega
def wdT (wd : Int) : Str := if 0 < wd then Str.ofString (toString wd) else Str.ofString ""
theorem wdT_all : ∀ k ∈ List.range 13, ((k : Int), (wdT (k : Int)).cps.toList) ∈ allW := by decide +kernel
theorem wdT_mem {wd : Int} (h0 : 0 ≤ wd) (h1 : wd ≤ 12) : (wd, (wdT wd).cps.toList) ∈ allW := by
  have := wdT_all wd.toNat (List.mem_range.mpr (by omega))
  rw [Int.toNat_of_nonneg h0] at this
  exact this
theorem wdT_len {wd : Int} (h0 : 0 ≤ wd) (h1 : wd ≤ 12) : (wdT wd).length ≤ 2 := by
  rw [← len_cps]
  exact (allW_fig _ (wdT_mem h0 h1)).2.2.2.2.2
theorem join_flat (ys : List Str) : (Txt.join (Str.ofString "") ys).cps.toList = (ys.map (·.cps.toList)).flatten := by
  show (Builtin.Str.glued _ _).cps.toList = _
  rw [StrLaws.glued_eq_join]
  induction ys with
  | nil => rfl
  | cons x r ih =>
    cases r with
    | nil => simp [Str.join]
    | cons y q =>
      show (x ++ Str.ofString "" ++ Str.join (Str.ofString "") (y :: q)).cps.toList = _
      rw [app_list, app_list, l_e, ih]
      simp
theorem nohash {y : Str} (h : 35 ∉ y.cps.toList) : (Builtin.Str.occurrences y (Str.ofString "#") 0 y.length 1).isEmpty = true := by
  have h1 := contains_one y 35
  rw [← s_h] at h1
  unfold Txt.contains at h1
  rw [decide_eq_false h] at h1
  simpa using h1
theorem flag_nohash {fs : List Nat} (hf : FlagList fs) : 35 ∉ fs := fun hm => by
  have := flags_yes hf 35 hm
  revert this; decide
theorem di_facts : ∀ c ∈ [100, 105], (one c == Str.ofString "%") = false ∧ (Builtin.Str.occurrences (Str.ofString "dioxX") (one c) 0 (Str.ofString "dioxX").length 1).isEmpty = false ∧ (Builtin.Str.occurrences (Str.ofString "di") (one c) 0 (Str.ofString "di").length 1).isEmpty = false := by decide +kernel
theorem s_facts : (one 115 == Str.ofString "%") = false ∧ (Builtin.Str.occurrences (Str.ofString "dioxX") (one 115) 0 (Str.ofString "dioxX").length 1).isEmpty = true ∧ (one 115 == Str.ofString "s") = true := by decide +kernel
theorem pct_facts : (one 37 == Str.ofString "%") = true := by decide +kernel
theorem len_padF (b fl : Str) (wd : Int) : (padF b fl wd).length ≤ b.length + wd.toNat := by
  unfold padF
  split
  · rw [show Txt.ljust b wd = Txt.ljustF b wd 32 from rfl, len_of_list (ljustF_list b wd 32), List.length_append, List.length_replicate, Array.length_toList]
    have : b.length = b.cps.size := rfl
    omega
  · rw [show Txt.rjust b wd = Txt.rjustF b wd 32 from rfl, len_of_list (rjustF_list b wd 32), List.length_append, List.length_replicate, Array.length_toList]
    have : b.length = b.cps.size := rfl
    omega
theorem len_numF {o : Option Int} {fl : Str} {wd : Int} (h0 : 0 ≤ wd) (h1 : wd ≤ 12) (hn : ∀ n, o = some n → -1000000 < n ∧ n < 1000000) : (numF o fl wd).length ≤ 100 := by
  cases o with
  | none =>
    have := len_padF (Str.ofString "NA") fl wd
    have e : (Str.ofString "NA").length = 2 := by decide +kernel
    show (padF _ _ _).length ≤ _
    omega
  | some n =>
    obtain ⟨h2, h3⟩ := hn n rfl
    have hf := front_len n fl
    have hl : (numT n).length ≤ 10 := len_numT h2 h3
    by_cases hz : Txt.contains fl (Str.ofString "0") = true ∧ Txt.contains fl (Str.ofString "-") = false
    · rw [numF_zero hz.1 hz.2]
      refine Nat.le_trans (len_padF _ _ _) ?_
      rw [len_app, show upTo (numT n) (wd - ((frontF n fl).length : Nat)) = Txt.rjustF (numT n) (wd - ((frontF n fl).length : Nat)) 48 from rfl, len_rjF]
      omega
    · rw [numF_plain (by
        by_cases a : Txt.contains fl (Str.ofString "0") = true
        · by_cases b : Txt.contains fl (Str.ofString "-") = true
          · exact .inr b
          · exact absurd ⟨a, by simpa using b⟩ hz
        · exact .inl (by simpa using a))]
      refine Nat.le_trans (len_padF _ _ _) ?_
      rw [len_app]
      omega
theorem padF_congr {b fl fl' : Str} {wd : Int} (h : Txt.contains fl (Str.ofString "-") = Txt.contains fl' (Str.ofString "-")) : padF b fl wd = padF b fl' wd := by
  unfold padF
  rw [show Txt.contains fl "-" = Txt.contains fl (Str.ofString "-") from rfl, h]
theorem numF_congr {o : Option Int} {fl fl' : Str} {wd : Int} (h : ∀ c, c ∈ fl.cps.toList ↔ c ∈ fl'.cps.toList) : numF o fl wd = numF o fl' wd := by
  have hc : ∀ c, Txt.contains fl (one c) = Txt.contains fl' (one c) := fun c => by
    rw [contains_one, contains_one]
    exact decide_eq_decide.mpr (h c)
  have hm : Txt.contains fl (Str.ofString "-") = Txt.contains fl' (Str.ofString "-") := by rw [s_m]; exact hc 45
  cases o with
  | none => exact padF_congr hm
  | some n =>
    show padF (headF _ fl ++ filledF _ fl _) fl wd = padF (headF _ fl' ++ filledF _ fl' _) fl' wd
    rw [padF_congr hm]
    have hh : headF (wholeF n) fl = headF (wholeF n) fl' := by
      unfold headF
      rw [s_p, hc 43, s_b, hc 32]
    unfold filledF
    rw [hh, hm, s_0, hc 48]
theorem sum2 {a b : Str} (ha : a.length ≤ 500) (hb : b.length ≤ 9000) : ([a, b].map (·.length)).sum ≤ 100000 := by
  simp only [List.map_cons, List.map_nil, List.sum_cons, List.sum_nil]
  omega
theorem e_str : (⟨([] : List Nat).toArray⟩ : Str) = Str.ofString "" := str_ext (by rw [l_e])
theorem run_cast {x : Str} {dat : List (Str × List Value)} {turn e e' taken : Int} {out : List Str} (h : e = e') (R : Run x dat turn e' taken out) : Run x dat turn e taken out := h ▸ R
/-- one number: the form's text -/
theorem form_num {x : Str} {fs ws : List Nat} {c : Nat} {wd : Int} {its : List Value} {turn : Int} {on : Option Int} {ti : Tok} (hx : x.cps.toList = [37] ++ (fs ++ (ws ++ c :: []))) (hc : c ∈ [100, 105]) (hf : FlagList fs) (hw : (wd, ws) ∈ allW) (hl : x.length ≤ 500)
    (hit : its[(turn.fmod its.length).toNat]? = some (optV on ti)) (hn : ∀ n, on = some n → -1000000 < n ∧ n < 1000000) :
    ∃ out, RunOk x [(Str.ofString "integer", its)] turn out ∧ Txt.join (Str.ofString "") out = numF on ⟨fs.toArray⟩ wd := by
  obtain ⟨w1, w2, w3, w4, w5, w6⟩ := allW_fig _ hw
  dsimp only at w4 w5 w6
  have hlen : x.length = 1 + fs.length + ws.length + 1 := by rw [← len_cps, hx]; simp only [List.length_append, List.length_cons, List.length_nil]; omega
  have hr := len_numF (o := on) (fl := ⟨fs.toArray⟩) w4 w5 hn
  obtain ⟨f1, f2, f3⟩ := di_facts c hc
  have R := read_plain (a := 1) (pre := [37]) (dat := [(Str.ofString "integer", its)]) (turn := turn) (taken := 0) hx rfl hf hw (mem_of hc (by decide)) hl
  have S := run_step (pre := []) (mid := []) (i := 0) (e9 := 1) (out := []) (r := numF on ⟨fs.toArray⟩ wd) (taken' := 1) hx rfl (fun d hd => nomatch hd) hl rfl R
    (.num its on ti rfl hit (by decide) w4 (Int.le_trans w5 (by decide)) hn f1 f2 f3 (nohash (flag_nohash hf))) (by omega) (by simp only [List.length_nil, List.length_cons]; omega) (by rw [hlen]; simp only [List.length_cons, List.length_nil]; omega)
    (by rw [show ((([37] : List Nat).length + fs.length + ws.length + 1 : Nat) : Int) = (x.length : Int) from by rw [hlen]; (simp only [List.length_cons, List.length_nil] <;> omega)]; exact .done)
  refine ⟨_, ⟨S, sum2 (by rw [e_str, len_e]; omega) (by omega), by simp⟩, str_ext ?_⟩
  rw [join_flat]
  simp
/-- one number, its width by a star -/
theorem form_star {x : Str} {fs : List Nat} {n : Int} {t1 : Tok} {on : Option Int} {ti : Tok} (hx : x.cps.toList = [37] ++ (fs ++ 42 :: 100 :: [])) (hf : FlagList fs) (hl : x.length ≤ 500)
    (h0 : 0 ≤ starWd n) (h1 : starWd n ≤ 12) (hn : ∀ n, on = some n → -1000000 < n ∧ n < 1000000) :
    ∃ out, RunOk x [(Str.ofString "integer", [.int n t1]), (Str.ofString "integer", [optV on ti])] 0 out ∧ Txt.join (Str.ofString "") out = numF on (starFl n ⟨fs.toArray⟩) (starWd n) := by
  have hlen : x.length = 1 + fs.length + 2 := by rw [← len_cps, hx]; simp only [List.length_append, List.length_cons, List.length_nil]; omega
  have hr := len_numF (o := on) (fl := starFl n ⟨fs.toArray⟩) h0 h1 hn
  obtain ⟨f1, f2, f3⟩ := di_facts 100 (by decide)
  have hb : -8000 ≤ n ∧ n ≤ 8000 := by unfold starWd at h0 h1; split at h1 <;> omega
  have hh : 35 ∉ (starFl n (⟨fs.toArray⟩ : Str)).cps.toList := by
    unfold starFl
    split
    · rw [app_list, l_m]
      intro hm
      rcases List.mem_append.mp hm with h | h
      · exact flag_nohash hf h
      · revert h; decide
    · exact flag_nohash hf
  have R := read_star (a := 1) (pre := [37]) (n := n) (ti := t1) (its := [.int n t1]) (dat := [(Str.ofString "integer", [.int n t1]), (Str.ofString "integer", [optV on ti])]) (turn := 0) (taken := 0) hx rfl hf (by decide) hl rfl rfl (by decide) hb.1 hb.2
  have S := run_step (pre := []) (mid := []) (i := 0) (e9 := 1) (out := []) (r := numF on (starFl n ⟨fs.toArray⟩) (starWd n)) (taken' := 2) hx rfl (fun d hd => nomatch hd) hl rfl R
    (.num [optV on ti] on ti rfl rfl (by decide) h0 (Int.le_trans h1 (by decide)) hn f1 f2 f3 (nohash hh)) (by omega) (by simp only [List.length_nil, List.length_cons]; omega) (by rw [hlen]; simp only [List.length_cons, List.length_nil]; omega)
    (by rw [show ((([37] : List Nat).length + fs.length + 2 : Nat) : Int) = (x.length : Int) from by rw [hlen]; simp only [List.length_cons, List.length_nil]]; exact .done)
  refine ⟨_, ⟨S, sum2 (by rw [e_str, len_e]; omega) (by omega), by simp⟩, str_ext ?_⟩
  rw [join_flat]
  simp
def EndIs (e : List Nat) (o : Option Int) : Prop := (e = [115] ∧ o = none) ∨ ∃ d : Nat, d ≤ 5 ∧ e = [46, 48 + d, 115] ∧ o = some (d : Int)
theorem EndIs.bound {e : List Nat} {o : Option Int} (h : EndIs e o) : (∀ c, o = some c → 0 ≤ c ∧ c ≤ 6) ∧ e.length ≤ 3 := by
  rcases h with ⟨rfl, rfl⟩ | ⟨d, hd, rfl, rfl⟩
  · exact ⟨fun c h => (nomatch h), by decide⟩
  · exact ⟨fun c h => by cases h; omega, by simp⟩
theorem len_cut {o : Option Int} {l : Str} (hl : l.length ≤ 5) : (cutF o l).length ≤ 5 := by
  cases o with
  | none => exact hl
  | some c => exact Nat.le_trans (Txt.slice_le _ _ _) hl
/-- one text -/
theorem form_text {x : Str} {fs ws end_ : List Nat} {wd : Int} {o : Option Int} {l : Str} {t : Tok} (hx : x.cps.toList = [37] ++ (fs ++ (ws ++ (end_ ++ [])))) (he : EndIs end_ o) (hf : FlagList fs) (hw : (wd, ws) ∈ allW) (hl : x.length ≤ 500) (hll : l.length ≤ 5) :
    ∃ out, RunOk x [(Str.ofString "character", [.str l t])] 0 out ∧ Txt.join (Str.ofString "") out = padF (cutF o l) ⟨fs.toArray⟩ wd := by
  obtain ⟨w1, w2, w3, w4, w5, w6⟩ := allW_fig _ hw
  dsimp only at w4 w5 w6
  have hlen : x.length = 1 + fs.length + ws.length + end_.length := by rw [← len_cps, hx]; simp only [List.length_append, List.length_cons, List.length_nil]; omega
  have hr := len_padF (cutF o l) ⟨fs.toArray⟩ wd
  have hr2 := len_cut (o := o) hll
  have hel : 0 < end_.length := by rcases he with ⟨rfl, _⟩ | ⟨d, _, rfl, _⟩ <;> simp
  obtain ⟨f1, f2, f3⟩ := s_facts
  have R := read_text (a := 1) (pre := [37]) (rest := []) (dat := [(Str.ofString "character", [.str l t])]) (turn := 0) (taken := 0) hx rfl hf hw he hl
  have S := run_step (pre := []) (mid := []) (i := 0) (e9 := 1) (out := []) (r := padF (cutF o l) ⟨fs.toArray⟩ wd) (taken' := 1) hx rfl (fun d hd => nomatch hd) hl rfl R
    (.text [.str l t] l t rfl rfl (by decide) w4 (Int.le_trans w5 (by decide)) hll he.bound.1 f1 f2 f3) (by omega) (by simp only [List.length_nil, List.length_cons]; omega) (by rw [hlen]; simp only [List.length_cons, List.length_nil]; omega)
    (by rw [show ((([37] : List Nat).length + fs.length + ws.length + end_.length : Nat) : Int) = (x.length : Int) from by rw [hlen]; (simp only [List.length_cons, List.length_nil] <;> omega)]; exact .done)
  refine ⟨_, ⟨S, sum2 (by rw [e_str, len_e]; omega) (by omega), by simp⟩, str_ext ?_⟩
  rw [join_flat]
  simp
theorem wf_a : (Str.ofString "a").cps.toList = [97] := by decide +kernel
theorem wf_b : (Str.ofString "%b").cps.toList = [37, 98] := by decide +kernel
theorem l_pct : (Str.ofString "%").cps.toList = [37] := by decide +kernel
/-- a number, a per cent sign, a text, a per cent sign, one behind the other -/
theorem form_both {x : Str} {fs ss ws end_ : List Nat} {wd : Int} {on o : Option Int} {ti t : Tok} {l : Str} (hx : x.cps.toList = [97, 37] ++ (fs ++ (ws ++ 100 :: (37 :: 37 :: 98 :: 37 :: (ss ++ (ws ++ (end_ ++ [37, 37]))))))) (he : EndIs end_ o) (hf : FlagList fs) (hs : FlagList ss) (hw : (wd, ws) ∈ allW) (hl : x.length ≤ 500) (hll : l.length ≤ 5)
    (hn : ∀ n, on = some n → -1000000 < n ∧ n < 1000000) :
    ∃ out, RunOk x [(Str.ofString "integer", [optV on ti]), (Str.ofString "character", [.str l t])] 0 out ∧
      Txt.join (Str.ofString "") out = Str.ofString "a" ++ numF on ⟨fs.toArray⟩ wd ++ Str.ofString "%b" ++ padF (cutF o l) ⟨ss.toArray⟩ wd ++ Str.ofString "%" := by
  obtain ⟨w1, w2, w3, w4, w5, w6⟩ := allW_fig _ hw
  dsimp only at w4 w5 w6
  have hr := len_numF (o := on) (fl := ⟨fs.toArray⟩) w4 w5 hn
  have hp := len_padF (cutF o l) ⟨ss.toArray⟩ wd
  have hc := len_cut (o := o) hll
  have hel : 0 < end_.length := by rcases he with ⟨rfl, _⟩ | ⟨d, _, rfl, _⟩ <;> simp
  obtain ⟨d1, d2, d3⟩ := di_facts 100 (by decide)
  obtain ⟨f1, f2, f3⟩ := s_facts
  have hlen : x.length = fs.length + ws.length + ss.length + ws.length + end_.length + 9 := by rw [← len_cps, hx]; simp only [List.length_append, List.length_cons, List.length_nil]; omega
  have x1 : x.cps.toList = [] ++ ([97] ++ 37 :: (fs ++ (ws ++ 100 :: (37 :: 37 :: 98 :: 37 :: (ss ++ (ws ++ (end_ ++ [37, 37]))))))) := hx
  have x2 : x.cps.toList = ([97, 37] ++ fs ++ ws ++ [100]) ++ ([] ++ 37 :: (37 :: 98 :: 37 :: (ss ++ (ws ++ (end_ ++ [37, 37]))))) := by rw [hx]; simp
  have x2' : x.cps.toList = ([97, 37] ++ fs ++ ws ++ [100, 37]) ++ ([] ++ ([] ++ 37 :: (98 :: 37 :: (ss ++ (ws ++ (end_ ++ [37, 37])))))) := by rw [hx]; simp
  have x3 : x.cps.toList = ([97, 37] ++ fs ++ ws ++ [100, 37, 37]) ++ ([98] ++ 37 :: (ss ++ (ws ++ (end_ ++ [37, 37])))) := by rw [hx]; simp
  have x3' : x.cps.toList = ([97, 37] ++ fs ++ ws ++ [100, 37, 37, 98, 37]) ++ (ss ++ (ws ++ (end_ ++ [37, 37]))) := by rw [hx]; simp
  have x4 : x.cps.toList = ([97, 37] ++ fs ++ ws ++ [100, 37, 37, 98, 37] ++ ss ++ ws ++ end_) ++ ([] ++ 37 :: [37]) := by rw [hx]; simp
  have x4' : x.cps.toList = ([97, 37] ++ fs ++ ws ++ [100, 37, 37, 98, 37] ++ ss ++ ws ++ end_ ++ [37]) ++ ([] ++ ([] ++ 37 :: [])) := by rw [hx]; simp
  have R4 := read_plain (a := ((x.length : Int) - 1)) (dat := [(Str.ofString "integer", [optV on ti]), (Str.ofString "character", [.str l t])]) (turn := 0) (taken := 2) (wd := 0) x4' (by rw [hlen]; simp only [List.length_append, List.length_cons, List.length_nil]; omega) ⟨[], [], (fun c h => nomatch h), .inl rfl, .inl rfl⟩ (by decide) (by decide) hl
  have S4 := run_step (i := ((x.length : Int) - 2)) (e9 := ((x.length : Int) - 1)) (out := []) (r := Str.ofString "%") (taken' := 2) x4 (by rw [hlen]; simp only [List.length_append, List.length_cons, List.length_nil]; omega) (fun d hd => nomatch hd) hl (by rw [hlen]; simp only [List.length_append, List.length_cons, List.length_nil]; omega) R4
    (.pct pct_facts) (by decide +kernel) (by simp only [List.length_append, List.length_nil, List.length_cons]; omega) (by rw [hlen]; simp only [List.length_append, List.length_cons, List.length_nil]; omega)
    (run_cast (by rw [hlen]; simp only [List.length_append, List.length_cons, List.length_nil]; omega) .done)
  have R3 := read_text (a := (fs.length + ws.length + 7 : Nat)) (dat := [(Str.ofString "integer", [optV on ti]), (Str.ofString "character", [.str l t])]) (turn := 0) (taken := 1) x3' (by simp only [List.length_append, List.length_cons, List.length_nil]; omega) hs hw he hl
  have S3 := run_step (i := ((fs.length + ws.length + 5 : Nat) : Int)) (e9 := ((fs.length + ws.length + 7 : Nat) : Int)) (r := padF (cutF o l) ⟨ss.toArray⟩ wd) (taken' := 2) x3 (by simp only [List.length_append, List.length_cons, List.length_nil]; omega) (fun d hd => by rw [List.mem_singleton.mp hd]; decide) hl (by simp only [List.length_append, List.length_cons, List.length_nil]; omega) R3
    (.text [.str l t] l t rfl rfl (by decide) w4 (Int.le_trans w5 (by decide)) hll he.bound.1 f1 f2 f3) (by omega) (by simp only [List.length_append, List.length_nil, List.length_cons]; omega) (by rw [hlen]; simp only [List.length_append, List.length_cons, List.length_nil]; omega)
    (run_cast (by rw [hlen]; simp only [List.length_append, List.length_cons, List.length_nil]; omega) S4)
  have R2 := read_plain (a := (fs.length + ws.length + 4 : Nat)) (dat := [(Str.ofString "integer", [optV on ti]), (Str.ofString "character", [.str l t])]) (turn := 0) (taken := 1) (wd := 0) x2' (by simp only [List.length_append, List.length_cons, List.length_nil]; omega) ⟨[], [], (fun c h => nomatch h), .inl rfl, .inl rfl⟩ (by decide) (by decide) hl
  have S2 := run_step (i := ((fs.length + ws.length + 3 : Nat) : Int)) (e9 := ((fs.length + ws.length + 4 : Nat) : Int)) (r := Str.ofString "%") (taken' := 1) x2 (by simp only [List.length_append, List.length_cons, List.length_nil]; omega) (fun d hd => nomatch hd) hl (by simp only [List.length_append, List.length_cons, List.length_nil]; omega) R2
    (.pct pct_facts) (by decide +kernel) (by simp only [List.length_append, List.length_nil, List.length_cons]; omega) (by rw [hlen]; simp only [List.length_append, List.length_cons, List.length_nil]; omega)
    (run_cast (by simp only [List.length_append, List.length_cons, List.length_nil]; omega) S3)
  have R1 := read_plain (a := 2) (dat := [(Str.ofString "integer", [optV on ti]), (Str.ofString "character", [.str l t])]) (turn := 0) (taken := 0) hx rfl hf hw (by decide) hl
  have S1 := run_step (i := 0) (e9 := 2) (r := numF on ⟨fs.toArray⟩ wd) (taken' := 1) x1 rfl (fun d hd => by rw [List.mem_singleton.mp hd]; decide) hl rfl R1
    (.num [optV on ti] on ti rfl rfl (by decide) w4 (Int.le_trans w5 (by decide)) hn d1 d2 d3 (nohash (flag_nohash hf))) (by omega) (by simp only [List.length_append, List.length_nil, List.length_cons]; omega) (by rw [hlen]; simp only [List.length_append, List.length_cons, List.length_nil]; omega)
    (run_cast (by simp only [List.length_append, List.length_cons, List.length_nil]; omega) S2)
  refine ⟨_, ⟨S1, ?_, by simp⟩, str_ext ?_⟩
  · simp only [List.map_cons, List.map_nil, List.sum_cons, List.sum_nil]
    have e1 : (⟨([97] : List Nat).toArray⟩ : Str).length = 1 := rfl
    have e2 : (⟨([98] : List Nat).toArray⟩ : Str).length = 1 := rfl
    have e3 : (⟨([] : List Nat).toArray⟩ : Str).length = 0 := rfl
    have e4 : (Str.ofString "%").length = 1 := by decide +kernel
    omega
  · rw [join_flat, app_list, app_list, app_list, app_list, wf_a, wf_b, l_pct]
    simp [l_pct]
section
variable {w : World} {va v v' : Addr} {nn : Nat} {on o : Option Int} {ti t t1 : Tok} {fl l : Str} {wd n : Int} {news : List (Addr × Obj)}
theorem ask_one {x : Str} {kind : Str} {i1 : Value} {r : Str} (hva : (va, listOf [.ref v].toArray nn) ∈ news) (V : VecIn w.params news v kind [i1]) (hk : kind = Str.ofString "integer" ∨ kind = Str.ofString "character") (hx : x.length ≤ 500)
    (h : ∃ out, RunOk x [(kind, [i1])] 0 out ∧ Txt.join (Str.ofString "") out = r) : AskH w x va [r] news := by
  obtain ⟨out, R, rfl⟩ := h
  exact fun t fv news' Vf S => vectors_1_ok Vf (S _ hva) (V.mono S) hk hx R
theorem ask_two {x : Str} {kind : Str} {i1 i2 : Value} {r : Str} (hva : (va, listOf [.ref v, .ref v'].toArray nn) ∈ news) (V : VecIn w.params news v (Str.ofString "integer") [i1]) (V' : VecIn w.params news v' kind [i2]) (hk : kind = Str.ofString "integer" ∨ kind = Str.ofString "character") (hx : x.length ≤ 500)
    (h : ∃ out, RunOk x [(Str.ofString "integer", [i1]), (kind, [i2])] 0 out ∧ Txt.join (Str.ofString "") out = r) : AskH w x va [r] news := by
  obtain ⟨out, R, rfl⟩ := h
  exact fun t fv news' Vf S => vectors_2_ok Vf (S _ hva) (V.mono S) (V'.mono S) hk hx R
theorem ask_turns {x : Str} {i1 i2 : Value} {r r' : Str} (hva : (va, listOf [.ref v].toArray nn) ∈ news) (V : VecIn w.params news v (Str.ofString "integer") [i1, i2]) (hx : x.length ≤ 500)
    (h : ∃ out, RunOk x [(Str.ofString "integer", [i1, i2])] 0 out ∧ Txt.join (Str.ofString "") out = r) (h' : ∃ out, RunOk x [(Str.ofString "integer", [i1, i2])] 1 out ∧ Txt.join (Str.ofString "") out = r') : AskH w x va [r, r'] news := by
  obtain ⟨out, R, rfl⟩ := h
  obtain ⟨out', R', rfl⟩ := h'
  exact fun t fv news' Vf S => vectors_t_ok Vf (S _ hva) (V.mono S) hx R R'
theorem l_d : (Str.ofString "d").cps.toList = [100] := by decide +kernel
theorem l_i : (Str.ofString "i").cps.toList = [105] := by decide +kernel
theorem l_sd : (Str.ofString "*d").cps.toList = [42, 100] := by decide +kernel
theorem l_s : (Str.ofString "s").cps.toList = [115] := by decide +kernel
theorem l_dot : (Str.ofString ".").cps.toList = [46] := by decide +kernel
theorem l_apct : (Str.ofString "a%").cps.toList = [97, 37] := by decide +kernel
theorem l_dpct : (Str.ofString "d%%b%").cps.toList = [100, 37, 37, 98, 37] := by decide +kernel
theorem l_pp : (Str.ofString "%%").cps.toList = [37, 37] := by decide +kernel
theorem len_short {x : Str} {l : List Nat} (h : x.cps.toList = l) (hl : l.length ≤ 500) : x.length ≤ 500 := by rw [← len_cps, h]; exact hl
theorem fs_len {fs : List Nat} (hf : FlagOrd fl) (h : fs = fl.cps.toList ∨ fs = fl.cps.toList.reverse) : fs.length ≤ 4 := by
  have := flagOrd_len hf
  rw [← len_cps] at this
  rcases h with rfl | rfl
  · exact this
  · rw [List.length_reverse]; exact this
theorem ask_d (hf : FlagOrd fl) (h0 : 0 ≤ wd) (h1 : wd ≤ 12) (hn : ∀ n, on = some n → -1000000 < n ∧ n < 1000000) (hva : (va, listOf [.ref v].toArray nn) ∈ news) (V : VecIn w.params news v (Str.ofString "integer") [optV on ti]) :
    AskH w (Str.ofString "%" ++ fl ++ wdT wd ++ Str.ofString "d") va [numF on fl wd] news := by
  have hx : (Str.ofString "%" ++ fl ++ wdT wd ++ Str.ofString "d").cps.toList = [37] ++ (fl.cps.toList ++ ((wdT wd).cps.toList ++ 100 :: [])) := by simp only [app_list, l_pct, l_d, List.append_assoc, List.cons_append, List.nil_append]
  have hl : (Str.ofString "%" ++ fl ++ wdT wd ++ Str.ofString "d").length ≤ 500 := len_short hx (by have := fs_len hf (.inl rfl); have := wdT_len h0 h1; rw [← len_cps] at this; simp only [List.length_append, List.length_cons, List.length_nil]; omega)
  have := form_num (turn := 0) (its := [optV on ti]) hx (by decide) (flagList_of hf) (wdT_mem h0 h1) hl rfl hn
  rw [str_eta] at this
  exact ask_one hva V (.inl rfl) hl this
theorem ask_i {fr : Str} (hr : fr.cps.toList = fl.cps.toList.reverse) (hf : FlagOrd fl) (h0 : 0 ≤ wd) (h1 : wd ≤ 12) (hn : ∀ n, on = some n → -1000000 < n ∧ n < 1000000) (hva : (va, listOf [.ref v].toArray nn) ∈ news) (V : VecIn w.params news v (Str.ofString "integer") [optV on ti]) :
    AskH w (Str.ofString "%" ++ fr ++ wdT wd ++ Str.ofString "i") va [numF on fl wd] news := by
  have hx : (Str.ofString "%" ++ fr ++ wdT wd ++ Str.ofString "i").cps.toList = [37] ++ (fr.cps.toList ++ ((wdT wd).cps.toList ++ 105 :: [])) := by simp only [app_list, l_pct, l_i, List.append_assoc, List.cons_append, List.nil_append]
  have hl : (Str.ofString "%" ++ fr ++ wdT wd ++ Str.ofString "i").length ≤ 500 := len_short hx (by have := fs_len hf (.inr hr); have := wdT_len h0 h1; rw [← len_cps] at this; simp only [List.length_append, List.length_cons, List.length_nil]; omega)
  have := form_num (turn := 0) (its := [optV on ti]) hx (by decide) (by rw [hr]; exact flagList_rev hf) (wdT_mem h0 h1) hl rfl hn
  rw [str_eta, numF_congr (fl' := fl) (fun c => by rw [hr, List.mem_reverse])] at this
  exact ask_one hva V (.inl rfl) hl this
theorem ask_star (hf : FlagOrd fl) (h0 : 0 ≤ starWd n) (h1 : starWd n ≤ 12) (hn : ∀ n, on = some n → -1000000 < n ∧ n < 1000000) (hva : (va, listOf [.ref v', .ref v].toArray nn) ∈ news) (V' : VecIn w.params news v' (Str.ofString "integer") [.int n t1]) (V : VecIn w.params news v (Str.ofString "integer") [optV on ti]) :
    AskH w (Str.ofString "%" ++ fl ++ Str.ofString "*d") va [numF on (starFl n fl) (starWd n)] news := by
  have hx : (Str.ofString "%" ++ fl ++ Str.ofString "*d").cps.toList = [37] ++ (fl.cps.toList ++ 42 :: 100 :: []) := by simp only [app_list, l_pct, l_sd, List.append_assoc, List.cons_append, List.nil_append]
  have hl : (Str.ofString "%" ++ fl ++ Str.ofString "*d").length ≤ 500 := len_short hx (by have := fs_len hf (.inl rfl); simp only [List.length_append, List.length_cons, List.length_nil]; omega)
  have := form_star (t1 := t1) (ti := ti) hx (flagList_of hf) hl h0 h1 hn
  rw [str_eta] at this
  exact ask_two hva V' V (.inl rfl) hl this
theorem ask_star0 (hf : FlagOrd fl) (h0 : 0 ≤ wd) (h1 : wd ≤ 12) (hn : ∀ n, on = some n → -1000000 < n ∧ n < 1000000) (hva : (va, listOf [.ref v', .ref v].toArray nn) ∈ news) (V' : VecIn w.params news v' (Str.ofString "integer") [.int wd t1]) (V : VecIn w.params news v (Str.ofString "integer") [optV on ti]) :
    AskH w (Str.ofString "%" ++ fl ++ Str.ofString "*d") va [numF on fl wd] news := by
  have e1 : starFl wd fl = fl := if_neg (by omega)
  have e2 : starWd wd = wd := if_neg (by omega)
  have := ask_star (n := wd) hf (by rw [e2]; exact h0) (by rw [e2]; exact h1) hn hva V' V
  rw [e1, e2] at this
  exact this
theorem ask_starN (hf : FlagOrd fl) (h0 : 0 < wd) (h1 : wd ≤ 12) (hn : ∀ n, on = some n → -1000000 < n ∧ n < 1000000) (hva : (va, listOf [.ref v', .ref v].toArray nn) ∈ news) (V' : VecIn w.params news v' (Str.ofString "integer") [.int (0 - wd) t1]) (V : VecIn w.params news v (Str.ofString "integer") [optV on ti]) :
    AskH w (Str.ofString "%" ++ fl ++ Str.ofString "*d") va [numF on (fl ++ Str.ofString "-") wd] news := by
  have e1 : starFl (0 - wd) fl = fl ++ Str.ofString "-" := if_pos (by omega)
  have e2 : starWd (0 - wd) = wd := by unfold starWd; rw [if_pos (by omega)]; omega
  have := ask_star (n := 0 - wd) hf (by rw [e2]; omega) (by rw [e2]; exact h1) hn hva V' V
  rw [e1, e2] at this
  exact this
def sideT (fl : Str) : Str := if Txt.contains fl (Str.ofString "-") = true then Str.ofString "-" else Str.ofString ""
def endT (cut : Int) : Str := if cut = 6 then Str.ofString "s" else Str.ofString "." ++ Str.ofString (toString cut) ++ Str.ofString "s"
def cutO (cut : Int) : Option Int := if cut = 6 then none else some cut
theorem digT : ∀ k ∈ List.range 6, (Str.ofString (toString (k : Int))).cps.toList = [48 + k] := by decide +kernel
theorem endT_is {cut : Int} (h0 : 0 ≤ cut) (h1 : cut ≤ 6) : EndIs (endT cut).cps.toList (cutO cut) := by
  by_cases h : cut = 6
  · exact .inl ⟨by rw [endT, if_pos h, l_s], if_pos h⟩
  · refine .inr ⟨cut.toNat, by omega, ?_, by rw [cutO, if_neg h]; congr 1; omega⟩
    have := digT cut.toNat (List.mem_range.mpr (by omega))
    rw [Int.toNat_of_nonneg h0] at this
    rw [endT, if_neg h, app_list, app_list, l_dot, l_s, this]
    rfl
theorem side_list (fl : Str) : FlagList (sideT fl).cps.toList ∧ (sideT fl).length ≤ 1 := by
  unfold sideT
  split
  · exact ⟨⟨[45], [], by decide, .inl rfl, .inl (by rw [l_m]; rfl)⟩, by rw [len_m]; decide⟩
  · exact ⟨⟨[], [], by decide, .inl rfl, .inl (by rw [l_e]; rfl)⟩, by rw [len_e]; decide⟩
theorem side_pad {b fl : Str} {wd : Int} : padF b (sideT fl) wd = padF b fl wd := by
  refine padF_congr ?_
  unfold sideT
  by_cases h : Txt.contains fl (Str.ofString "-") = true
  · rw [if_pos h, h]; decide +kernel
  · have h2 : Txt.contains fl (Str.ofString "-") = false := by simpa using h
    rw [if_neg h, h2]
    decide +kernel
theorem ask_s {cut : Int} (h0 : 0 ≤ wd) (h1 : wd ≤ 12) (hc0 : 0 ≤ cut) (hc1 : cut ≤ 6) (hl5 : l.length ≤ 5) (hva : (va, listOf [.ref v].toArray nn) ∈ news) (V : VecIn w.params news v (Str.ofString "character") [.str l t]) :
    AskH w (Str.ofString "%" ++ sideT fl ++ wdT wd ++ endT cut) va [padF (cutF (cutO cut) l) fl wd] news := by
  have he := endT_is hc0 hc1
  have hx : (Str.ofString "%" ++ sideT fl ++ wdT wd ++ endT cut).cps.toList = [37] ++ ((sideT fl).cps.toList ++ ((wdT wd).cps.toList ++ ((endT cut).cps.toList ++ []))) := by simp only [app_list, l_pct, List.append_assoc, List.cons_append, List.nil_append, List.append_nil]
  have hl : (Str.ofString "%" ++ sideT fl ++ wdT wd ++ endT cut).length ≤ 500 := len_short hx (by have := (side_list fl).2; rw [← len_cps] at this; have := wdT_len h0 h1; rw [← len_cps] at this; have := he.bound.2; simp only [List.length_append, List.length_cons, List.length_nil]; omega)
  have := form_text (t := t) hx he (side_list fl).1 (wdT_mem h0 h1) hl hl5
  rw [str_eta, side_pad] at this
  exact ask_one hva V (.inr rfl) hl this
theorem ask_both {cut : Int} (hf : FlagOrd fl) (h0 : 0 ≤ wd) (h1 : wd ≤ 12) (hc0 : 0 ≤ cut) (hc1 : cut ≤ 6) (hl5 : l.length ≤ 5) (hn : ∀ n, on = some n → -1000000 < n ∧ n < 1000000) (hva : (va, listOf [.ref v, .ref v'].toArray nn) ∈ news) (V : VecIn w.params news v (Str.ofString "integer") [optV on ti]) (V' : VecIn w.params news v' (Str.ofString "character") [.str l t]) :
    AskH w (Str.ofString "a%" ++ fl ++ wdT wd ++ Str.ofString "d%%b%" ++ sideT fl ++ wdT wd ++ endT cut ++ Str.ofString "%%") va [Str.ofString "a" ++ numF on fl wd ++ Str.ofString "%b" ++ padF (cutF (cutO cut) l) fl wd ++ Str.ofString "%"] news := by
  have he := endT_is hc0 hc1
  have hx : (Str.ofString "a%" ++ fl ++ wdT wd ++ Str.ofString "d%%b%" ++ sideT fl ++ wdT wd ++ endT cut ++ Str.ofString "%%").cps.toList = [97, 37] ++ (fl.cps.toList ++ ((wdT wd).cps.toList ++ 100 :: (37 :: 37 :: 98 :: 37 :: ((sideT fl).cps.toList ++ ((wdT wd).cps.toList ++ ((endT cut).cps.toList ++ [37, 37])))))) := by
    simp only [app_list, l_apct, l_dpct, l_pp, List.append_assoc, List.cons_append, List.nil_append, List.append_nil]
  have hl : (Str.ofString "a%" ++ fl ++ wdT wd ++ Str.ofString "d%%b%" ++ sideT fl ++ wdT wd ++ endT cut ++ Str.ofString "%%").length ≤ 500 := len_short hx (by have := fs_len hf (.inl rfl); have := (side_list fl).2; rw [← len_cps] at this; have := wdT_len h0 h1; rw [← len_cps] at this; have := he.bound.2; simp only [List.length_append, List.length_cons, List.length_nil]; omega)
  have := form_both (ti := ti) (t := t) hx he (flagList_of hf) (side_list fl).1 (wdT_mem h0 h1) hl hl5 hn
  rw [str_eta, str_eta, side_pad] at this
  exact ask_two hva V V' (.inr rfl) hl this
theorem ask_t {m : Int} {tm : Tok} (hf : FlagOrd fl) (h0 : 0 ≤ wd) (h1 : wd ≤ 12) (hn : ∀ n, on = some n → -1000000 < n ∧ n < 1000000) (hm : -1000000 < m ∧ m < 1000000) (hva : (va, listOf [.ref v].toArray nn) ∈ news) (V : VecIn w.params news v (Str.ofString "integer") [optV on ti, .int m tm]) :
    AskH w (Str.ofString "%" ++ fl ++ wdT wd ++ Str.ofString "d") va [numF on fl wd, numF (some m) fl wd] news := by
  have hx : (Str.ofString "%" ++ fl ++ wdT wd ++ Str.ofString "d").cps.toList = [37] ++ (fl.cps.toList ++ ((wdT wd).cps.toList ++ 100 :: [])) := by simp only [app_list, l_pct, l_d, List.append_assoc, List.cons_append, List.nil_append]
  have hl : (Str.ofString "%" ++ fl ++ wdT wd ++ Str.ofString "d").length ≤ 500 := len_short hx (by have := fs_len hf (.inl rfl); have := wdT_len h0 h1; rw [← len_cps] at this; simp only [List.length_append, List.length_cons, List.length_nil]; omega)
  have a := form_num (turn := 0) (its := [optV on ti, .int m tm]) hx (by decide) (flagList_of hf) (wdT_mem h0 h1) hl rfl hn
  have b := form_num (turn := 1) (on := some m) (ti := tm) (its := [optV on ti, .int m tm]) hx (by decide) (flagList_of hf) (wdT_mem h0 h1) hl rfl (fun n h => by cases h; exact hm)
  rw [str_eta] at a b
  exact ask_turns hva V hl a b
end
/-- one text, in a new list -/
abbrev RetL1 (news : List (Addr × Obj)) (r : Str) (h₀ : Heap) (L : Addr) (m : Str → Option Value) (s : Shared) (Q : Value → Shared → Prop) : Prop :=
  ∀ (tp : Addr) (n : Nat) (t : Tok) (h' : Heap) (tk' : Nat), Fr h₀ L h' m → News h₀ L h' ((tp, listOf [.str r t].toArray n) :: news) → (∀ p ∈ news, p.1 < tp) → Q (.ref tp) { s with heap := h', toks := tk' }
theorem asked_1 {w : World} {x : Str} {tx : Tok} {va : Addr} {r : Str} {news : List (Addr × Obj)} (H : AskH w x va [r] news) : Ctr w 637 9 [.str x tx, .ref va] news (RetL1 news r) := by
  intro mg mb mean loose dp un gd cn cs a ccd cl outer A₀ base h₀ L m s Q E B F X N T hk hdp hun hret
  refine asked_ok H _ _ _ _ _ _ _ _ _ _ _ _ _ _ _ _ _ _ _ _ _ B F X N T hk hdp hun fun tp n items h' tk' hS F' N' hl => ?_
  obtain ⟨l⟩ := items
  cases hS with
  | cons y t r => cases r; exact hret tp n t h' tk' F' N' hl
abbrev RetL2 (news : List (Addr × Obj)) (r r' : Str) (h₀ : Heap) (L : Addr) (m : Str → Option Value) (s : Shared) (Q : Value → Shared → Prop) : Prop :=
  ∀ (tp : Addr) (n : Nat) (t t' : Tok) (h' : Heap) (tk' : Nat), Fr h₀ L h' m → News h₀ L h' ((tp, listOf [.str r t, .str r' t'].toArray n) :: news) → (∀ p ∈ news, p.1 < tp) → Q (.ref tp) { s with heap := h', toks := tk' }
theorem asked_2 {w : World} {x : Str} {tx : Tok} {va : Addr} {r r' : Str} {news : List (Addr × Obj)} (H : AskH w x va [r, r'] news) : Ctr w 637 9 [.str x tx, .ref va] news (RetL2 news r r') := by
  intro mg mb mean loose dp un gd cn cs a ccd cl outer A₀ base h₀ L m s Q E B F X N T hk hdp hun hret
  refine asked_ok H _ _ _ _ _ _ _ _ _ _ _ _ _ _ _ _ _ _ _ _ _ B F X N T hk hdp hun fun tp n items h' tk' hS F' N' hl => ?_
  obtain ⟨l⟩ := items
  cases hS with
  | cons y t r => cases r with
    | cons y' t' r => cases r; exact hret tp n t t' h' tk' F' N' hl
inductive OnceW : Nat → Prop
  | mk (k : Nat) : OnceW k
theorem bin_size {x y : Str} {a b : Nat} (hx : x.length ≤ a) (hy : y.length ≤ b) (h : a + b ≤ 16777216) : x.length + y.length ≤ sizeLine := by rw [sizeLine_eq]; omega
/-- the ways of a statement meet: what one name holds is forgotten -/
def JoinFg (nm : Str) (h₀ : Heap) (L : Addr) (m : Str → Option Value) (s : Shared) (news : List (Addr × Obj)) (fl : Flow) (s' : Shared) : Prop :=
  fl = .next ∧ ∃ (u : Str → Option Value) (h' : Heap) (tk' : Nat), s' = { s with heap := h', toks := tk' } ∧ Fr h₀ L h' (fun y => if y = nm then u y else m y) ∧ News h₀ L h' news
theorem join_fg {M : Model} {A : Around} {t : Sem Flow} {Q : Flow → Shared → Prop} {E : Value → Shared → Prop} {s : Shared} {h₀ : Heap} {L : Addr} {m : Str → Option Value} {news : List (Addr × Obj)} (nm : Str)
    (F : Fr h₀ L s.heap m) (N : News h₀ L s.heap news) (w : wpAny M A t (JoinFg nm h₀ L m s news) E s)
    (c : ∀ (u : Str → Option Value) (h' : Heap) (tk' : Nat), Fr h₀ L h' (fun y => if y = nm then u y else m y) → News h₀ L h' news → Q .next { s with heap := h', toks := tk' }) : wpAny M A t Q E s :=
  wpAny_mono w (fun fl s' h => by
    obtain ⟨rfl, u, h', tk', rfl, F', N'⟩ := h
    exact c u h' tk' F' N') fun _ _ x => x
theorem joinFg_new {nm : Str} {v : Value} {h₀ : Heap} {L : Addr} {m : Str → Option Value} {s : Shared} {news n' : List (Addr × Obj)} {h' : Heap} {tk' : Nat}
    (F : Fr h₀ L h' (fun k => if k = nm then some v else m k)) (N : News h₀ L h' n') (hs : ∀ p ∈ news, p ∈ n') : JoinFg nm h₀ L m s news .next { s with heap := h', toks := tk' } :=
  ⟨rfl, fun _ => some v, h', tk', rfl, F, mem_sub N hs⟩
theorem joinFg_old {nm : Str} {h₀ : Heap} {L : Addr} {m : Str → Option Value} {s : Shared} {news n' : List (Addr × Obj)} {h' : Heap} {tk' : Nat}
    (F : Fr h₀ L h' m) (N : News h₀ L h' n') (hs : ∀ p ∈ news, p ∈ n') : JoinFg nm h₀ L m s news .next { s with heap := h', toks := tk' } :=
  ⟨rfl, m, h', tk', rfl, by
    have e : (fun y => if y = nm then m y else m y) = m := by funext y; split <;> rfl
    rw [e]; exact F, mem_sub N hs⟩
theorem joinPost_sub {h₀ : Heap} {L : Addr} {m : Str → Option Value} {s : Shared} {news n' : List (Addr × Obj)} {h' : Heap} {tk' : Nat}
    (F : Fr h₀ L h' m) (N : News h₀ L h' n') (hs : ∀ p ∈ news, p ∈ n') : JoinPost h₀ L m s news .next { s with heap := h', toks := tk' } := ⟨rfl, h', tk', rfl, F, mem_sub N hs⟩
theorem rev_is (x : Str) (u : Tok) : (Txt.sliceBy x none none (-1, u)).cps.toList = x.cps.toList.reverse := by
  rw [step_rev_list]
  refine List.ext_getElem (by rw [List.length_map, List.length_range, List.length_reverse, len_cps]) fun i h1 h2 => ?_
  rw [List.length_map, List.length_range] at h1
  rw [List.getElem_map, List.getElem_range, List.getElem_reverse]
  have h3 : x.length - 1 - i < x.cps.toList.length := by rw [len_cps]; omega
  rw [StrLaws.getD_of_getElem? (List.getElem?_eq_getElem h3)]
  congr 1
theorem ask_star0' {w : World} {va v v' : Addr} {nn : Nat} {on : Option Int} {ti t1 : Tok} {fl : Str} {wd : Int} {news : List (Addr × Obj)} (hf : FlagOrd fl) (hva : (va, listOf [.ref v', .ref v].toArray nn) ∈ news) (V' : VecIn w.params news v' (Str.ofString "integer") [.int wd t1]) (V : VecIn w.params news v (Str.ofString "integer") [optV on ti]) (h0 : 0 ≤ wd) (h1 : wd ≤ 12) (hn : ∀ n, on = some n → -1000000 < n ∧ n < 1000000) :
    AskH w (Str.ofString "%" ++ fl ++ Str.ofString "*d") va [numF on fl wd] news := ask_star0 hf h0 h1 hn hva V' V
theorem ask_starN' {w : World} {va v v' : Addr} {nn : Nat} {on : Option Int} {ti t1 : Tok} {fl : Str} {wd : Int} {news : List (Addr × Obj)} (hf : FlagOrd fl) (hva : (va, listOf [.ref v', .ref v].toArray nn) ∈ news) (V' : VecIn w.params news v' (Str.ofString "integer") [.int (0 - wd) t1]) (V : VecIn w.params news v (Str.ofString "integer") [optV on ti]) (h0 : 0 < wd) (h1 : wd ≤ 12) (hn : ∀ n, on = some n → -1000000 < n ∧ n < 1000000) :
    AskH w (Str.ofString "%" ++ fl ++ Str.ofString "*d") va [numF on (fl ++ Str.ofString "-") wd] news := ask_starN hf h0 h1 hn hva V' V
theorem eqAt_self {A : Around} {s : Shared} (r : Str) (t t' : Tok) : SeqAt.EqAt A s (.str r t) (.str r t') true := by
  have h := SeqAt.EqAt.str_str (A := A) (s := s) r t r t'
  rw [beq_self_eq_true] at h
  exact h
theorem ne_texts {prog : Program} {w : World} {A : Around} {E : Value → Shared → Prop} {s : Shared} {Q : Value → Shared → Prop} {h₀ : Heap} {L a b : Addr} {news : List (Addr × Obj)} {r : Str} {t t' : Tok} {n n' : Nat} (N : News h₀ L s.heap news) (ha : (a, listOf [.str r t].toArray n) ∈ news) (hb : (b, listOf [.str r t'].toArray n') ∈ news) (hu : A.units < cLine)
    (h : Q (.bool false) s) : wpAny (model prog w) A (compareOp .NotEq (.ref a) (.ref b)) Q E s := by
  refine SeqAt.RcNeAt.lists (e := fun _ => true) (News.isList N ha) (News.isList N hb) rfl hu ?_ prog w E Q ?_
  · intro j h1 h2
    match j, h1, h2 with
    | 0, _, _ => exact eqAt_self r t t'
  · exact h
theorem eq_texts2 {prog : Program} {w : World} {A : Around} {E : Value → Shared → Prop} {s : Shared} {Q : Value → Shared → Prop} {h₀ : Heap} {L a b : Addr} {news : List (Addr × Obj)} {r q : Str} {t t' u u' : Tok} {n n' : Nat} (N : News h₀ L s.heap news) (ha : (a, listOf [.str r t, .str q u].toArray n) ∈ news) (hb : (b, listOf [.str r t', .str q u'].toArray n') ∈ news) (hu : A.units < cLine)
    (h : Q (.bool true) s) : wpAny (model prog w) A (compareOp .Eq (.ref a) (.ref b)) Q E s := by
  refine SeqAt.RcAt.lists (e := fun _ => true) (News.isList N ha) (News.isList N hb) rfl hu ?_ prog w E Q ?_
  · intro j h1 h2
    match j, h1, h2 with
    | 0, _, _ => exact eqAt_self r t t'
    | 1, _, _ => exact eqAt_self q u u'
  · exact h
theorem ask_s' {w : World} {va v : Addr} {nn : Nat} {t : Tok} {fl l : Str} {wd cut : Int} {news : List (Addr × Obj)} (hva : (va, listOf [.ref v].toArray nn) ∈ news) (V : VecIn w.params news v (Str.ofString "character") [.str l t]) (h0 : 0 ≤ wd) (h1 : wd ≤ 12) (hc0 : 0 ≤ cut) (hc1 : cut ≤ 6) (hl5 : l.length ≤ 5) :
    AskH w (Str.ofString "%" ++ sideT fl ++ wdT wd ++ endT cut) va [padF (cutF (cutO cut) l) fl wd] news := ask_s h0 h1 hc0 hc1 hl5 hva V
theorem ask_both' {w : World} {va v v' : Addr} {nn : Nat} {on : Option Int} {ti t : Tok} {fl l : Str} {wd cut : Int} {news : List (Addr × Obj)} (hva : (va, listOf [.ref v, .ref v'].toArray nn) ∈ news) (V : VecIn w.params news v (Str.ofString "integer") [optV on ti]) (V' : VecIn w.params news v' (Str.ofString "character") [.str l t]) (hf : FlagOrd fl) (h0 : 0 ≤ wd) (h1 : wd ≤ 12) (hc0 : 0 ≤ cut) (hc1 : cut ≤ 6) (hl5 : l.length ≤ 5) (hn : ∀ n, on = some n → -1000000 < n ∧ n < 1000000) :
    AskH w (Str.ofString "a%" ++ fl ++ wdT wd ++ Str.ofString "d%%b%" ++ sideT fl ++ wdT wd ++ endT cut ++ Str.ofString "%%") va [Str.ofString "a" ++ numF on fl wd ++ Str.ofString "%b" ++ padF (cutF (cutO cut) l) fl wd ++ Str.ofString "%"] news := ask_both hf h0 h1 hc0 hc1 hl5 hn hva V V'
theorem ask_t' {w : World} {va v : Addr} {nn : Nat} {on : Option Int} {ti tm : Tok} {fl : Str} {wd m : Int} {news : List (Addr × Obj)} (hva : (va, listOf [.ref v].toArray nn) ∈ news) (V : VecIn w.params news v (Str.ofString "integer") [optV on ti, .int m tm]) (hf : FlagOrd fl) (h0 : 0 ≤ wd) (h1 : wd ≤ 12) (hn : ∀ n, on = some n → -1000000 < n ∧ n < 1000000) (hm : -1000000 < m ∧ m < 1000000) :
    AskH w (Str.ofString "%" ++ fl ++ wdT wd ++ Str.ofString "d") va [numF on fl wd, numF (some m) fl wd] news := ask_t hf h0 h1 hn hm hva V
theorem vecIn_mk {P : Params} {news : List (Addr × Obj)} {v vd ia : Addr} {k0 k1 k2 k3 k4 tk : Tok} {n : Nat} {kind : Str} {its : List Value} (h1 : (v, instObj 293 vd) ∈ news) (h2 : (vd, dictOf (vecD P k0 k1 k2 k3 k4 kind tk ia) 5) ∈ news) (h3 : (ia, listOf its.toArray n) ∈ news) : VecIn P news v kind its :=
  ⟨vd, ia, k0, k1, k2, k3, k4, tk, n, h1, h2, h3⟩
theorem VecIn.up {P : Params} {n : List (Addr × Obj)} {x : Addr × Obj} {v : Addr} {k : Str} {its : List Value} (V : VecIn P n v k its) : VecIn P (x :: n) v k its := by
  obtain ⟨vd, ia, k0, k1, k2, k3, k4, tk, m, h1, h2, h3⟩ := V
  exact ⟨vd, ia, k0, k1, k2, k3, k4, tk, m, .tail _ h1, .tail _ h2, .tail _ h3⟩
theorem cut_news {prog : Program} {w : World} {A : Around} {α : Type} {t : Sem α} {Q : α → Shared → Prop} {E : Value → Shared → Prop} {s : Shared} {h₀ : Heap} {L : Addr} {news : List (Addr × Obj)} {v v' vd vd' ia ia' : Addr} {k0 k1 k2 k3 k4 tk k0' k1' k2' k3' k4' tk' : Tok} {n n' : Nat} {o : Option Int} {ti ti' : Tok} {l : Str}
    (N : News h₀ L s.heap news) (h3 : (ia, listOf [optV o ti].toArray n) ∈ news) (h2 : (vd, dictOf (vecD w.params k0 k1 k2 k3 k4 (Str.ofString "integer") tk ia) 5) ∈ news) (h1 : (v, instObj 293 vd) ∈ news)
    (g3 : (ia', listOf [.str l ti'].toArray n') ∈ news) (g2 : (vd', dictOf (vecD w.params k0' k1' k2' k3' k4' (Str.ofString "character") tk' ia') 5) ∈ news) (g1 : (v', instObj 293 vd') ∈ news)
    (c : ∀ nw : List (Addr × Obj), News h₀ L s.heap nw → VecIn w.params nw v (Str.ofString "integer") [optV o ti] → VecIn w.params nw v' (Str.ofString "character") [.str l ti'] → wpAny (model prog w) A t Q E s) : wpAny (model prog w) A t Q E s :=
  c news N (vecIn_mk h1 h2 h3) (vecIn_mk g1 g2 g3)
structure Lits (fl letters : Str) (o : Option Int) (wd cut : Int) : Prop where
  a : fl.length ≤ 4
  b : (wdT wd).length ≤ 2
  c : (sideT fl).length ≤ 1
  d : (endT cut).length ≤ 3
  e : (numF o fl wd).length ≤ 100
  f : (padF (cutF (cutO cut) letters) fl wd).length ≤ 100
  g : (cutF (cutO cut) letters).length ≤ 5
  h : (Str.ofString (toString cut)).length ≤ 10
theorem lits_of {fl letters : Str} {o : Option Int} {wd cut : Int} (hb : ∀ n, o = some n → -1000000 < n ∧ n < 1000000) (h0 : 0 ≤ wd) (h1 : wd ≤ 12) (hf : FlagOrd fl) (hl : letters.length ≤ 5) (hc0 : 0 ≤ cut) (hc1 : cut ≤ 6) : Lits fl letters o wd cut where
  a := flagOrd_len hf
  b := wdT_len h0 h1
  c := (side_list fl).2
  d := by rw [← len_cps]; exact (endT_is hc0 hc1).bound.2
  e := len_numF h0 h1 hb
  f := by
    have := len_padF (cutF (cutO cut) letters) fl wd
    have := len_cut (o := cutO cut) hl
    omega
  g := len_cut hl
  h := KT.len_num hc0 (by
    have : (10 : Int) ^ 10 = 10000000000 := by decide
    rw [this]
    omega)
section
variable {M : Model} {A : Around} {t : Sem Value} {Q : Value → Shared → Prop} {E : Value → Shared → Prop} {s : Shared} {h₀ : Heap} {L : Addr} {m : Str → Option Value} {news : List (Addr × Obj)} {fl letters : Str} {o : Option Int} {wd cut : Int}
theorem join_wd (X : Lits fl letters o wd cut) (F : Fr h₀ L s.heap m) (N : News h₀ L s.heap news) (w : wpAny M A t (JoinVal (fun u => .str (wdT wd) u) h₀ L m s news) E s)
    (c : ∀ (u : Tok) (h' : Heap) (tk' : Nat), Fr h₀ L h' m → News h₀ L h' news → Q (.str (wdT wd) u) { s with heap := h', toks := tk' }) : wpAny M A t Q E s := join_val _ F N w c
theorem join_sh (X : Lits fl letters o wd cut) (F : Fr h₀ L s.heap m) (N : News h₀ L s.heap news) (w : wpAny M A t (JoinVal (fun u => .str (cutF (cutO cut) letters) u) h₀ L m s news) E s)
    (c : ∀ (u : Tok) (h' : Heap) (tk' : Nat), Fr h₀ L h' m → News h₀ L h' news → Q (.str (cutF (cutO cut) letters) u) { s with heap := h', toks := tk' }) : wpAny M A t Q E s := join_val _ F N w c
theorem join_en (X : Lits fl letters o wd cut) (F : Fr h₀ L s.heap m) (N : News h₀ L s.heap news) (w : wpAny M A t (JoinVal (fun u => .str (endT cut) u) h₀ L m s news) E s)
    (c : ∀ (u : Tok) (h' : Heap) (tk' : Nat), Fr h₀ L h' m → News h₀ L h' news → Q (.str (endT cut) u) { s with heap := h', toks := tk' }) : wpAny M A t Q E s := join_val _ F N w c
theorem join_sd (X : Lits fl letters o wd cut) (F : Fr h₀ L s.heap m) (N : News h₀ L s.heap news) (w : wpAny M A t (JoinVal (fun u => .str (sideT fl) u) h₀ L m s news) E s)
    (c : ∀ (u : Tok) (h' : Heap) (tk' : Nat), Fr h₀ L h' m → News h₀ L h' news → Q (.str (sideT fl) u) { s with heap := h', toks := tk' }) : wpAny M A t Q E s := join_val _ F N w c
theorem joinV {x y : Str} {t : Tok} {n' : List (Addr × Obj)} {h' : Heap} {tk' : Nat} (hy : y = x) (F : Fr h₀ L h' m) (N : News h₀ L h' n') (hs : ∀ p ∈ news, p ∈ n') : JoinVal (fun u => .str y u) h₀ L m s news (.str x t) { s with heap := h', toks := tk' } := by
  subst hy
  exact ⟨t, h', tk', rfl, rfl, F, mem_sub N hs⟩
theorem wd_yes (h : 0 < wd) : wdT wd = Str.ofString (toString wd) := if_pos h
theorem wd_no (h : ¬ 0 < wd) : wdT wd = Str.ofString "" := if_neg h
theorem sh_yes (h : cut = 6) : cutF (cutO cut) letters = letters := by rw [cutO, if_pos h]; rfl
theorem sh_no (h : ¬ cut = 6) : cutF (cutO cut) letters = Txt.slice letters none (some cut) := by rw [cutO, if_neg h]; rfl
theorem en_yes (h : cut = 6) : endT cut = Str.ofString "s" := if_pos h
theorem en_no (h : ¬ cut = 6) : endT cut = Str.ofString "." ++ Str.ofString (toString cut) ++ Str.ofString "s" := if_neg h
theorem sd_yes (h : (Builtin.Str.occurrences fl (Str.ofString "-") 0 fl.length 1).isEmpty = false) : sideT fl = Str.ofString "-" := if_pos (has_of h)
theorem sd_no (h : (Builtin.Str.occurrences fl (Str.ofString "-") 0 fl.length 1).isEmpty = true) : sideT fl = Str.ofString "" := if_neg (by rw [hasnt_of h]; exact Bool.false_ne_true)
end
theorem words_len : (Str.ofString "%").length = 1 ∧ (Str.ofString "d").length = 1 ∧ (Str.ofString "i").length = 1 ∧ (Str.ofString "*d").length = 2 ∧ (Str.ofString "a%").length = 2 ∧ (Str.ofString "d%%b%").length = 5 ∧ (Str.ofString "%%").length = 2 ∧ (Str.ofString "a").length = 1 ∧ (Str.ofString "%b").length = 2 ∧ (Str.ofString "-").length = 1 ∧ (Str.ofString ".").length = 1 ∧ (Str.ofString "s").length = 1 := by decide +kernel
section
local macro_rules | `(tactic| walk_at "one more") => `(tactic| fail)
local macro_rules | `(tactic| k_qdec) => `(tactic| decide +kernel)
local macro_rules | `(tactic| walk_at "call ref") => `(tactic| (k_here; (with_reducible show wpAny _ _ (call (Value.ref 609) [Value.ref _]) _ _ _); k_dflt (refine' CtrP.use ?B ?F ?X ?N ?T ?k (drawn_ok ?c1 ?c4) ?P ?dp ?un ?_; (case B => k_asm); (case F => k_asm); (case X => k_asm); (case N => k_asm); (case T => k_asm); (case k => rfl); (case P => assumption); (case c1 => assumption); (case c4 => omega); (case dp => decide); (case un => decide); intro o9 wd9 cut9 fl9 let9 tp9 t0 t1 t2 t3 t4 h9 tk9 hb9 hw0 hw1 hf9 hl9 hc0 hc1 F9 N9 l9; (have x0 := lits_of hb9 hw0 hw1 hf9 hl9 hc0 hc1); (obtain ⟨x1, x2, x3, x4, x5, x6, x7, x9⟩ := id x0); (have x8 := words_len); (try k_lt l9); (try dsimp only); (try k_fold))))
set_option maxHeartbeats 0 in
theorem law_walk : PySem.Challenge.rw_ov0084_01.Holds := hd (by
  k_with_none
  k_with "eval Call" => ((k_here; k_dflt (refine Call_ ?_)))
  k_with "call ref" => ((k_here; (with_reducible show wpAny _ _ (call (Value.ref 630) [optV _ _, Value.int _ _, Value.str _ _]) _ _ _); k_dflt (refine' Ctr.use (by k_asm) (by k_asm) (by k_asm) (by k_asm) (by k_asm) (by rfl) (shown_ok (by assumption) (by assumption) (by assumption)) (by decide) (by decide) ?_; intro t9 h9 tk9 F9 N9; (try dsimp only); (try k_fold))))
  k_with "call ref" => ((k_here; (with_reducible show wpAny _ _ (call (Value.ref 630) [Value.int _ _, Value.int _ _, Value.str _ _]) _ _ _); k_dflt (refine' Ctr.use (by k_asm) (by k_asm) (by k_asm) (by k_asm) (by k_asm) (by rfl) (shown_int_ok (by assumption) (by assumption) (by decide) (by decide)) (by decide) (by decide) ?_; intro t9 h9 tk9 F9 N9; (try dsimp only); (try k_fold))))
  k_with "call ref" => ((k_here; (with_reducible show wpAny _ _ (call (Value.ref 623) [Value.str _ _, Value.int _ _, Value.str _ _]) _ _ _); k_dflt (refine' Ctr.use (by k_asm) (by k_asm) (by k_asm) (by k_asm) (by k_asm) (by rfl) (wide_ok (by assumption) (by assumption) (by omega)) (by decide) (by decide) ?_; intro t9 h9 tk9 F9 N9; (try dsimp only); (try k_fold))))
  k_with "call ref" => ((k_here; (with_reducible show wpAny _ _ (call (Value.ref 637) [Value.str _ _, Value.ref _]) _ _ _); k_dflt (refine' Ctr.use (by k_asm) (by k_asm) (by k_asm) (by k_asm) (by k_asm) (by rfl) (asked_1 (by with_reducible first | ((show AskH _ (_ ++ wdT _ ++ Str.ofString "d") _ _ _); exact ask_d (by assumption) (by assumption) (by assumption) (by assumption) (by k_dflt k_mem) (by first | ((repeat (first | assumption | (refine VecIn.up ?_))); done) | exact vecIn_mk (by k_dflt k_mem) (by k_dflt k_mem) (by k_dflt k_mem))) | ((show AskH _ (_ ++ wdT _ ++ Str.ofString "i") _ _ _); exact ask_i (rev_is _ _) (by assumption) (by assumption) (by assumption) (by assumption) (by k_dflt k_mem) (by first | ((repeat (first | assumption | (refine VecIn.up ?_))); done) | exact vecIn_mk (by k_dflt k_mem) (by k_dflt k_mem) (by k_dflt k_mem))) | ((show AskH _ (_ ++ Str.ofString "*d") _ [numF _ (_ ++ _) _] _); exact ask_starN' (by assumption) (by k_dflt k_mem) (by first | ((repeat (first | assumption | (refine VecIn.up ?_))); done) | exact vecIn_mk (by k_dflt k_mem) (by k_dflt k_mem) (by k_dflt k_mem)) (by first | ((repeat (first | assumption | (refine VecIn.up ?_))); done) | exact vecIn_mk (by k_dflt k_mem) (by k_dflt k_mem) (by k_dflt k_mem)) (by assumption) (by assumption) (by assumption)) | ((show AskH _ (_ ++ Str.ofString "*d") _ _ _); exact ask_star0' (by assumption) (by k_dflt k_mem) (by first | ((repeat (first | assumption | (refine VecIn.up ?_))); done) | exact vecIn_mk (by k_dflt k_mem) (by k_dflt k_mem) (by k_dflt k_mem)) (by first | ((repeat (first | assumption | (refine VecIn.up ?_))); done) | exact vecIn_mk (by k_dflt k_mem) (by k_dflt k_mem) (by k_dflt k_mem)) (by assumption) (by assumption) (by assumption)) | ((show AskH _ (_ ++ endT _) _ _ _); exact ask_s' (by k_dflt k_mem) (by first | ((repeat (first | assumption | (refine VecIn.up ?_))); done) | exact vecIn_mk (by k_dflt k_mem) (by k_dflt k_mem) (by k_dflt k_mem)) (by assumption) (by assumption) (by assumption) (by assumption) (by assumption)) | ((show AskH _ (_ ++ Str.ofString "%%") _ _ _); exact ask_both' (by k_dflt k_mem) (by first | ((repeat (first | assumption | (refine VecIn.up ?_))); done) | exact vecIn_mk (by k_dflt k_mem) (by k_dflt k_mem) (by k_dflt k_mem)) (by first | ((repeat (first | assumption | (refine VecIn.up ?_))); done) | exact vecIn_mk (by k_dflt k_mem) (by k_dflt k_mem) (by k_dflt k_mem)) (by assumption) (by assumption) (by assumption) (by assumption) (by assumption) (by assumption) (by assumption)))) (by decide) (by decide) ?_; intro tp9 n9 t9 h9 tk9 F9 N9 l9; (try k_lt l9); (try dsimp only); (try k_fold))))
  k_with "call ref" => ((k_here; (with_reducible show wpAny _ _ (call (Value.ref 637) [Value.str _ _, Value.ref _]) _ _ _); k_dflt (refine' Ctr.use (by k_asm) (by k_asm) (by k_asm) (by k_asm) (by k_asm) (by rfl) (asked_2 (by with_reducible exact ask_t' (by k_dflt k_mem) (by first | ((repeat (first | assumption | (refine VecIn.up ?_))); done) | exact vecIn_mk (by k_dflt k_mem) (by k_dflt k_mem) (by k_dflt k_mem)) (by assumption) (by assumption) (by assumption) (by assumption) (by decide))) (by decide) (by decide) ?_; intro tp9 n9 t9 t8 h9 tk9 F9 N9 l9; (try k_lt l9); (try dsimp only); (try k_fold))))
  k_with "binaryOp Add str str" => ((k_here; (with_reducible show wpAny _ _ (binaryOp Operator.Add (Value.str _ _) (Value.str _ _)) _ _ _); (refine SBL.add (hsz := (by (simp only [len_app, step_rev_len, sizeLine_eq]; omega))) ?_); intro _ _ _))
  k_with "compareOp NotEq ref ref" => ((k_here; (with_reducible show wpAny _ _ (compareOp CmpOp.NotEq (Value.ref _) (Value.ref _)) _ _ _); k_dflt (refine' ne_texts (by k_asm) (by k_mem) (by k_mem) (by exact Nat.lt_of_le_of_lt (Nat.le_add_right _ 64) (by ke_room)) ?_)))
  k_with "compareOp Eq ref ref" => ((k_here; (with_reducible show wpAny _ _ (compareOp CmpOp.Eq (Value.ref _) (Value.ref _)) _ _ _); k_dflt (refine' eq_texts2 (by k_asm) (by k_mem) (by k_mem) (by exact Nat.lt_of_le_of_lt (Nat.le_add_right _ 64) (by ke_room)) ?_)))
  k_with "JoinVal" => (first | ((show JoinVal (fun u9 => Value.str (wdT _) u9) _ _ _ _ _ _ _); exact joinV (wd_yes (by assumption)) (by assumption) (by assumption) (fun p9 hp9 => by repeat (first | exact hp9 | (refine List.Mem.tail _ ?_)))) | ((show JoinVal (fun u9 => Value.str (wdT _) u9) _ _ _ _ _ _ _); exact joinV (wd_no (by assumption)) (by assumption) (by assumption) (fun p9 hp9 => by repeat (first | exact hp9 | (refine List.Mem.tail _ ?_)))) | ((show JoinVal (fun u9 => Value.str (cutF _ _) u9) _ _ _ _ _ _ _); exact joinV (sh_yes (by assumption)) (by assumption) (by assumption) (fun p9 hp9 => by repeat (first | exact hp9 | (refine List.Mem.tail _ ?_)))) | ((show JoinVal (fun u9 => Value.str (cutF _ _) u9) _ _ _ _ _ _ _); exact joinV (sh_no (by assumption)) (by assumption) (by assumption) (fun p9 hp9 => by repeat (first | exact hp9 | (refine List.Mem.tail _ ?_)))) | ((show JoinVal (fun u9 => Value.str (endT _) u9) _ _ _ _ _ _ _); exact joinV (en_yes (by assumption)) (by assumption) (by assumption) (fun p9 hp9 => by repeat (first | exact hp9 | (refine List.Mem.tail _ ?_)))) | ((show JoinVal (fun u9 => Value.str (endT _) u9) _ _ _ _ _ _ _); exact joinV (en_no (by assumption)) (by assumption) (by assumption) (fun p9 hp9 => by repeat (first | exact hp9 | (refine List.Mem.tail _ ?_)))) | ((show JoinVal (fun u9 => Value.str (sideT _) u9) _ _ _ _ _ _ _); exact joinV (sd_yes (by assumption)) (by assumption) (by assumption) (fun p9 hp9 => by repeat (first | exact hp9 | (refine List.Mem.tail _ ?_)))) | ((show JoinVal (fun u9 => Value.str (sideT _) u9) _ _ _ _ _ _ _); exact joinV (sd_no (by assumption)) (by assumption) (by assumption) (fun p9 hp9 => by repeat (first | exact hp9 | (refine List.Mem.tail _ ?_)))))
  k_with "JoinPost" => (exact joinPost_sub (by assumption) (by assumption) (fun p9 hp9 => by repeat (first | exact hp9 | (refine List.Mem.tail _ ?_))))
  k_with "JoinFg" => (first | exact joinFg_new (by assumption) (by assumption) (fun p9 hp9 => by repeat (first | exact hp9 | (refine List.Mem.tail _ ?_))) | exact joinFg_old (by assumption) (by assumption) (fun p9 hp9 => by repeat (first | exact hp9 | (refine List.Mem.tail _ ?_))))
  k_go0
  all_goals try k_fold
  k_with "exec If Compare cons" => (fail_if_success (with_reducible show wpAny _ _ _ (JoinPost _ _ _ _ _) _ _)); (fail_if_success (with_reducible show wpAny _ _ _ (JoinFg _ _ _ _ _ _) _ _)); first | ((fail_if_success (have : OnceW 7 := by assumption)); (rename News _ _ _ _ => nE9); refine cut_news nE9 (by k_dflt k_mem) (by k_dflt k_mem) (by k_dflt k_mem) (by k_dflt k_mem) (by k_dflt k_mem) (by k_dflt k_mem) ?_; clear nE9; intro nw9 N9 V8 V9; have mk9 : OnceW 7 := .mk _) | ((with_reducible show wpAny _ _ (exec (Stmt.If (Expr.Compare (Expr.Name _ _) _ _ _) _ _ _) _) _ _ _); refine join_fg (Str.ofString "turned_due") (by assumption) (by assumption) ?_ ?_; rotate_left; intro u9 h9 tk9 F9 N9; rotate_left) | (refine join_stmt (by assumption) (by assumption) ?_ ?_; rotate_left; intro h9 tk9 F9 N9; rotate_left)
  k_with "eval IfExp" => (fail_if_success (with_reducible show wpAny _ _ _ (JoinVal _ _ _ _ _ _) _ _)); first | ((fail_if_success (have : OnceW 0 := by assumption)); refine join_wd (by assumption) (by assumption) (by assumption) ?_ ?_; rotate_left; intro u9 h9 tk9 F9 N9; have mk9 : OnceW 0 := .mk _; rotate_left) | ((fail_if_success (have : OnceW 1 := by assumption)); refine join_sh (by assumption) (by assumption) (by assumption) ?_ ?_; rotate_left; intro u9 h9 tk9 F9 N9; have mk9 : OnceW 1 := .mk _; rotate_left) | ((fail_if_success (have : OnceW 2 := by assumption)); refine join_en (by assumption) (by assumption) (by assumption) ?_ ?_; rotate_left; intro u9 h9 tk9 F9 N9; have mk9 : OnceW 2 := .mk _; rotate_left) | (refine join_sd (by assumption) (by assumption) (by assumption) ?_ ?_; rotate_left; intro u9 h9 tk9 F9 N9; rotate_left)
  k_steps)
end
end Mine

theorem PySem.Challenge.cw_ov0084_01_holds : PySem.Challenge.rw_ov0084_01.Holds :=
  Mine.law_walk
