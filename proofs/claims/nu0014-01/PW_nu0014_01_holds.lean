import PyProof.Rows.All
import Wide.All
import OpenK.AllK
import Wide.FinOn
import Lean
import PySem.Challenge.RW_nu0014_01
open PySem PySem.W PyProof.Rows PySem.Calls
set_option Elab.async false
set_option maxRecDepth 100000
set_option linter.unusedVariables false
set_option linter.unnecessarySimpa false
set_option compiler.extract_closed false
namespace Mine
local macro_rules | `(tactic| walk_at $s:str) => `(tactic| k_extra $s)
theorem okLaw : PySem.Challenge.rw_nu0014_01.wellSaid = true := by
  unfold OpenLaw.wellSaid
  repeat' with_reducible refine look_both ?_ ?_
  all_goals try (unfold OpenRow.wellSaid OpenRow.partSaid looksOpen; repeat' with_reducible refine look_both ?_ ?_)
  all_goals decide +kernel
theorem three {A B C X : Prop} (_ : A) (_ : B) (_ : C) (x : X) : X := x
set_option maxHeartbeats 0 in
/-- says nothing (from False): it is here for the two texts that k_head lays on its way, hd.heap_1 (what stands behind the top, written out) and hd.view_1 -/
theorem hd (f : False) : PySem.Challenge.rw_nu0014_01.row.Holds := by
  have hs := row_said okLaw
  refine' three ?hl ?hw ?hc ?main
  case main =>
    (w_on; k_head)
  all_goals exact f.elim
theorem adrs_eq : ∀ P, [2, 3, 15, 22, 24, 25, 27, 28, 29, 30, 31, 32, 35, 42, 43, 44, 47, 49, 50, 52, 53, 54, 56, 57, 59, 60, 61, 63, 64, 66, 67, 68, 70, 71, 73, 74, 75, 77, 78, 80, 81, 82, 84, 
  85, 87, 88, 89, 91, 92, 94, 95, 96, 98, 99, 101, 102, 103, 106, 107, 115, 117, 118, 120, 121, 122, 124, 125, 127, 128, 129, 131, 132, 134, 135, 136, 138, 139, 141, 142, 
  143, 144, 145, 146, 147, 157, 159, 160, 162, 163, 164, 165, 166, 167, 168, 171, 173, 174, 176, 177, 178, 180, 181, 183, 184, 185, 187, 188, 190, 191, 192, 194, 195, 197, 
  198, 199, 201, 202, 204, 205, 206, 208, 209, 211, 212, 213, 215, 216, 218, 219, 220, 222, 223, 225, 226, 227, 229, 230, 232, 233, 234, 236, 237, 239, 240, 241, 243, 244, 
  246, 247, 248, 250, 251, 253, 254, 255, 257, 258, 260, 261, 262, 265, 266, 267, 269, 270, 272, 273, 274, 276, 277, 279, 280, 281, 284, 285, 286, 289, 290] = (hd.heap_1 P).map (·.1) := fun _ => by kernel_rfl
noncomputable abbrev HK : Hook := kHook hd.heap_1 _ adrs_eq
noncomputable abbrev lv : List (Str × WData) := [(Str.ofString "WORD", WData.int 4294967296)]
noncomputable abbrev rW := PySem.Challenge.rw_nu0014_01.row

noncomputable def en (P : Params) (k : Str) (n : Nat) (v : Value) : DictEntry := ⟨PyData.keyHash P k, .str k n, v⟩
noncomputable def fo (P : Params) (i : Nat) : Obj := ((hd.heap_1 P).getD i default).2
noncomputable def rc (P : Params) (i : Nat) : Obj := match (fo P i).data with
  | .func f => ⟨.none, none, .func ⟨f.name, f.qualname, f.params, f.body, f.scope, 0, [], .none, .none, .none, .none, none, .none, .none, 0⟩, #[]⟩
  | _ => default
noncomputable def d3 (P : Params) (nm : Value) (k : Nat) : Obj := match (fo P 1).data with
  | .dict es _ => ⟨.type "dict", none, .dict ⟨en P (Str.ofString "__name__") 165 nm :: (es.toList.take k).drop 1⟩ k, #[]⟩
  | _ => default
noncomputable def f12 : List Value := [(.int 2 0), (.int 0 0), (.ref 20), (.int 6 0), (.int 0 0), (.ref 40), (.int 15 0), (.int 0 0), (.ref 52), (.int 19 0), (.int 0 0), (.ref 59), (.int 21 0), (.int 0 0), (.ref 66), (.int 23 0), (.int 0 0), (.ref 73), (.int 25 0), (.int 0 0), (.ref 80), (.int 29 0), (.int 0 0), (.ref 87), (.int 31 0), (.int 0 0), (.ref 94), (.int 37 0), (.int 0 0), (.ref 101), (.int 44 0), (.int 0 0), (.ref 106), (.int 48 0), (.int 0 0), (.ref 113), (.int 63 0), (.int 0 0), (.ref 155), (.int 70 0), (.int 0 0), (.ref 176), (.int 81 0), (.int 0 0), (.ref 183), (.int 88 0), (.int 0 0), (.ref 190), (.int 90 0), (.int 0 0), (.ref 197), (.int 92 0), (.int 0 0), (.ref 204), (.int 99 0), (.int 0 0), (.ref 211), (.int 107 0), (.int 0 0), (.ref 218), (.int 122 0), (.int 0 0), (.ref 225), (.int 134 0), (.int 0 0), (.ref 232), (.int 138 0), (.int 0 0), (.ref 239), (.int 145 0), (.int 0 0), (.ref 246), (.int 147 0), (.int 0 0), (.ref 253), (.int 149 0), (.int 0 0), (.ref 260), (.int 154 0), (.int 0 0), (.ref 265), (.int 162 0), (.int 0 0), (.ref 272), (.int 168 0), (.int 0 0), (.ref 279), (.int 170 0), (.int 0 0), (.ref 284), (.int 193 0), (.int 0 0), (.ref 289)]
noncomputable def tl (P : Params) : List Obj := [
  ⟨(.type "code"), none, .fields #[(.str (Str.ofString "<module>") 182), (.str (Str.ofString "<module>") 183), (.str (Str.ofString "/claim/cut.py") 184), (.int 1 0), (.int 0 0), (.int 0 0), (.int 0 0), (.int 0 0), (.ref 11), (.bool false), (.int 181 0), (.ref 12), .none, .none, .none, .none, (.int 185 0), (.int 1 0), (.str (Str.ofString "/claim/cut.py") 186)], #[]⟩,
  ⟨(.type "frame"), none, .plain, #[some (.ref 13), some (.ref 3), some (.ref 3), none, some (.str (Str.ofString "__main__") 164), none, some (.ref 0)]⟩,
  fo P 2,
  ⟨(.type "builtin_function_or_method"), none, .fields #[(.builtin "type.__prepare__"), (.type "type")], #[]⟩,
  ⟨(.type "dict"), none, .dict #[en P (Str.ofString "__module__") 196 (.str (Str.ofString "outlinemill.errors") 187), en P (Str.ofString "__qualname__") 198 (.str (Str.ofString "MillError") 197), en P (Str.ofString "__firstlineno__") 200 (.int 2 199), en P (Str.ofString "__init__") 208 (.ref 28), en P (Str.ofString "__static_attributes__") 210 (.ref 29)] 5, #[]⟩,
  ⟨(.type "tuple"), none, .seq #[] 0, #[]⟩,
  ⟨.none, none, .fields #[(.int 4 0), (.int 4 0), (.ref 27)], #[]⟩,
  ⟨(.type "code"), none, .fields #[(.str (Str.ofString "MillError") 191), (.str (Str.ofString "MillError") 192), (.str (Str.ofString "/claim/cut.py") 193), (.int 2 0), (.int 0 0), (.int 0 0), (.int 0 0), (.int 0 0), (.ref 18), (.bool false), (.int 181 0), (.ref 19), .none, .none, .none, .none, (.int 194 0), (.int 2 0), (.str (Str.ofString "/claim/cut.py") 195)], #[]⟩,
  ⟨(.type "frame"), none, .plain, #[some (.ref 20), some (.ref 3), some (.ref 17), none, some (.str (Str.ofString "outlinemill.errors") 187), none, some (.ref 0)]⟩,
  fo P 3,
  ⟨.none, none, .fields #[], #[]⟩,
  fo P 4,
  fo P 5,
  rc P 7,
  fo P 6,
  fo P 7,
  fo P 8,
  fo P 9,
  fo P 10,
  fo P 11,
  ⟨(.type "super"), none, .fields #[(.ref 31), (.ref 31), (.ref 31)], #[]⟩,
  ⟨(.type "builtin_function_or_method"), none, .fields #[(.builtin "object.__init_subclass__"), (.ref 31)], #[]⟩,
  fo P 12,
  ⟨(.type "builtin_function_or_method"), none, .fields #[(.builtin "type.__prepare__"), (.type "type")], #[]⟩,
  ⟨(.type "dict"), none, .dict #[en P (Str.ofString "__module__") 225 (.str (Str.ofString "outlinemill.errors") 187), en P (Str.ofString "__qualname__") 227 (.str (Str.ofString "FontFault") 226), en P (Str.ofString "__firstlineno__") 229 (.int 6 228), en P (Str.ofString "__static_attributes__") 230 (.ref 42)] 4, #[]⟩,
  ⟨(.type "tuple"), none, .seq #[] 0, #[]⟩,
  ⟨.none, none, .fields #[], #[]⟩,
  ⟨(.type "code"), none, .fields #[(.str (Str.ofString "FontFault") 220), (.str (Str.ofString "FontFault") 221), (.str (Str.ofString "/claim/cut.py") 222), (.int 6 0), (.int 0 0), (.int 0 0), (.int 0 0), (.int 0 0), (.ref 38), (.bool false), (.int 181 0), (.ref 39), .none, .none, .none, .none, (.int 223 0), (.int 6 0), (.str (Str.ofString "/claim/cut.py") 224)], #[]⟩,
  ⟨(.type "frame"), none, .plain, #[some (.ref 40), some (.ref 3), some (.ref 37), none, some (.str (Str.ofString "outlinemill.errors") 187), none, some (.ref 0)]⟩,
  fo P 13,
  fo P 14,
  fo P 15,
  ⟨(.type "super"), none, .fields #[(.ref 44), (.ref 44), (.ref 44)], #[]⟩,
  ⟨(.type "builtin_function_or_method"), none, .fields #[(.builtin "object.__init_subclass__"), (.ref 44)], #[]⟩,
  fo P 16,
  ⟨.none, none, .fields #[], #[]⟩,
  fo P 17,
  fo P 18,
  rc P 20,
  fo P 19,
  fo P 20,
  fo P 21,
  ⟨.none, none, .fields #[], #[]⟩,
  fo P 22,
  fo P 23,
  rc P 25,
  fo P 24,
  fo P 25,
  fo P 26,
  ⟨.none, none, .fields #[], #[]⟩,
  fo P 27,
  fo P 28,
  rc P 30,
  fo P 29,
  fo P 30,
  fo P 31,
  ⟨.none, none, .fields #[], #[]⟩,
  fo P 32,
  fo P 33,
  rc P 35,
  fo P 34,
  fo P 35,
  fo P 36,
  ⟨.none, none, .fields #[], #[]⟩,
  fo P 37,
  fo P 38,
  rc P 40,
  fo P 39,
  fo P 40,
  fo P 41,
  ⟨.none, none, .fields #[], #[]⟩,
  fo P 42,
  fo P 43,
  rc P 45,
  fo P 44,
  fo P 45,
  fo P 46,
  ⟨.none, none, .fields #[], #[]⟩,
  fo P 47,
  fo P 48,
  rc P 50,
  fo P 49,
  fo P 50,
  fo P 51,
  ⟨.none, none, .fields #[], #[]⟩,
  fo P 52,
  fo P 53,
  rc P 55,
  fo P 54,
  fo P 55,
  fo P 56,
  ⟨.none, none, .fields #[], #[]⟩,
  rc P 58,
  fo P 57,
  fo P 58,
  ⟨(.type "tuple"), none, .seq #[] 0, #[]⟩,
  ⟨(.type "builtin_function_or_method"), none, .fields #[(.builtin "type.__prepare__"), (.type "type")], #[]⟩,
  ⟨(.type "dict"), none, .dict #[en P (Str.ofString "__module__") 329 (.str (Str.ofString "outlinemill.sfnt") 234), en P (Str.ofString "__qualname__") 331 (.str (Str.ofString "Tables") 330), en P (Str.ofString "__firstlineno__") 333 (.int 48 332), en P (Str.ofString "__init__") 341 (.ref 121), en P (Str.ofString "tags") 348 (.ref 128), en P (Str.ofString "has") 356 (.ref 135), en P (Str.ofString "table") 364 (.ref 142), en P (Str.ofString "__static_attributes__") 366 (.ref 143)] 8, #[]⟩,
  ⟨(.type "tuple"), none, .seq #[] 0, #[]⟩,
  ⟨.none, none, .fields #[(.int 50 0), (.int 4 0), (.ref 120), (.int 53 0), (.int 4 0), (.ref 127), (.int 56 0), (.int 4 0), (.ref 134), (.int 59 0), (.int 4 0), (.ref 141)], #[]⟩,
  ⟨(.type "code"), none, .fields #[(.str (Str.ofString "Tables") 324), (.str (Str.ofString "Tables") 325), (.str (Str.ofString "/claim/cut.py") 326), (.int 48 0), (.int 0 0), (.int 0 0), (.int 0 0), (.int 0 0), (.ref 111), (.bool false), (.int 181 0), (.ref 112), .none, .none, .none, .none, (.int 327 0), (.int 48 0), (.str (Str.ofString "/claim/cut.py") 328)], #[]⟩,
  ⟨(.type "frame"), none, .plain, #[some (.ref 113), some (.ref 3), some (.ref 110), none, some (.str (Str.ofString "outlinemill.sfnt") 234), none, some (.ref 0)]⟩,
  fo P 59,
  ⟨.none, none, .fields #[], #[]⟩,
  fo P 60,
  fo P 61,
  rc P 63,
  fo P 62,
  fo P 63,
  fo P 64,
  ⟨.none, none, .fields #[], #[]⟩,
  fo P 65,
  fo P 66,
  rc P 68,
  fo P 67,
  fo P 68,
  fo P 69,
  ⟨.none, none, .fields #[], #[]⟩,
  fo P 70,
  fo P 71,
  rc P 73,
  fo P 72,
  fo P 73,
  fo P 74,
  ⟨.none, none, .fields #[], #[]⟩,
  fo P 75,
  fo P 76,
  rc P 78,
  fo P 77,
  fo P 78,
  fo P 79,
  fo P 80,
  fo P 81,
  fo P 82,
  fo P 83,
  ⟨(.type "super"), none, .fields #[(.ref 145), (.ref 145), (.ref 145)], #[]⟩,
  ⟨(.type "builtin_function_or_method"), none, .fields #[(.builtin "object.__init_subclass__"), (.ref 145)], #[]⟩,
  ⟨(.type "tuple"), none, .seq #[] 0, #[]⟩,
  ⟨(.type "builtin_function_or_method"), none, .fields #[(.builtin "type.__prepare__"), (.type "type")], #[]⟩,
  ⟨(.type "dict"), none, .dict #[en P (Str.ofString "__module__") 381 (.str (Str.ofString "outlinemill.sfnt") 234), en P (Str.ofString "__qualname__") 383 (.str (Str.ofString "DirectoryRow") 382), en P (Str.ofString "__firstlineno__") 385 (.int 63 384), en P (Str.ofString "__init__") 396 (.ref 163), en P (Str.ofString "__static_attributes__") 401 (.ref 164)] 5, #[]⟩,
  ⟨(.type "tuple"), none, .seq #[] 0, #[]⟩,
  ⟨.none, none, .fields #[(.int 65 0), (.int 4 0), (.ref 162)], #[]⟩,
  ⟨(.type "code"), none, .fields #[(.str (Str.ofString "DirectoryRow") 376), (.str (Str.ofString "DirectoryRow") 377), (.str (Str.ofString "/claim/cut.py") 378), (.int 63 0), (.int 0 0), (.int 0 0), (.int 0 0), (.int 0 0), (.ref 153), (.bool false), (.int 181 0), (.ref 154), .none, .none, .none, .none, (.int 379 0), (.int 63 0), (.str (Str.ofString "/claim/cut.py") 380)], #[]⟩,
  ⟨(.type "frame"), none, .plain, #[some (.ref 155), some (.ref 3), some (.ref 152), none, some (.str (Str.ofString "outlinemill.sfnt") 234), none, some (.ref 0)]⟩,
  fo P 84,
  ⟨.none, none, .fields #[], #[]⟩,
  fo P 85,
  fo P 86,
  rc P 88,
  fo P 87,
  fo P 88,
  fo P 89,
  fo P 90,
  fo P 91,
  fo P 92,
  fo P 93,
  ⟨(.type "super"), none, .fields #[(.ref 166), (.ref 166), (.ref 166)], #[]⟩,
  ⟨(.type "builtin_function_or_method"), none, .fields #[(.builtin "object.__init_subclass__"), (.ref 166)], #[]⟩,
  fo P 94,
  ⟨.none, none, .fields #[], #[]⟩,
  fo P 95,
  fo P 96,
  rc P 98,
  fo P 97,
  fo P 98,
  fo P 99,
  ⟨.none, none, .fields #[], #[]⟩,
  fo P 100,
  fo P 101,
  rc P 103,
  fo P 102,
  fo P 103,
  fo P 104,
  ⟨.none, none, .fields #[], #[]⟩,
  fo P 105,
  fo P 106,
  rc P 108,
  fo P 107,
  fo P 108,
  fo P 109,
  ⟨.none, none, .fields #[], #[]⟩,
  fo P 110,
  fo P 111,
  rc P 113,
  fo P 112,
  fo P 113,
  fo P 114,
  ⟨.none, none, .fields #[], #[]⟩,
  fo P 115,
  fo P 116,
  rc P 118,
  fo P 117,
  fo P 118,
  fo P 119,
  ⟨.none, none, .fields #[], #[]⟩,
  fo P 120,
  fo P 121,
  rc P 123,
  fo P 122,
  fo P 123,
  fo P 124,
  ⟨.none, none, .fields #[], #[]⟩,
  fo P 125,
  fo P 126,
  rc P 128,
  fo P 127,
  fo P 128,
  fo P 129,
  ⟨.none, none, .fields #[], #[]⟩,
  fo P 130,
  fo P 131,
  rc P 133,
  fo P 132,
  fo P 133,
  fo P 134,
  ⟨.none, none, .fields #[], #[]⟩,
  fo P 135,
  fo P 136,
  rc P 138,
  fo P 137,
  fo P 138,
  fo P 139,
  ⟨.none, none, .fields #[], #[]⟩,
  fo P 140,
  fo P 141,
  rc P 143,
  fo P 142,
  fo P 143,
  fo P 144,
  ⟨.none, none, .fields #[], #[]⟩,
  fo P 145,
  fo P 146,
  rc P 148,
  fo P 147,
  fo P 148,
  fo P 149,
  ⟨.none, none, .fields #[], #[]⟩,
  fo P 150,
  fo P 151,
  rc P 153,
  fo P 152,
  fo P 153,
  fo P 154,
  ⟨.none, none, .fields #[], #[]⟩,
  fo P 155,
  fo P 156,
  rc P 158,
  fo P 157,
  fo P 158,
  fo P 159,
  ⟨.none, none, .fields #[], #[]⟩,
  rc P 161,
  fo P 160,
  fo P 161,
  fo P 162,
  ⟨.none, none, .fields #[], #[]⟩,
  fo P 163,
  fo P 164,
  rc P 166,
  fo P 165,
  fo P 166,
  fo P 167,
  ⟨.none, none, .fields #[], #[]⟩,
  fo P 168,
  fo P 169,
  rc P 171,
  fo P 170,
  fo P 171,
  fo P 172,
  ⟨.none, none, .fields #[], #[]⟩,
  rc P 174,
  fo P 173,
  fo P 174,
  fo P 175,
  ⟨.none, none, .fields #[], #[]⟩,
  rc P 177,
  fo P 176,
  fo P 177]
/-- the heap behind some of the statements -/
noncomputable def HS (P : Params) (o2 : Obj) (nm : Value) (k m n : Nat) : Heap := ⟨⟨boot_o_0 P :: boot_o_1 P :: o2 :: d3 P nm k :: boot_o_4 P :: boot_o_5 P :: boot_o_6 P :: boot_o_7 P :: boot_o_8 P :: boot_o_9 P :: boot_o_10 P :: ⟨(.type "tuple"), none, .seq #[] 0, #[]⟩ :: ⟨.none, none, .fields ⟨f12.take m⟩, #[]⟩ :: (tl P).take n⟩, {}⟩
noncomputable abbrev bE : List Stmt := behindTheImports rW.prog
noncomputable abbrev envE : Env := { scope := rW.prog.main.scope, locals := mainNs, globals := mainNs, cells := [], code := .ref 13, frame := some 14 }
noncomputable abbrev cE : Code := .body bE envE
noncomputable abbrev annE : Option Value := some (.ref 6)
abbrev qE : Pos := ⟨0, 0, 0, 0⟩
theorem piece_take {tb : String → Option Builtin} {p : Program} {w : World} {n₀ : Nat} {ann : Option Value} {env : Env} {q : Pos} (k : Nat) {n N : Nat} {s s' r : Shared} {l : List Stmt} {c : Code} {pos p' : Pos} (h : segRun tb p w n₀ ann 1 n s (piecesOf (l.take k) env c pos [topFrame q]) = some (.next, s', c, p'))
    (h2 : topRun tb p w n₀ ann N s' (restOf (l.drop k) env c p' [topFrame q]) = some r) : topRun tb p w n₀ ann (n + N) s (restOf l env c pos [topFrame q]) = some r := by
  have e := piece_app h h2
  rwa [List.take_append_drop] at e
set_option maxHeartbeats 0 in
theorem run_pre (w : World) : (fun os => topGo treeTable rW.prog w 11 annE 12 ⟨boot_heap w.params, .mk [], boot_drawn, boot_toks, os⟩ (topStub rW.prog)) = fun os => some (⟨HS w.params (boot_o_2 w.params) (.str (Str.ofString "__main__") 164) 9 0 2, .mk [], boot_drawn, 187, os⟩, ⟨denote treeTable cE, cE, ⟨0, 0, 0, 0⟩, [topFrame qE]⟩) := by
  kernel_rfl
set_option maxHeartbeats 0 in
theorem run_block (w : World) : (fun os => segRun treeTable rW.prog w 11 annE 1 1 ⟨HS w.params (boot_o_2 w.params) (.str (Str.ofString "__main__") 164) 9 0 2, .mk [], boot_drawn, 187, os⟩ (blockOf bE envE cE ⟨0, 0, 0, 0⟩ [topFrame qE])) = fun os => some (.next, ⟨HS w.params (boot_o_2 w.params) (.str (Str.ofString "__main__") 164) 9 0 2, .mk [], boot_drawn, 187, os⟩, cE, ⟨0, 0, 0, 0⟩) := by
  kernel_rfl
set_option maxHeartbeats 0 in
theorem run_1 (w : World) : (fun os => segRun treeTable rW.prog w 11 annE 1 451 ⟨HS w.params (boot_o_2 w.params) (.str (Str.ofString "__main__") 164) 9 0 2, .mk [], boot_drawn, 187, os⟩ (piecesOf ((bE).take 3) envE cE ⟨0, 0, 0, 0⟩ [topFrame qE])) = fun os => some (.next, ⟨HS w.params (fo w.params 0) (.str (Str.ofString "outlinemill.errors") 187) 11 6 34, .mk [], boot_drawn, 234, os⟩, cE, ⟨6, 0, 7, 8⟩) := by
  kernel_rfl
set_option maxHeartbeats 0 in
theorem run_2 (w : World) : (fun os => segRun treeTable rW.prog w 11 annE 1 338 ⟨HS w.params (fo w.params 0) (.str (Str.ofString "outlinemill.errors") 187) 11 6 34, .mk [], boot_drawn, 234, os⟩ (piecesOf (((bE).drop 3).take 16) envE cE ⟨6, 0, 7, 8⟩ [topFrame qE])) = fun os => some (.next, ⟨HS w.params (fo w.params 0) (.str (Str.ofString "outlinemill.sfnt") 234) 26 33 95, .mk [], boot_drawn, 322, os⟩, cE, ⟨44, 0, 47, 68⟩) := by
  kernel_rfl
set_option maxHeartbeats 0 in
theorem run_3 (w : World) : (fun os => segRun treeTable rW.prog w 11 annE 1 318 ⟨HS w.params (fo w.params 0) (.str (Str.ofString "outlinemill.sfnt") 234) 26 33 95, .mk [], boot_drawn, 322, os⟩ (piecesOf ((((bE).drop 3).drop 16).take 1) envE cE ⟨44, 0, 47, 68⟩ [topFrame qE])) = fun os => some (.next, ⟨HS w.params (fo w.params 0) (.str (Str.ofString "outlinemill.sfnt") 234) 27 36 137, .mk [], boot_drawn, 374, os⟩, cE, ⟨48, 0, 62, 29⟩) := by
  kernel_rfl
set_option maxHeartbeats 0 in
theorem run_4 (w : World) : (fun os => segRun treeTable rW.prog w 11 annE 1 229 ⟨HS w.params (fo w.params 0) (.str (Str.ofString "outlinemill.sfnt") 234) 27 36 137, .mk [], boot_drawn, 374, os⟩ (piecesOf (((((bE).drop 3).drop 16).drop 1).take 1) envE cE ⟨48, 0, 62, 29⟩ [topFrame qE])) = fun os => some (.next, ⟨HS w.params (fo w.params 0) (.str (Str.ofString "outlinemill.sfnt") 234) 28 39 158, .mk [], boot_drawn, 409, os⟩, cE, ⟨63, 0, 69, 24⟩) := by
  kernel_rfl
set_option maxHeartbeats 0 in
theorem run_5 (w : World) : (fun os => segRun treeTable rW.prog w 11 annE 1 300 ⟨HS w.params (fo w.params 0) (.str (Str.ofString "outlinemill.sfnt") 234) 28 39 158, .mk [], boot_drawn, 409, os⟩ (piecesOf ((((((bE).drop 3).drop 16).drop 1).drop 1).take 10) envE cE ⟨63, 0, 69, 24⟩ [topFrame qE])) = fun os => some (.next, ⟨HS w.params (fo w.params 0) (.str (Str.ofString "law_nu0014_01") 491) 37 66 221, .mk [], boot_drawn, 503, os⟩, cE, ⟨134, 0, 137, 96⟩) := by
  kernel_rfl
set_option maxHeartbeats 0 in
theorem run_6 (w : World) : (fun os => segRun treeTable rW.prog w 11 annE 1 260 ⟨HS w.params (fo w.params 0) (.str (Str.ofString "law_nu0014_01") 491) 37 66 221, .mk [], boot_drawn, 503, os⟩ (piecesOf (((((((bE).drop 3).drop 16).drop 1).drop 1).drop 10).take 9) envE cE ⟨134, 0, 137, 96⟩ [topFrame qE])) = fun os => some (.next, ⟨HS w.params (fo w.params 0) (.str (Str.ofString "law_nu0014_01") 491) 46 93 278, .mk [], boot_drawn, 570, os⟩, cE, ⟨193, 0, 216, 85⟩) := by
  kernel_rfl
set_option maxHeartbeats 0 in
theorem run_end (w : World) : (fun os => topRun treeTable rW.prog w 11 annE 2 ⟨HS w.params (fo w.params 0) (.str (Str.ofString "law_nu0014_01") 491) 46 93 278, .mk [], boot_drawn, 570, os⟩ ⟨doneF .next, cE, ⟨193, 0, 216, 85⟩, [topFrame qE]⟩) = fun os => some ⟨HS w.params (fo w.params 0) (.str (Str.ofString "law_nu0014_01") 491) 46 93 278, .mk [], boot_drawn, 570, os⟩ := by
  kernel_rfl
theorem no_more : ((((((bE).drop 3).drop 16).drop 1).drop 1).drop 10).drop 9 = [] := by kernel_rfl
theorem run_all (w : World) (os : OsState) : topRun treeTable rW.prog w 11 annE (12 + (1 + (451 + (338 + (318 + (229 + (300 + (260 + 2)))))))) ⟨boot_heap w.params, .mk [], boot_drawn, boot_toks, os⟩ (topStub rW.prog) = some ⟨HS w.params (fo w.params 0) (.str (Str.ofString "law_nu0014_01") 491) 46 93 278, .mk [], boot_drawn, 570, os⟩ := by
  refine go_top (congrFun (run_pre w) os) (piece_block (congrFun (run_block w) os) ?_)
  refine piece_take 3 (congrFun (run_1 w) os) ?_
  refine piece_take 16 (congrFun (run_2 w) os) ?_
  refine piece_take 1 (congrFun (run_3 w) os) ?_
  refine piece_take 1 (congrFun (run_4 w) os) ?_
  refine piece_take 10 (congrFun (run_5 w) os) ?_
  refine piece_take 9 (congrFun (run_6 w) os) ?_
  rw [no_more]
  exact piece_nil (congrFun (run_end w) os)
noncomputable abbrev HF (P : Params) : Heap := HS P (fo P 0) (.str (Str.ofString "law_nu0014_01") 491) 46 93 278
noncomputable abbrev SF (w : World) (os : OsState) : Shared := ⟨HF w.params, .mk [], boot_drawn, 570, os⟩
noncomputable abbrev XtF : Shared → Bool := fun s => xlAt hd.view_1 lv s && recOk (RowW.records rW.toRowW) s
theorem size_boot (w : World) : ((boot_heap w.params).isNs mainGlobals && (#[] : Array GenState).size == 0, (boot_heap w.params).objs.size, (boot_heap w.params).nsMap mainGlobals "__annotations__") = (true, 11, annE) := by kernel_rfl
set_option maxHeartbeats 0 in
theorem look_a (w : World) : (fun os => (staticsOk (importedModules rW.prog.main.body) (boot_heap w.params) (HF w.params) && namesBound rW.prog (HF w.params) && gensDone (SF w os) && laidKept (boot_heap w.params) (HF w.params))) = fun _ => true := by kernel_rfl
set_option maxHeartbeats 0 in
theorem look_b (w : World) : (fun os => openSeen hd.view_1 [Str.ofString "WORD"] (importedModules rW.prog.main.body) XtF true (SF w os)) = fun _ => openGood hd.view_1 [Str.ofString "WORD"] := by kernel_rfl
set_option maxHeartbeats 0 in
theorem look_c (w : World) : (fun os => Hook.obs HK (SF w os)) = fun _ => Hook.val HK w := by kernel_rfl
theorem left1 : LeftO rW.prog hd.view_1 [Str.ofString "WORD"] XtF (Hook.obs HK) (Hook.val HK) 3906 :=
  LeftO.of_pieces (boot_open (p := rW.prog) (N := 3906) (by rfl) (by decide) (fun _ => by rfl)) size_boot run_all (by rfl)
    (fun w => funext fun os => looks_pair (congrFun (look_a w) os) (looks_pair (congrFun (look_b w) os) (congrFun (look_c w) os)))

/-- entering a def that stands at the top; `hid`: the addresses that the call may change -/
theorem enterH {prog : Program} {w : World} {A : Around} {s : Shared} {p : Program} {loose : List Str} {mg mb : Str → Option Value} {K : Frag} (hid : List (Addr × Obj))
    {R : Result → Shared → Prop} {name qual : Str} {params : Arguments} {body : List Stmt} {scope : Scope} {dV kV doc pm cdv ct oc : Value} {an od : Option Addr} {osl : Array (Option Value)} {f : Addr} {args : Args} {binds : List (Str × Value)}
    (X : K.In s.heap) (T : TopRead p loose mg mb s.heap)
    (ho : K.lookup f = some ⟨oc, od, .func (fnOf name qual params body scope dV kV doc pm an cdv ct), osl⟩) (hcd : codeIn K cdv qual = true) (hroom : A.depth < recursionLimit)
    (hbind : bindArgs (fnOf name qual params body scope dV kV doc pm an cdv ct) args = pure binds) (hloc : ∀ y ∈ binds, scope.names.lookup y.1 = some .local)
    (hh : ∀ p ∈ hid, s.heap.get? p.1 = some p.2)
    (h : ∀ h₁, Fr (hideAll s.heap (hid.map (·.1))) s.heap.objs.size h₁ (fun y => binds.reverse.lookup y) → News (hideAll s.heap (hid.map (·.1))) s.heap.objs.size h₁ hid →
      wpAny (model prog w) (A.deeper (envOf qual scope s.heap.objs.size f cdv)) (execs body (envOf qual scope s.heap.objs.size f cdv))
        (fun fl s' => R (.ok (.ret (match fl with | .ret v => v | _ => .none))) s')
        (fun e s' => wpAny (model prog w) (A.deeper (envOf qual scope s.heap.objs.size f cdv)) (leaving (envOf qual scope s.heap.objs.size f cdv) e) (fun _ s'' => R (.error e) s'') (fun e' s'' => R (.error e') s'') s')
        { s with heap := h₁, toks := s.toks + binds.length })
    (hco : scope.isCoroutine = false := by rfl) (hgen : scope.isGenerator = false := by rfl) (hk : scope.kind = .function := by rfl)
    (hcell : ∀ x ∈ scope.names, x.2 ≠ .cell := by decide) : codeAny (model prog w) A (.call (.ref f) args) R s := by
  refine codeAny_call_def (fd := fnOf name qual params body scope dV kV doc pm an cdv ct) (body := body) (binds := binds) hroom (X _ _ ho) rfl T.nolimit (codeRec_of X hcd) rfl (BindsTo.of_eq hbind) hcell hloc (fun h₁ hns hk₁ => ?_) hco hgen hk
  refine h h₁ ⟨hns, fun b o e => hk₁ b o (of_hideAll _ e), Nat.le_of_eq (hideAll_size _ _)⟩ fun p hp => ⟨hk₁ _ _ (hh p hp), Nat.ne_of_lt (Heap.lt_size (hh p hp)), hideAll_none _ (List.mem_map_of_mem hp)⟩

/-- the same where nothing is hidden -/
theorem enter {prog : Program} {w : World} {A : Around} {s : Shared} {p : Program} {loose : List Str} {mg mb : Str → Option Value} {K : Frag}
    {R : Result → Shared → Prop} {name qual : Str} {params : Arguments} {body : List Stmt} {scope : Scope} {dV kV doc pm cdv ct oc : Value} {an od : Option Addr} {osl : Array (Option Value)} {f : Addr} {args : Args} {binds : List (Str × Value)}
    (X : K.In s.heap) (T : TopRead p loose mg mb s.heap)
    (ho : K.lookup f = some ⟨oc, od, .func (fnOf name qual params body scope dV kV doc pm an cdv ct), osl⟩) (hcd : codeIn K cdv qual = true) (hroom : A.depth < recursionLimit)
    (hbind : bindArgs (fnOf name qual params body scope dV kV doc pm an cdv ct) args = pure binds) (hloc : ∀ y ∈ binds, scope.names.lookup y.1 = some .local)
    (h : ∀ h₁, Fr s.heap s.heap.objs.size h₁ (fun y => binds.reverse.lookup y) → News s.heap s.heap.objs.size h₁ [] →
      wpAny (model prog w) (A.deeper (envOf qual scope s.heap.objs.size f cdv)) (execs body (envOf qual scope s.heap.objs.size f cdv))
        (fun fl s' => R (.ok (.ret (match fl with | .ret v => v | _ => .none))) s')
        (fun e s' => wpAny (model prog w) (A.deeper (envOf qual scope s.heap.objs.size f cdv)) (leaving (envOf qual scope s.heap.objs.size f cdv) e) (fun _ s'' => R (.error e) s'') (fun e' s'' => R (.error e') s'') s')
        { s with heap := h₁, toks := s.toks + binds.length })
    (hco : scope.isCoroutine = false := by rfl) (hgen : scope.isGenerator = false := by rfl) (hk : scope.kind = .function := by rfl)
    (hcell : ∀ x ∈ scope.names, x.2 ≠ .cell := by decide) : codeAny (model prog w) A (.call (.ref f) args) R s :=
  enterH [] X T ho hcd hroom hbind hloc (fun _ h => nomatch h) h hco hgen hk hcell

/-- what a def gives whose call leaves all that stood as it stood -/
noncomputable def Gives (w : World) (A : Around) (f : Addr) (args : List Value) (s : Shared) (P : Value → Heap → Prop) : Prop :=
  ∀ (E Q : Value → Shared → Prop), (∀ v h' n, P v h' → s.heap.StaysIn h' → Q v { s with heap := h', toks := n }) → wpAny (model PySem.Challenge.rw_nu0014_01.row.prog w) A (call (.ref f) args) Q E s

theorem Gives.use {w : World} {A : Around} {f : Addr} {args : List Value} {s : Shared} {P : Value → Heap → Prop} {E Q : Value → Shared → Prop} {h₀ : Heap} {L : Addr} {m : Str → Option Value} {news : List (Addr × Obj)}
    (G : Gives w A f args s P) (F : Fr h₀ L s.heap m) (N : News h₀ L s.heap news)
    (h : ∀ v h' n, P v h' → Fr h₀ L h' m → News h₀ L h' news → s.heap.StaysIn h' → Q v { s with heap := h', toks := n }) : wpAny (model PySem.Challenge.rw_nu0014_01.row.prog w) A (call (.ref f) args) Q E s :=
  G E Q fun v h' n p st => h v h' n p (F.keeps st) (N.grown st) st

section
variable {prog : Program} {w : World} {A : Around} {E : Value → Shared → Prop} {s : Shared}

theorem zero_no_bytes : typeLookup (.type "int") "__bytes__" = pure none := by rw [typeLookup_type, builtinLookup_eq_fast]; kernel_rfl
theorem own_bytes : typeLookup (.type "bytes") "__bytes__" = pure (some (.builtin "bytes.__bytes__")) := by rw [typeLookup_type, builtinLookup_eq_fast]; kernel_rfl

theorem code_bytes_int {n : Int} {t : Tok} {Q : Value → Shared → Prop} (h0 : 0 ≤ n) (h1 : n ≤ 1000000)
    (hQ : ∀ t' k, Q (.bytes (Array.replicate n.toNat 0) t') { s with toks := k }) :
    codeAny (model prog w) A (.call (.builtin "bytes.__new__") ⟨[.type "bytes", .int n t], []⟩) (wants Q E) s := by
  refine codeAny_of_tree ?_
  show wpAny _ A.in1 (do checkBuiltinCall "bytes.__new__" ⟨[.type "bytes", .int n t], []⟩; again (.builtin "bytes.__new__" ⟨[.type "bytes", .int n t], []⟩)) _ _ s
  refine wpAny_bind (wpAny_of_eq (F.bm_newCall _) (wpAny_pure ⟨plainId_quiet F.bm_plain _, codeAny_builtin F.bm_entry ?_⟩))
  rw [Around.under_plainId F.bm_plain _]
  unfold Builtin.«bytes.__new__»
  refine wpAny_bind (wpAny_of_eq (a := true) rfl ?_)
  refine bm_if_false rfl ?_
  refine wpAny_bind (wpAny_of_eq F.bm_sub ?_)
  refine bm_if_false rfl ?_
  refine wpAny_bind (wpAny_of_eq (F.bm_bind _) ?_)
  refine wpAny_bind (wpAny_of_eq (a := ()) rfl ?_)
  refine wpAny_bind (wpAny_of_eq (a := ()) rfl ?_)
  refine bm_if_false rfl ?_
  refine wpAny_bind (wpAny_specialOf (T := "int") (typeIs_int _ _ _) zero_no_bytes ?_)
  refine wpAny_bind (wpAny_of_eq (a := false) rfl ?_)
  refine bm_if_false rfl ?_
  refine wpAny_bind (wpAny_specialOf (T := "int") (typeIs_int _ _ _) F.slot_int_index.lookup ?_)
  refine bm_if_false rfl ?_
  refine wpAny_bind (wpAny_attempt (wpAny_of_eq (rfl : asIndex (.int n t) = pure n) ?_))
  refine bm_if_false (by simp only [Builtin.Bytes.fitsIndex, Bool.not_eq_false', Bool.and_eq_true, decide_eq_true_eq]; omega) ?_
  refine wpAny_ite ?_
  rw [if_neg (by omega)]
  refine wpAny_ite ?_
  rw [if_neg (by omega)]
  refine bm_if_false (by simp only [Builtin.Bytes.tooLong, sizeLine_eq, decide_eq_false_iff_not]; omega) ?_
  refine wpAny_bind (wpAny_rule ?_)
  refine wpAny_bind (wpAny_mkBytes ?_ (by rw [Array.size_replicate, sizeLine_eq]; omega))
  show wpAny _ _ (if (Value.type "bytes" == Value.type "bytes") = true then _ else _) _ _ _
  refine bm_if_true (by decide) ?_
  first
    | exact wpAny_pure (hQ _ _)
    | exact wpAny_bind (wpAny_pure (wpAny_pure (hQ _ _)))

theorem call_bytes_int {n : Int} {t : Tok} {Q : Value → Shared → Prop} (h0 : 0 ≤ n) (h1 : n ≤ 1000000)
    (hQ : ∀ t' k, Q (.bytes (List.replicate n.toNat (0 : UInt8)).toArray t') { s with toks := k }) : wpAny (model prog w) A (call (.type "bytes") [.int n t]) Q E s := by
  refine callType_codes (Q₁ := fun obj s₁ => s₁.TypeIs obj "bytes" ∧ Q obj s₁) F.bm_called (F.bm_typeCall _) F.entry_object_init
    (code_bytes_int h0 h1 fun t k => ⟨PySem.W.typeIs_bytes _ _ _, by rw [← List.toArray_replicate]; exact hQ t k⟩) fun obj s₁ h₁ => ?_
  exact ⟨h₁.1, F.args_object_init_2 obj _, object_init_meets F.bm_called.init.lookup F.bm_called.made (by decide) prog w A.in1 _ s₁ ⟨h₁.1, rfl, h₁.2⟩⟩

theorem code_bytes_bytes {b : Array UInt8} {t : Tok} {Q : Value → Shared → Prop} (hQ : Q (.bytes b t) s) :
    codeAny (model prog w) A (.call (.builtin "bytes.__new__") ⟨[.type "bytes", .bytes b t], []⟩) (wants Q E) s := by
  refine codeAny_of_tree ?_
  show wpAny _ A.in1 (do checkBuiltinCall "bytes.__new__" ⟨[.type "bytes", .bytes b t], []⟩; again (.builtin "bytes.__new__" ⟨[.type "bytes", .bytes b t], []⟩)) _ _ s
  refine wpAny_bind (wpAny_of_eq (F.bm_newCall _) (wpAny_pure ⟨plainId_quiet F.bm_plain _, codeAny_builtin F.bm_entry ?_⟩))
  rw [Around.under_plainId F.bm_plain _]
  unfold Builtin.«bytes.__new__»
  refine wpAny_bind (wpAny_of_eq (a := true) rfl ?_)
  refine bm_if_false rfl ?_
  refine wpAny_bind (wpAny_of_eq F.bm_sub ?_)
  refine bm_if_false rfl ?_
  refine wpAny_bind (wpAny_of_eq (F.bm_bind _) ?_)
  refine wpAny_bind (wpAny_of_eq (a := ()) rfl ?_)
  refine wpAny_bind (wpAny_of_eq (a := ()) rfl ?_)
  refine bm_if_false rfl ?_
  refine wpAny_bind (wpAny_specialOf (T := "bytes") (PySem.W.typeIs_bytes _ _ _) own_bytes ?_)
  refine wpAny_bind (wpAny_rule ?_)
  refine wpAny_bind (wpAny_of_eq (a := Value.type "bytes") rfl ?_)
  refine bm_if_true (by decide) ?_
  show wpAny _ _ (if (Value.type "bytes" == Value.type "bytes") = true then _ else _) _ _ _
  refine bm_if_true (by decide) ?_
  first
    | exact wpAny_pure hQ
    | exact wpAny_bind (wpAny_pure (wpAny_pure hQ))

theorem call_bytes_bytes {b : Array UInt8} {t : Tok} {Q : Value → Shared → Prop} (hQ : Q (.bytes b t) s) : wpAny (model prog w) A (call (.type "bytes") [.bytes b t]) Q E s := by
  refine callType_codes (Q₁ := fun obj s₁ => s₁.TypeIs obj "bytes" ∧ Q obj s₁) F.bm_called (F.bm_typeCall _) F.entry_object_init
    (code_bytes_bytes ⟨PySem.W.typeIs_bytes _ _ _, hQ⟩) fun obj s₁ h₁ => ?_
  exact ⟨h₁.1, F.args_object_init_2 obj _, object_init_meets F.bm_called.init.lookup F.bm_called.made (by decide) prog w A.in1 _ s₁ ⟨h₁.1, rfl, h₁.2⟩⟩
end

noncomputable def b8 (l : List UInt8) (k : Nat) : Int := ((l.getD k 0).toNat : Int)
theorem b8_lo (l : List UInt8) (k : Nat) : 0 ≤ b8 l k := Int.natCast_nonneg _
theorem b8_hi (l : List UInt8) (k : Nat) : b8 l k < 256 := by have := (l.getD k 0).toNat_lt; unfold b8; omega

theorem clip_nn {n : Nat} {i : Int} (h : 0 ≤ i) : clipAt n i = min i.toNat n := by
  unfold clipAt
  rw [if_neg (by omega)]
  omega
theorem cut_eq (x : List UInt8) (a c : Nat) : (x.drop (min a x.length)).take (min c x.length - min a x.length) = (x.take c).drop a := by
  apply List.ext_getElem?
  intro i
  simp only [List.getElem?_take, List.getElem?_drop]
  by_cases h1 : a ≤ x.length
  · rw [Nat.min_eq_left h1]
    by_cases h2 : a + i < c
    · rw [if_pos h2]
      by_cases h3 : a + i < x.length
      · rw [if_pos (by omega)]
      · rw [List.getElem?_eq_none (by omega)]; split <;> rfl
    · rw [if_neg h2, if_neg (by omega)]
  · rw [Nat.min_eq_right (show x.length ≤ a by omega), List.getElem?_eq_none (l := x) (i := x.length + i) (by omega), List.getElem?_eq_none (l := x) (i := a + i) (by omega)]
    split <;> split <;> rfl
theorem cutL (x : List UInt8) (a : Nat) : (x.drop (min a x.length)).take (x.length - min a x.length) = x.drop a := by
  have := cut_eq x a x.length
  rwa [Nat.min_self, List.take_length] at this
theorem cutR (x : List UInt8) (c : Nat) : (x.drop 0).take (min c x.length - 0) = x.take c := by
  have := cut_eq x 0 c
  simp only [Nat.zero_min, List.drop_zero, Nat.sub_zero] at this ⊢
  exact this

section
variable {prog : Program} {w : World} {A : Around} {E : Value → Shared → Prop} {s : Shared} {value slice : PySem.Expr} {x y : List UInt8} {t ui : Tok} {h₀ : Heap} {L : Addr} {m : PySem.Str → Option Value} {news : List (Addr × Obj)} {Q : Value → Shared → Prop}

theorem b_item {i : Int} (hfit : x.length ≤ 1000000) (h0 : 0 ≤ i) (h1 : i < (x.length : Int)) (h : Q (.int (b8 x i.toNat) s.toks) { s with toks := s.toks + 1 })
    (hs : subscripted slice false (.bytes x.toArray t) (.int i ui) = operate [.bytes x.toArray t, .int i ui] (getItem (.bytes x.toArray t) (.int i ui)) := by with_unfolding_all rfl)
    (ht : ∀ r, letTemporaryGo value (.bytes x.toArray t) r = pure () := by intro _; with_unfolding_all rfl) :
    wpAny (model prog w) A (subscriptTail value slice (.bytes x.toArray t) (.int i ui)) Q E s := KBy.item_N (by omega) h0 h1 h hs ht

theorem b_len (hfit : x.length ≤ 1000000) (h : Q (.int x.length (s.toks + 1)) { s with toks := s.toks + 1 + 1 }) : wpAny (model prog w) A (call (.builtin "len") [.bytes x.toArray t]) Q E s :=
  len_bytes (by rw [List.size_toArray]; omega) (by rw [List.size_toArray]; exact h)

theorem b_add (hsz : x.length + y.length ≤ 1000000) (h : ∀ t' k, Q (.bytes (x ++ y).toArray t') { s with toks := k }) : wpAny (model prog w) A (binaryOp .Add (.bytes x.toArray t) (.bytes y.toArray ui)) Q E s :=
  KBy.add_bytes (by rw [List.size_toArray, List.size_toArray]; omega) fun t' k => by rw [List.append_toArray]; exact h t' k

theorem b_slice {l u : Value} {lo hi : Option Int} (hF : Fr h₀ L s.heap m) (hN : News h₀ L s.heap news) (hl : IsPart l lo) (hu : IsPart u hi) (hz : x.length ≤ 1000000) {z : List UInt8}
    (hz' : (x.drop (lo.elim 0 (clipAt x.length))).take (hi.elim x.length (clipAt x.length) - lo.elim 0 (clipAt x.length)) = z)
    (h : ∀ h' t' k, Fr h₀ L h' m → News h₀ L h' news → Q (.bytes z.toArray t') { s with heap := h', toks := k })
    (hs : subscripted slice false (.bytes x.toArray t) (.ref s.heap.objs.size) = operate [.ref s.heap.objs.size, .bytes x.toArray t] (getItem (.bytes x.toArray t) (.ref s.heap.objs.size)) := by with_unfolding_all rfl)
    (ht : ∀ r, letTemporaryGo value (.bytes x.toArray t) r = pure () := by intro _; with_unfolding_all rfl) :
    wpAny (model prog w) A (subscriptTail value slice (.bytes x.toArray t) (.ref s.heap.objs.size)) Q E { s with heap := s.heap.push { cls := .type "slice", data := .fields #[l, u, .none] } } :=
  KBc.slice_K hF hN rfl hl hu (by rw [KBw.ints_length, List.size_toArray]; omega) (fun h' t' k F' N' _ => by
    rw [KBc.picked_eq, List.size_toArray]
    show Q (.bytes ((x.drop _).take _).toArray t') _
    rw [hz']
    exact h h' t' k F' N') hs ht

theorem b_slice_ii {a c : Int} {ta tc : Tok} (hF : Fr h₀ L s.heap m) (hN : News h₀ L s.heap news) (hz : x.length ≤ 1000000) (ha : 0 ≤ a) (hc : 0 ≤ c)
    (h : ∀ h' t' k, Fr h₀ L h' m → News h₀ L h' news → Q (.bytes ((x.take c.toNat).drop a.toNat).toArray t') { s with heap := h', toks := k })
    (hs : subscripted slice false (.bytes x.toArray t) (.ref s.heap.objs.size) = operate [.ref s.heap.objs.size, .bytes x.toArray t] (getItem (.bytes x.toArray t) (.ref s.heap.objs.size)) := by with_unfolding_all rfl)
    (ht : ∀ r, letTemporaryGo value (.bytes x.toArray t) r = pure () := by intro _; with_unfolding_all rfl) :
    wpAny (model prog w) A (subscriptTail value slice (.bytes x.toArray t) (.ref s.heap.objs.size)) Q E { s with heap := s.heap.push { cls := .type "slice", data := .fields #[.int a ta, .int c tc, .none] } } :=
  b_slice hF hN (.int _ _) (.int _ _) hz (by simp only [Option.elim, clip_nn ha, clip_nn hc]; exact cut_eq _ _ _) h hs ht
theorem b_slice_in {a : Int} {ta : Tok} (hF : Fr h₀ L s.heap m) (hN : News h₀ L s.heap news) (hz : x.length ≤ 1000000) (ha : 0 ≤ a)
    (h : ∀ h' t' k, Fr h₀ L h' m → News h₀ L h' news → Q (.bytes (x.drop a.toNat).toArray t') { s with heap := h', toks := k })
    (hs : subscripted slice false (.bytes x.toArray t) (.ref s.heap.objs.size) = operate [.ref s.heap.objs.size, .bytes x.toArray t] (getItem (.bytes x.toArray t) (.ref s.heap.objs.size)) := by with_unfolding_all rfl)
    (ht : ∀ r, letTemporaryGo value (.bytes x.toArray t) r = pure () := by intro _; with_unfolding_all rfl) :
    wpAny (model prog w) A (subscriptTail value slice (.bytes x.toArray t) (.ref s.heap.objs.size)) Q E { s with heap := s.heap.push { cls := .type "slice", data := .fields #[.int a ta, .none, .none] } } :=
  b_slice hF hN (.int _ _) .none hz (by simp only [Option.elim, clip_nn ha]; exact cutL _ _) h hs ht
theorem b_slice_ni {c : Int} {tc : Tok} (hF : Fr h₀ L s.heap m) (hN : News h₀ L s.heap news) (hz : x.length ≤ 1000000) (hc : 0 ≤ c)
    (h : ∀ h' t' k, Fr h₀ L h' m → News h₀ L h' news → Q (.bytes (x.take c.toNat).toArray t') { s with heap := h', toks := k })
    (hs : subscripted slice false (.bytes x.toArray t) (.ref s.heap.objs.size) = operate [.ref s.heap.objs.size, .bytes x.toArray t] (getItem (.bytes x.toArray t) (.ref s.heap.objs.size)) := by with_unfolding_all rfl)
    (ht : ∀ r, letTemporaryGo value (.bytes x.toArray t) r = pure () := by intro _; with_unfolding_all rfl) :
    wpAny (model prog w) A (subscriptTail value slice (.bytes x.toArray t) (.ref s.heap.objs.size)) Q E { s with heap := s.heap.push { cls := .type "slice", data := .fields #[.none, .int c tc, .none] } } :=
  b_slice hF hN .none (.int _ _) hz (by simp only [Option.elim, clip_nn hc]; exact cutR _ _) h hs ht

theorem toList_eq (a b : List UInt8) : (a.toArray.toList == b.toArray.toList) = (a == b) := rfl
theorem b_eq (h : Q (.bool (x == y)) s) : wpAny (model prog w) A (compareOp .Eq (.bytes x.toArray t) (.bytes y.toArray ui)) Q E s := eq_bytes h
theorem b_ne (h : Q (.bool (x != y)) s) : wpAny (model prog w) A (compareOp .NotEq (.bytes x.toArray t) (.bytes y.toArray ui)) Q E s := ne_bytes h

theorem b_zeros {n : Int} (h0 : 0 ≤ n) (h1 : n ≤ 1000000) (hQ : ∀ t' k, Q (.bytes (List.replicate n.toNat (0 : UInt8)).toArray t') { s with toks := k }) :
    wpAny (model prog w) A (call (.type "bytes") [.int n t]) Q E s := call_bytes_int h0 h1 hQ

noncomputable def bl (ns : List Int) : List UInt8 := ns.map fun n => n.toNat.toUInt8
theorem b_ints {D : Addr} {vs : List Value} {ns : List Int} (F : Fr h₀ L s.heap m) (N : News h₀ L s.heap news) (hh : A.handled = none) (hl : s.heap.IsList D vs.toArray) (hi : IntsAre vs ns) (hr : ∀ n ∈ ns, 0 ≤ n ∧ n < 256) (hn : ns.length ≤ 1000000)
    (h : ∀ h' t' k, Fr h₀ L h' m → News h₀ L h' news → Q (.bytes (bl ns).toArray t') { s with heap := h', toks := k }) : wpAny (model prog w) A (call (.type "bytes") [.ref D]) Q E s :=
  KBa.make_K F N hh hl hi hr (by omega) fun h' t' k F' N' _ => h h' t' k F' N'
end

section
variable {prog : Program} {w : World} {A : Around} {E : Value → Shared → Prop} {s : Shared} {a b : Int} {t u : Tok} {Q : Value → Shared → Prop}
theorem i_mod (hb : 0 < b) (h : Q (.int (a % b) s.toks) { s with toks := s.toks + 1 }) : wpAny (model prog w) A (binaryOp .Mod (.int a t) (.int b u)) Q E s :=
  mod_int' (by omega) (by rw [Int.fmod_eq_emod_of_nonneg _ (by omega)]; exact h)
theorem i_div (hb : 0 < b) (hb2 : b < 1073741824) (h : Q (.int (a / b) s.toks) { s with toks := s.toks + 1 }) : wpAny (model prog w) A (binaryOp .FloorDiv (.int a t) (.int b u)) Q E s :=
  floordiv_int (by omega) (by rw [Int.fdiv_eq_ediv_of_nonneg _ (by omega)]; exact h) (Or.inl (PyProof.noPylong_small (by omega)))
theorem bits_small {b : Int} (h0 : -1000000000000000000 ≤ b) (h1 : b ≤ 1000000000000000000) : Builtin.Int.intBits b ≤ 64 := by
  unfold Builtin.Int.intBits
  split
  · omega
  · rename_i hb
    have hb' : b ≠ 0 := by simpa using hb
    have : b.natAbs.log2 < 63 := (Nat.log2_lt (by omega)).mpr (by omega)
    omega
theorem i_mul_r (h0 : -1000000000000000000 ≤ b) (h1 : b ≤ 1000000000000000000) (h : Q (.int (a * b) s.toks) { s with toks := s.toks + 1 }) : wpAny (model prog w) A (binaryOp .Mult (.int a t) (.int b u)) Q E s :=
  PyProof.Rows.mul_int h (IntMulOk.of_right (bits_small h0 h1))
theorem i_mul_l (h0 : -1000000000000000000 ≤ a) (h1 : a ≤ 1000000000000000000) (h : Q (.int (a * b) s.toks) { s with toks := s.toks + 1 }) : wpAny (model prog w) A (binaryOp .Mult (.int a t) (.int b u)) Q E s :=
  PyProof.Rows.mul_int h (IntMulOk.of_left (bits_small h0 h1))
end

theorem words_04_1 : True := by
  (k_with "binaryOp Mult int int" => ((k_here; (first | ((with_reducible refine i_mul_r (by k_dflt (k_extra "mside")) (by k_dflt (k_extra "mside")) ?_)) | ((with_reducible refine i_mul_l (by k_dflt (k_extra "mside")) (by k_dflt (k_extra "mside")) ?_))))))
  (k_with "mside" => (first | assumption | omega | (simp only [List.length_append, List.length_take, List.length_drop, List.length_replicate, List.length_cons, List.length_nil, List.size_toArray]; omega)))
  (k_with "mK" => (exact Frag.In.keeps (by assumption) (Fr.keep (by assumption))))
  (k_with "mT" => (exact TopRead.keeps (by assumption) (Fr.keep (by assumption))))
  (k_with "binaryOp Mod int int" => ((k_here; (with_reducible refine i_mod (by k_dflt (k_extra "mside")) ?_))))
  (k_with "binaryOp FloorDiv int int" => ((k_here; (with_reducible refine i_div (by k_dflt (k_extra "mside")) (by k_dflt (k_extra "mside")) ?_))))
  (k_with "subscriptTail" => ((k_here; (with_reducible show wpAny _ _ (subscriptTail _ _ (Value.bytes (List.toArray _) _) (Value.int _ _)) _ _ _); (refine b_item (by k_extra "mside") (by k_extra "mside") (by k_extra "mside") ?_))))
  (k_with "subscriptTail" => ((k_here; (with_reducible show wpAny _ _ (subscriptTail _ (Expr.Slice _ _ none _) (Value.bytes (List.toArray _) _) (Value.ref _)) _ _ _); (with_reducible rename Fr _ _ _ _ => Fzq); (with_reducible rename News _ _ _ _ => Nzq); (first
  | (refine b_slice_ii (s := ⟨_, _, _, _, _⟩) Fzq Nzq (by k_extra "mside") (by k_extra "mside") (by k_extra "mside") ?_)
  | (refine b_slice_in (s := ⟨_, _, _, _, _⟩) Fzq Nzq (by k_extra "mside") (by k_extra "mside") ?_)
  | (refine b_slice_ni (s := ⟨_, _, _, _, _⟩) Fzq Nzq (by k_extra "mside") (by k_extra "mside") ?_)); intro _ _ _ _ _; (try k_sweep))))
  (k_with "call builtin:len" => ((k_here; (with_reducible show wpAny _ _ (call (Value.builtin "len") [Value.bytes (List.toArray _) _]) _ _ _); (refine b_len (by k_extra "mside") ?_))))
  (k_with "binaryOp Add bytes bytes" => ((k_here; (with_reducible show wpAny _ _ (binaryOp Operator.Add (Value.bytes (List.toArray _) _) (Value.bytes (List.toArray _) _)) _ _ _); (refine b_add (by k_extra "mside") ?_); intro _ _)))
  (k_with "compareOp Eq bytes bytes" => ((k_here; (with_reducible show wpAny _ _ (compareOp CmpOp.Eq (Value.bytes (List.toArray _) _) (Value.bytes (List.toArray _) _)) _ _ _); refine b_eq ?_)))
  (k_with "compareOp NotEq bytes bytes" => ((k_here; (with_reducible show wpAny _ _ (compareOp CmpOp.NotEq (Value.bytes (List.toArray _) _) (Value.bytes (List.toArray _) _)) _ _ _); refine b_ne ?_)))
  (k_with "call type:bytes" => ((k_here; (with_reducible show wpAny _ _ (call (Value.type "bytes") [Value.bytes _ _]) _ _ _); refine call_bytes_bytes ?_)))
  (k_with "call type:bytes" => ((k_here; (with_reducible show wpAny _ _ (call (Value.type "bytes") [Value.int _ _]) _ _ _); (refine b_zeros (by k_extra "mside") (by k_extra "mside") ?_); intro _ _)))
  (k_with "call type:bytes" => ((k_here; (with_reducible show wpAny _ _ (call (Value.type "bytes") [Value.ref _]) _ _ _); k_dflt (refine' b_ints (by k_asm) (by k_asm) (by rfl) (by kba_isList) (by first | l_ints | l_intsW) (by (simp only [List.mem_cons, List.not_mem_nil, or_false, forall_eq_or_imp, forall_eq]; omega)) (by k_extra "mside") ?_); intro _ _ _ _ _; (try k_sweep))))
  trivial

section
variable {s : Shared} {Q : Value → Shared → Prop} {h' : Heap} {n : Nat} {t : Tok}
theorem endI {a b : Int} (hQ : ∀ v h' n, (∃ u, v = .int b u) → s.heap.StaysIn h' → Q v { s with heap := h', toks := n }) (st : s.heap.StaysIn h') (e : a = b) : Q (.int a t) { s with heap := h', toks := n } := hQ _ _ _ ⟨t, by rw [e]⟩ st
theorem endB {a b : List UInt8} (hQ : ∀ v h' n, (∃ u, v = .bytes b.toArray u) → s.heap.StaysIn h' → Q v { s with heap := h', toks := n }) (st : s.heap.StaysIn h') (e : a = b) : Q (.bytes a.toArray t) { s with heap := h', toks := n } := hQ _ _ _ ⟨t, by rw [e]⟩ st
theorem endS {a b : Str} (hQ : ∀ v h' n, (∃ u, v = .str b u) → s.heap.StaysIn h' → Q v { s with heap := h', toks := n }) (st : s.heap.StaysIn h') (e : a = b) : Q (.str a t) { s with heap := h', toks := n } := hQ _ _ _ ⟨t, by rw [e]⟩ st
end

noncomputable def be16 (n : Int) : List UInt8 := bl [n / 256 % 256, n % 256]
noncomputable def be32 (n : Int) : List UInt8 := be16 (n / 65536) ++ be16 n
noncomputable def fil (l : List UInt8) : List UInt8 := l ++ List.replicate ((4 - l.length % 4) % 4) 0
noncomputable def plainH (l : List UInt8) : List UInt8 := l.take 8 ++ List.replicate 4 0 ++ l.drop 12
noncomputable def part (l : List UInt8) (k z : Nat) : List UInt8 := (l.take (k + z)).drop k

noncomputable def rd16 (l : List UInt8) (k : Nat) : Int := b8 l k * 256 + b8 l (k + 1)
noncomputable def rd32 (l : List UInt8) (k : Nat) : Int := rd16 l k * 65536 + rd16 l (k + 2)

section
variable {w : World} {d u : Nat} {fr : Option (List Env)} {gs : Option (List Code)} {s : Shared} {p : Program} {loose : List Str} {mg mb : Str → Option Value}

set_option maxHeartbeats 4000000 in
theorem g_u16 {l : List UInt8} {t tk : Tok} {k : Int}
    (X : (hd.heap_1 w.params).In s.heap) (T : TopRead p loose mg mb s.heap) (hroom : d + 10 < recursionLimit) (hl : l.length ≤ 100000)
    (h0 : 0 ≤ k) (h1 : k + 2 ≤ (l.length : Int)) :
    Gives w ⟨none, d, fr, gs, u⟩ 53 [.bytes l.toArray t, .int k tk] s (fun v _ => ∃ u, v = .int (rd16 l k.toNat) u) := by
  intro E Q hQ
  refine wpAny_call (enter X T rfl (by rfl) (by simp only; omega) rfl (locs rfl) (fun h₁ F N => ?_))
  k_steps
  (try dsimp only)
  refine endI hQ (Fr.keep (by assumption)) ?_
  unfold rd16
  rw [show (k + 1).toNat = k.toNat + 1 by omega]

set_option maxHeartbeats 4000000 in
theorem g_put16 {tk : Tok} {k : Int}
    (X : (hd.heap_1 w.params).In s.heap) (T : TopRead p loose mg mb s.heap) (hroom : d + 10 < recursionLimit) (h0 : 0 ≤ k) :
    Gives w ⟨none, d, fr, gs, u⟩ 67 [.int k tk] s (fun v _ => ∃ u, v = .bytes (be16 k).toArray u) := by
  intro E Q hQ
  refine wpAny_call (enter X T rfl (by rfl) (by simp only; omega) rfl (locs rfl) (fun h₁ F N => ?_))
  k_steps
  (try dsimp only)
  refine endB hQ (Fr.keep (by assumption)) ?_
  rfl

set_option maxHeartbeats 4000000 in
theorem g_part_of {l : List UInt8} {t tk tz : Tok} {k z : Int}
    (X : (hd.heap_1 w.params).In s.heap) (T : TopRead p loose mg mb s.heap) (hroom : d + 10 < recursionLimit) (hl : l.length ≤ 100000)
    (h0 : 0 ≤ k) (h1 : 0 ≤ z) (h2 : k + z ≤ (l.length : Int)) :
    Gives w ⟨none, d, fr, gs, u⟩ 81 [.bytes l.toArray t, .int k tk, .int z tz] s (fun v _ => ∃ u, v = .bytes (part l k.toNat z.toNat).toArray u) := by
  intro E Q hQ
  refine wpAny_call (enter X T rfl (by rfl) (by simp only; omega) rfl (locs rfl) (fun h₁ F N => ?_))
  k_steps
  (try dsimp only)
  refine endB hQ (Fr.keep (by assumption)) ?_
  unfold part
  rw [show (k + z).toNat = k.toNat + z.toNat by omega]

set_option maxHeartbeats 4000000 in
theorem g_filled {l : List UInt8} {t : Tok}
    (X : (hd.heap_1 w.params).In s.heap) (T : TopRead p loose mg mb s.heap) (hroom : d + 10 < recursionLimit) (hl : l.length ≤ 100000) :
    Gives w ⟨none, d, fr, gs, u⟩ 88 [.bytes l.toArray t] s (fun v _ => ∃ u, v = .bytes (fil l).toArray u) := by
  intro E Q hQ
  refine wpAny_call (enter X T rfl (by rfl) (by simp only; omega) rfl (locs rfl) (fun h₁ F N => ?_))
  k_steps
  (try dsimp only)
  refine endB hQ (Fr.keep (by assumption)) ?_
  unfold fil
  rw [show ((4 - (l.length : Int) % 4) % 4).toNat = (4 - l.length % 4) % 4 by omega]

set_option maxHeartbeats 4000000 in
theorem g_plain_head {l : List UInt8} {t : Tok}
    (X : (hd.heap_1 w.params).In s.heap) (T : TopRead p loose mg mb s.heap) (hroom : d + 10 < recursionLimit) (hl : l.length ≤ 100000) :
    Gives w ⟨none, d, fr, gs, u⟩ 191 [.bytes l.toArray t] s (fun v _ => ∃ u, v = .bytes (plainH l).toArray u) := by
  intro E Q hQ
  refine wpAny_call (enter X T rfl (by rfl) (by simp only; omega) rfl (locs rfl) (fun h₁ F N => ?_))
  k_steps
  (try dsimp only)
  refine endB hQ (Fr.keep (by assumption)) ?_
  rfl

set_option maxHeartbeats 4000000 in
theorem g_law_number {l : List UInt8} {t tk : Tok} {k : Int}
    (X : (hd.heap_1 w.params).In s.heap) (T : TopRead p loose mg mb s.heap) (hroom : d + 10 < recursionLimit) (hl : l.length ≤ 100000)
    (h0 : 0 ≤ k) (h1 : k + 4 ≤ (l.length : Int)) :
    Gives w ⟨none, d, fr, gs, u⟩ 254 [.bytes l.toArray t, .int k tk] s (fun v _ => ∃ u, v = .int (rd32 l k.toNat) u) := by
  intro E Q hQ
  refine wpAny_call (enter X T rfl (by rfl) (by simp only; omega) rfl (locs rfl) (fun h₁ F N => ?_))
  k_steps
  (try dsimp only)
  refine endI hQ (Fr.keep (by assumption)) ?_
  unfold rd32 rd16
  rw [show (k + 1).toNat = k.toNat + 1 by omega, show (k + 2).toNat = k.toNat + 2 by omega, show (k + 3).toNat = k.toNat + 2 + 1 by omega]
  omega

end

theorem words_05_1 : True := by
  (k_with "mroom" => (first | (dsimp only; omega) | decide))
  (k_with "mdone" => ((intro vzq hzq nzq hpzq Fzq Nzq stzq; obtain ⟨uzq, ezq⟩ := hpzq; subst ezq; (try dsimp only at Nzq); (try dsimp only at Fzq); (try k_sweep))))
  (k_with "call ref" => ((k_here; (with_reducible show wpAny _ _ (call (Value.ref 53) _) _ _ _); k_dflt (refine' Gives.use (g_u16 (by k_extra "mK") (by k_extra "mT") (by k_extra "mroom") (by k_extra "mside") (by k_extra "mside") (by k_extra "mside")) (by k_asm) (by k_asm) ?_); k_extra "mdone")))
  (k_with "call ref" => ((k_here; (with_reducible show wpAny _ _ (call (Value.ref 67) _) _ _ _); k_dflt (refine' Gives.use (g_put16 (by k_extra "mK") (by k_extra "mT") (by k_extra "mroom") (by k_extra "mside")) (by k_asm) (by k_asm) ?_); k_extra "mdone")))
  (k_with "call ref" => ((k_here; (with_reducible show wpAny _ _ (call (Value.ref 81) _) _ _ _); k_dflt (refine' Gives.use (g_part_of (by k_extra "mK") (by k_extra "mT") (by k_extra "mroom") (by k_extra "mside") (by k_extra "mside") (by k_extra "mside") (by k_extra "mside")) (by k_asm) (by k_asm) ?_); k_extra "mdone")))
  (k_with "call ref" => ((k_here; (with_reducible show wpAny _ _ (call (Value.ref 88) _) _ _ _); k_dflt (refine' Gives.use (g_filled (by k_extra "mK") (by k_extra "mT") (by k_extra "mroom") (by k_extra "mside")) (by k_asm) (by k_asm) ?_); k_extra "mdone")))
  (k_with "call ref" => ((k_here; (with_reducible show wpAny _ _ (call (Value.ref 191) _) _ _ _); k_dflt (refine' Gives.use (g_plain_head (by k_extra "mK") (by k_extra "mT") (by k_extra "mroom") (by k_extra "mside")) (by k_asm) (by k_asm) ?_); k_extra "mdone")))
  (k_with "call ref" => ((k_here; (with_reducible show wpAny _ _ (call (Value.ref 254) _) _ _ _); k_dflt (refine' Gives.use (g_law_number (by k_extra "mK") (by k_extra "mT") (by k_extra "mroom") (by k_extra "mside") (by k_extra "mside") (by k_extra "mside")) (by k_asm) (by k_asm) ?_); k_extra "mdone")))
  trivial

section
variable {w : World} {d u : Nat} {fr : Option (List Env)} {gs : Option (List Code)} {s : Shared} {p : Program} {loose : List Str} {mg mb : Str → Option Value}

set_option maxHeartbeats 4000000 in
theorem g_u32 {l : List UInt8} {t tk : Tok} {k : Int}
    (X : (hd.heap_1 w.params).In s.heap) (T : TopRead p loose mg mb s.heap) (hroom : d + 20 < recursionLimit) (hl : l.length ≤ 100000)
    (h0 : 0 ≤ k) (h1 : k + 4 ≤ (l.length : Int)) :
    Gives w ⟨none, d, fr, gs, u⟩ 60 [.bytes l.toArray t, .int k tk] s (fun v _ => ∃ u, v = .int (rd32 l k.toNat) u) := by
  intro E Q hQ
  refine wpAny_call (enter X T rfl (by rfl) (by simp only; omega) rfl (locs rfl) (fun h₁ F N => ?_))
  k_steps
  (try dsimp only)
  refine endI hQ (Fr.keep (by assumption)) ?_
  unfold rd32
  rw [show (k + 2).toNat = k.toNat + 2 by omega]

set_option maxHeartbeats 4000000 in
theorem g_put32 {tk : Tok} {k : Int}
    (X : (hd.heap_1 w.params).In s.heap) (T : TopRead p loose mg mb s.heap) (hroom : d + 20 < recursionLimit) (h0 : 0 ≤ k) :
    Gives w ⟨none, d, fr, gs, u⟩ 74 [.int k tk] s (fun v _ => ∃ u, v = .bytes (be32 k).toArray u) := by
  intro E Q hQ
  refine wpAny_call (enter X T rfl (by rfl) (by simp only; omega) rfl (locs rfl) (fun h₁ F N => ?_))
  k_steps
  (try dsimp only)
  refine endB hQ (Fr.keep (by assumption)) ?_
  rfl

theorem be16_len (n : Int) : (be16 n).length = 2 := rfl
theorem be32_len (n : Int) : (be32 n).length = 4 := rfl

end

section
variable {M : Model} {A : Around} {E : Value → Shared → Prop} {s : Shared} {K : Frag} {h₀ : Heap} {L a : Addr} {m mg mb : Str → Option Value} {cn : Str} {cs : Scope} {ccd : Value} {cl : List (Str × Addr)} {p : Program} {loose : List Str} {x : Str} {pos : Pos} {v : Value} {Q : Value → Shared → Prop}
/-- nameX_K, nameX_B with what falls soonest ahead -/
theorem nm_K (hk : cs.kind = .function) (hx : (envX cn cs L a ccd cl).kindOf x = some .globalImplicit) (F : Fr h₀ L s.heap m) (X : K.In h₀) (T : TopRead p loose mg mb h₀) (e : nsIn K mainGlobals x = some (some v)) (h : Q v s) (hd : (x == ("__debug__" : Str)) = false := by decide) :
    wpAny M A (eval (.Name x pos) (envX cn cs L a ccd cl)) Q E s := nameX_K F X T e h hk hx hd
theorem nm_L (hk : cs.kind = .function) (hx : (envX cn cs L a ccd cl).kindOf x = some .local) (F : Fr h₀ L s.heap m) (hv : m x = some v) (h : Q v s) (hd : (x == ("__debug__" : Str)) = false := by decide) :
    wpAny M A (eval (.Name x pos) (envX cn cs L a ccd cl)) Q E s := nameX_L F hv h hk hx hd
theorem nm_B (hk : cs.kind = .function) (hx : (envX cn cs L a ccd cl).kindOf x = some .globalImplicit) (F : Fr h₀ L s.heap m) (X : K.In h₀) (T : TopRead p loose mg mb h₀) (e : nsIn K mainGlobals x = some none) (hv : bootBuiltins x = some v) (hn : x ≠ "__name__") (h : Q v s) (hd : (x == ("__debug__" : Str)) = false := by decide) :
    wpAny M A (eval (.Name x pos) (envX cn cs L a ccd cl)) Q E s := nameX_B F X T e hv hn h hk hx hd
end
theorem words_06_1 : True := by
  (k_with "go" => (repeat' (first | (k_unfold; (try dsimp only)) | ((fail_if_success (with_reducible show wpAny _ _ (pyIter _) _ _ _)); (fail_if_success (with_reducible show Exists _)); (fail_if_success (with_reducible show wpAny _ _ (call (Value.ref 205) _) _ _ _)); (fail_if_success (with_reducible show wpAny _ _ (call (Value.ref 44) _) _ _ _)); (fail_if_success (with_reducible show wpAny _ _ (eval (Expr.ListComp _ _ _ _) _) _ _ _)); first | walk1 | (dsimp only; walk1)))))
  (k_with "exec Assign" => ((k_here; (with_reducible show wpAny _ _ (exec (Stmt.Assign [Expr.Name _ _] _ _) _) _ _ _); k_dflt (refine wpAny_Assign_Name ?_))))
  (k_with "exec Assign" => ((k_here; (with_reducible show wpAny _ _ (exec (Stmt.Assign [Expr.Tuple _ _ _] (Expr.Call _ _ _ _) _) _) _ _ _); k_dflt (refine Assign_Tuple ?_))))
  (k_with "call builtin:max" => ((k_here; (with_reducible show wpAny _ _ (call (Value.builtin "max") [Value.int _ _, Value.int _ _]) _ _ _); k_dflt (refine' max_two_N (by rfl) (by k_asm) (by k_asm) ?_); (intro hzq nzq Fzq Nzq; (try k_sweep)))))
  (k_with "eval Call" => ((k_here; (with_reducible show wpAny _ _ (eval (Expr.Call (Expr.Name _ _) _ [] _) _) _ _ _); k_dflt (refine Call_ ?_))))
  (k_with "spliced" => ((k_here; k_dflt (first | refine spliced_more ?_ | refine spliced_none ?_))))
  (k_with "eval Name" => ((k_here; k_dflt (first
  | ((with_reducible show wpAny _ _ (eval _ (envOf _ _ _ _ _)) _ _ _); refine' ld (by k_asm) (by first | exact rfl | assumption) ?_; k_whole)
  | ((first | (with_reducible show wpAny _ _ (eval _ (envOf _ _ _ _ _)) _ _ _) | (with_reducible show wpAny _ _ (eval _ (envOfC _ _ _ _ _)) _ _ _)); (first
    | (refine' nm_L (by rfl) (by rfl) (by k_asm) (by first | exact rfl | assumption) ?_; k_whole)
    | (refine' nm_K (by rfl) (by rfl) (by k_asm) (by k_asm) (by k_asm) (by k_is) ?_; k_whole)
    | (refine' nm_B (by rfl) (by rfl) (by k_asm) (by k_asm) (by k_asm) (by k_is) (by boot_fast) (by decide) ?_; k_whole)))))))
  trivial

/-- entering a def whose body never raises -/
theorem enterF {prog : Program} {w : World} {A : Around} {s : Shared} {p : Program} {loose : List Str} {mg mb : Str → Option Value} {K : Frag}
    {R : Result → Shared → Prop} {name qual : Str} {params : Arguments} {body : List Stmt} {scope : Scope} {dV kV doc pm cdv ct oc : Value} {an od : Option Addr} {osl : Array (Option Value)} {f : Addr} {args : Args} (binds : List (Str × Value))
    (X : K.In s.heap) (T : TopRead p loose mg mb s.heap)
    (ho : K.lookup f = some ⟨oc, od, .func (fnOf name qual params body scope dV kV doc pm an cdv ct), osl⟩) (hcd : codeIn K cdv qual = true) (hroom : A.depth < recursionLimit)
    (hbind : bindArgs (fnOf name qual params body scope dV kV doc pm an cdv ct) args = pure binds) (hloc : ∀ y ∈ binds, scope.names.lookup y.1 = some .local)
    (h : ∀ h₁ n, Fr s.heap s.heap.objs.size h₁ (fun y => binds.reverse.lookup y) → News s.heap s.heap.objs.size h₁ [] →
      wpAny (model prog w) (A.deeper (envOf qual scope s.heap.objs.size f cdv)) (execs body (envOf qual scope s.heap.objs.size f cdv))
        (fun fl s' => R (.ok (.ret (match fl with | .ret v => v | _ => .none))) s') (fun _ _ => False)
        { s with heap := h₁, toks := n })
    (hco : scope.isCoroutine = false := by rfl) (hgen : scope.isGenerator = false := by rfl) (hk : scope.kind = .function := by rfl)
    (hcell : ∀ x ∈ scope.names, x.2 ≠ .cell := by decide) : codeAny (model prog w) A (.call (.ref f) args) R s :=
  enter X T ho hcd hroom hbind hloc (fun h₁ F N => wpAny_mono (h h₁ _ F N) (fun _ _ x => x) fun _ _ x => x.elim) hco hgen hk hcell

/-- what a turn of a loop must come to -/
noncomputable def TurnEnd (h₀ : Heap) (L : Addr) (own : List (Addr × Obj)) (fp : List Addr) (J : (Str → Option Value) → List (Addr × Obj) → Prop) (s₁ : Shared) (Q : Flow → Shared → Prop) (f : Flow) (s' : Shared) : Prop :=
  match f with
  | .ret v => Q (.ret v) s'
  | .brk => Q .next s'
  | _ => ∃ h' tk m' news', s' = { s₁ with heap := h', toks := tk } ∧ Fr h₀ L h' m' ∧ News h₀ L h' (news' ++ own) ∧ (∀ p ∈ news', p.1 ∉ fp) ∧ J m' news'
theorem TurnEnd.intro {h₀ : Heap} {L : Addr} {own : List (Addr × Obj)} {fp : List Addr} {J : (Str → Option Value) → List (Addr × Obj) → Prop} {s₁ : Shared} {Q : Flow → Shared → Prop} {h' : Heap} {tk : Nat} {m' : Str → Option Value} (news' : List (Addr × Obj))
    (F : Fr h₀ L h' m') (N : News h₀ L h' (news' ++ own)) (hf : ∀ p ∈ news', p.1 ∉ fp) (hJ : J m' news') : TurnEnd h₀ L own fp J s₁ Q .next { s₁ with heap := h', toks := tk } :=
  ⟨h', tk, m', news', rfl, F, N, hf, hJ⟩
theorem TurnEnd.introC {h₀ : Heap} {L : Addr} {own : List (Addr × Obj)} {fp : List Addr} {J : (Str → Option Value) → List (Addr × Obj) → Prop} {s₁ : Shared} {Q : Flow → Shared → Prop} {h' : Heap} {tk : Nat} {m' : Str → Option Value} (news' : List (Addr × Obj))
    (F : Fr h₀ L h' m') (N : News h₀ L h' (news' ++ own)) (hf : ∀ p ∈ news', p.1 ∉ fp) (hJ : J m' news') : TurnEnd h₀ L own fp J s₁ Q .cont { s₁ with heap := h', toks := tk } :=
  ⟨h', tk, m', news', rfl, F, N, hf, hJ⟩

theorem news_app {h₀ h : Heap} {L : Addr} {a b : List (Addr × Obj)} (x : News h₀ L h (a ++ b)) : News h₀ L h (b ++ a) := fun p hp => x p (by
  rcases List.mem_append.mp hp with q | q
  · exact List.mem_append_right _ q
  · exact List.mem_append_left _ q)
theorem news_left {h₀ h : Heap} {L : Addr} {a b : List (Addr × Obj)} (x : News h₀ L h (a ++ b)) : News h₀ L h a := fun p hp => x p (List.mem_append_left _ hp)
theorem news_right {h₀ h : Heap} {L : Addr} {a b : List (Addr × Obj)} (x : News h₀ L h (a ++ b)) : News h₀ L h b := fun p hp => x p (List.mem_append_right _ hp)

section
variable {prog : Program} {w : World} {A : Around} {E : Value → Shared → Prop} {s : Shared} {env : Env} {h₀ : Heap} {x : Str} {body : List Stmt} {Q : Flow → Shared → Prop}

/-- a loop by an invariant over the turn's number, the frame's names and the ledger -/
theorem loopV {I : Addr} {fp wr : List Addr} {n : Nat} {P : Nat → Value → Prop} {St : Nat → Heap → Prop} {m₀ : Str → Option Value} {news : List (Addr × Obj)} (W : Walks prog w A I fp wr n P St)
    (hst : St 0 s.heap) (hlive : ∀ i h, St i h → ∀ b ∈ fp, ∃ o, h.get? b = some o) (hLf : env.locals ∉ fp) (hwr : ∀ b ∈ wr, h₀.get? b = none) (hnw : ∀ p ∈ news, p.1 ∉ fp)
    (F : Fr h₀ env.locals s.heap m₀) (N : News h₀ env.locals s.heap news) (J : Nat → (Str → Option Value) → List (Addr × Obj) → Prop) (hJ : J 0 m₀ news)
    (turn : ∀ i v m₁ news₁ h tk own, i < n → P i v → J i m₁ news₁ → (∀ p ∈ news₁, p.1 ∉ fp) → (∀ q ∈ own, q.1 ∈ fp) → (∀ b ∈ fp, h₀.get? b = none → ∃ o, (b, o) ∈ own) → Fr h₀ env.locals h (fun y => if y = x then some v else m₁ y) → News h₀ env.locals h (news₁ ++ own) →
      wpAny (model prog w) A (execs body env) (TurnEnd h₀ env.locals own fp (J (i + 1)) { s with heap := h, toks := tk } Q) E { s with heap := h, toks := tk })
    (done : ∀ h tk m₁ news₁, J n m₁ news₁ → Fr h₀ env.locals h m₁ → News h₀ env.locals h news₁ → Q .next { s with heap := h, toks := tk }) :
    LoopAtV prog w A h₀ env x body Q E (.ref I) s := by
  refine ⟨I, fp, wr, n, P, St, m₀, news, fun i m₁ news₁ => (∀ p ∈ news₁, p.1 ∉ fp) ∧ J i m₁ news₁, rfl, W, hLf, hwr, fun p hp hq => hnw p hp (W.sub _ hq), hst, F, N, ⟨hnw, hJ⟩, ?_, ?_⟩
  · rintro i v m₁ news₁ s₁ own ⟨h, tk, rfl⟩ hi hP ⟨hfp, hJ₁⟩ hnw₁ hown _ hall hst₁ F₁ N₁
    refine wpAny_mono (turn i v m₁ news₁ h tk own hi hP hJ₁ hfp hown (fun b hb hn => let ⟨o, ho⟩ := hlive _ _ hst₁ b hb; ⟨o, hall b hb hn o ho⟩) F₁ (news_app N₁)) (fun f s₂ hf => ?_) fun _ _ e => e
    have fin : (∃ h' tk' m' news', s₂ = { ({ s with heap := h, toks := tk } : Shared) with heap := h', toks := tk' } ∧ Fr h₀ env.locals h' m' ∧ News h₀ env.locals h' (news' ++ own) ∧ (∀ p ∈ news', p.1 ∉ fp) ∧ J (i + 1) m' news') →
        LoopStepU h₀ env.locals wr own (fun m₁ news₁ => (∀ p ∈ news₁, p.1 ∉ fp) ∧ J (i + 1) m₁ news₁) { s with heap := h, toks := tk } .next s₂ := by
      rintro ⟨h', tk', m', news', e, F', N', hf', hJ'⟩
      exact ⟨rfl, h', tk', m', news', e, F', news_app N', fun p hp hq => hf' p hp (W.sub _ hq), hf', hJ'⟩
    cases f with
    | ret v => exact .ret hf
    | brk => exact .brk hf
    | next => exact .next (fin hf)
    | cont => exact .cont (fin hf)
  · rintro h' tk m' news' F' N' _ ⟨_, hJ'⟩
    exact done h' tk m' news' hJ' F' N'

theorem fresh_next {h : Heap} {L : Addr} {m : Str → Option Value} (F : Fr h₀ L h m) : h₀.get? h.objs.size = none := by
  cases q : h₀.get? h.objs.size with
  | none => rfl
  | some o => exact absurd (Heap.lt_size (F.keep _ _ q)) (Nat.lt_irrefl _)

theorem forRange {r : Addr} {a₀ b₀ c₀ : Int} {t₀ u₀ v₀ : Tok} {n : Nat} {m₀ : Str → Option Value} {news : List (Addr × Obj)} (hh : A.handled = none) (hr : IsRange s.heap r a₀ b₀ c₀ t₀ u₀ v₀) (hsmall : Builtin.Range.small a₀ b₀ c₀ = true) (hn : Builtin.Range.rangeSize a₀ b₀ c₀ = (n : Int))
    (F : Fr h₀ env.locals s.heap m₀) (N : News h₀ env.locals s.heap news) (J : Nat → (Str → Option Value) → List (Addr × Obj) → Prop) (hJ : J 0 m₀ news)
    (turn : ∀ (i : Nat) t m₁ news₁ h tk own, i < n → J i m₁ news₁ → (∀ p ∈ news₁, p.1 ∉ [s.heap.objs.size]) → (∀ q ∈ own, q.1 ∈ [s.heap.objs.size]) → (∃ o, (s.heap.objs.size, o) ∈ own) → Fr h₀ env.locals h (fun y => if y = x then some (.int (a₀ + i * c₀) t) else m₁ y) → News h₀ env.locals h (news₁ ++ own) →
      wpAny (model prog w) A (execs body env) (TurnEnd h₀ env.locals own [s.heap.objs.size] (J (i + 1)) { s with heap := h, toks := tk } Q) E { s with heap := h, toks := tk })
    (done : ∀ h tk m₁ news₁, J n m₁ news₁ → Fr h₀ env.locals h m₁ → News h₀ env.locals h news₁ → Q .next { s with heap := h, toks := tk }) :
    wpAny (model prog w) A (pyIter (.ref r)) (fun it s₂ => LoopAtV prog w A h₀ env x body Q E it s₂) E s := by
  refine wpAny_pyIter_range hr hsmall ?_
  refine loopV (Walks.range hh s.heap.objs.size a₀ c₀ n) (by show IsRangeIter _ _ _ _ _; rw [hn]; simpa using Heap.get?_push_size _ rfl)
    (fun i h st b hb => by rw [List.mem_singleton.mp hb]; exact ⟨_, st⟩) (fun hm => absurd F.ns.lt ((List.mem_singleton.mp hm) ▸ Nat.lt_irrefl _)) (fun b hb => by rw [List.mem_singleton.mp hb]; exact fresh_next F)
    (fun p hp hI => absurd (Heap.lt_size (N p hp).1) ((List.mem_singleton.mp hI) ▸ Nat.lt_irrefl _)) (F.push _) (N.pushKeep _) J hJ ?_ done
  rintro i v m₁ news₁ h tk own hi ⟨t, rfl⟩ hJ₁ hf ho hs F₁ N₁
  exact turn i t m₁ news₁ h tk own hi hJ₁ hf ho (hs _ (.head _) (fresh_next F)) F₁ N₁

theorem forList {l : Addr} {vs : List Value} {m₀ : Str → Option Value} {news : List (Addr × Obj)} (hh : A.handled = none) (hl : s.heap.IsList l vs.toArray) (hlL : l ≠ env.locals)
    (F : Fr h₀ env.locals s.heap m₀) (N : News h₀ env.locals s.heap news) (hnl : ∀ p ∈ news, p.1 ≠ l) (J : Nat → (Str → Option Value) → List (Addr × Obj) → Prop) (hJ : J 0 m₀ news)
    (turn : ∀ (i : Nat) v m₁ news₁ h tk own, vs[i]? = some v → J i m₁ news₁ → (∀ p ∈ news₁, p.1 ∉ [s.heap.objs.size, l]) → (∀ q ∈ own, q.1 ∈ [s.heap.objs.size, l]) → (∀ b ∈ [s.heap.objs.size, l], h₀.get? b = none → ∃ o, (b, o) ∈ own) → Fr h₀ env.locals h (fun y => if y = x then some v else m₁ y) → News h₀ env.locals h (news₁ ++ own) →
      wpAny (model prog w) A (execs body env) (TurnEnd h₀ env.locals own [s.heap.objs.size, l] (J (i + 1)) { s with heap := h, toks := tk } Q) E { s with heap := h, toks := tk })
    (done : ∀ h tk m₁ news₁, J vs.length m₁ news₁ → Fr h₀ env.locals h m₁ → News h₀ env.locals h news₁ → Q .next { s with heap := h, toks := tk }) :
    wpAny (model prog w) A (pyIter (.ref l)) (fun it s₂ => LoopAtV prog w A h₀ env x body Q E it s₂) E s := by
  have hlt : l < s.heap.objs.size := let ⟨_, ho, _⟩ := hl; Heap.lt_size ho
  have hne : l ≠ s.heap.objs.size := Nat.ne_of_lt hlt
  refine wpAny_pyIter_list hl ?_
  have W := Walks.list (prog := prog) (w := w) hh s.heap.objs.size l hne vs.toArray
  rw [List.size_toArray] at W
  refine loopV W ⟨⟨_, Heap.get?_push_size _ rfl, rfl, rfl⟩, hl.at fun o e => Heap.get?_push_of_some _ e⟩
    (fun i h st b hb => ?_) (fun hm => ?_) (fun b hb => by rw [List.mem_singleton.mp hb]; exact fresh_next F)
    (fun p hp hI => ?_) (F.push _) (N.pushKeep _) J hJ ?_ done
  · rcases List.mem_cons.mp hb with rfl | hb
    · obtain ⟨o, ho, _⟩ := st.1; exact ⟨o, ho⟩
    · rw [List.mem_singleton.mp hb]; obtain ⟨o, ho, _⟩ := st.2; exact ⟨o, ho⟩
  · rcases List.mem_cons.mp hm with e | hm
    · exact absurd F.ns.lt (e ▸ Nat.lt_irrefl _)
    · exact hlL (List.mem_singleton.mp hm).symm
  · rcases List.mem_cons.mp hI with e | hm
    · exact absurd (Heap.lt_size (N p hp).1) (e ▸ Nat.lt_irrefl _)
    · exact hnl p hp (List.mem_singleton.mp hm)
  rintro i v m₁ news₁ h tk own hi hP hJ₁ hf ho hs F₁ N₁
  exact turn i v m₁ news₁ h tk own (by simpa using hP) hJ₁ hf ho hs F₁ N₁

theorem forBytes {l : List UInt8} {tb : Tok} {m₀ : Str → Option Value} {news : List (Addr × Obj)} (hh : A.handled = none)
    (F : Fr h₀ env.locals s.heap m₀) (N : News h₀ env.locals s.heap news) (J : Nat → (Str → Option Value) → List (Addr × Obj) → Prop) (hJ : J 0 m₀ news)
    (turn : ∀ (i : Nat) t m₁ news₁ h tk own, i < l.length → J i m₁ news₁ → (∀ p ∈ news₁, p.1 ∉ [s.heap.objs.size]) → (∀ q ∈ own, q.1 ∈ [s.heap.objs.size]) → (∃ o, (s.heap.objs.size, o) ∈ own) → Fr h₀ env.locals h (fun y => if y = x then some (.int (b8 l i) t) else m₁ y) → News h₀ env.locals h (news₁ ++ own) →
      wpAny (model prog w) A (execs body env) (TurnEnd h₀ env.locals own [s.heap.objs.size] (J (i + 1)) { s with heap := h, toks := tk } Q) E { s with heap := h, toks := tk })
    (done : ∀ h tk m₁ news₁, J l.length m₁ news₁ → Fr h₀ env.locals h m₁ → News h₀ env.locals h news₁ → Q .next { s with heap := h, toks := tk }) :
    wpAny (model prog w) A (pyIter (.bytes l.toArray tb)) (fun it s₂ => LoopAtV prog w A h₀ env x body Q E it s₂) E s := by
  refine KBw.pyIter_bytes ?_
  have W := KBw.walks (prog := prog) (w := w) hh s.heap.objs.size l.toArray tb
  rw [List.size_toArray] at W
  refine loopV W ⟨_, Heap.get?_push_size _ rfl, rfl, rfl⟩
    (fun i h st b hb => by rw [List.mem_singleton.mp hb]; obtain ⟨o, ho, _⟩ := st; exact ⟨o, ho⟩) (fun hm => absurd F.ns.lt ((List.mem_singleton.mp hm) ▸ Nat.lt_irrefl _)) (fun b hb => by rw [List.mem_singleton.mp hb]; exact fresh_next F)
    (fun p hp hI => absurd (Heap.lt_size (N p hp).1) ((List.mem_singleton.mp hI) ▸ Nat.lt_irrefl _)) (F.push _) (N.pushKeep _) J hJ ?_ done
  rintro i v m₁ news₁ h tk own hi ⟨c, t, hc, rfl⟩ hJ₁ hf ho hs F₁ N₁
  have hc' : b8 l i = (c.toNat : Int) := by
    have : l[i]? = some c := by simpa using hc
    unfold b8; rw [List.getD_eq_getElem?_getD, this]; rfl
  rw [← hc'] at F₁
  exact turn i t m₁ news₁ h tk own hi hJ₁ hf ho (hs _ (.head _) (fresh_next F)) F₁ N₁
end

section
variable {prog : Program} {w : World} {A : Around} {E : Value → Shared → Prop} {s : Shared} {h₀ : Heap} {L : Addr} {news : List (Addr × Obj)} {Q : Value → Shared → Prop}
theorem list4 : ∀ {y : List UInt8}, y.length = 4 → ∃ a b c e, y = [a, b, c, e]
  | [a, b, c, e], _ => ⟨a, b, c, e, rfl⟩
theorem b_from4 {x : Addr} {y : List UInt8} {t u : Tok} (N : News h₀ L s.heap news) (hm : (x, KFB.bound) ∈ news) (hl : y.length = 4)
    (h : ∀ t' k, Q (.int (rd32 y 0) t') { s with toks := k }) : wpAny (model prog w) A (call (.ref x) [.bytes y.toArray t, .str (PySem.Str.ofString "big") u]) Q E s := by
  refine KFB.call_big N hm rfl (by rw [KBw.ints_length, List.size_toArray]; omega) fun t' k => ?_
  have e : KFB.value (KBw.bInts y.toArray) = rd32 y 0 := by
    obtain ⟨a, b, c, e, rfl⟩ := list4 hl
    show ((((0 * 256 + (a.toNat : Int)) * 256 + (b.toNat : Int)) * 256 + (c.toNat : Int)) * 256 + (e.toNat : Int)) = ((a.toNat : Int) * 256 + (b.toNat : Int)) * 65536 + ((c.toNat : Int) * 256 + (e.toNat : Int))
    omega
  rw [e]; exact h t' k
end
theorem b8_cut (l : List UInt8) (k z i : Nat) (h : i < z) : b8 ((l.take (k + z)).drop k) i = b8 l (k + i) := by
  unfold b8
  rw [List.getD_eq_getElem?_getD, List.getD_eq_getElem?_getD, List.getElem?_drop, List.getElem?_take, if_pos (by omega)]
theorem rd16_cut (l : List UInt8) (k z i : Nat) (h : i + 2 ≤ z) : rd16 ((l.take (k + z)).drop k) i = rd16 l (k + i) := by
  unfold rd16; rw [b8_cut _ _ _ _ (by omega), b8_cut _ _ _ _ (by omega)]; rfl
theorem rd32_cut (l : List UInt8) (k z i : Nat) (h : i + 4 ≤ z) : rd32 ((l.take (k + z)).drop k) i = rd32 l (k + i) := by
  unfold rd32; rw [rd16_cut _ _ _ _ (by omega), rd16_cut _ _ _ _ (by omega)]; rfl
theorem b8_0 (l : List UInt8) (k : Nat) : 0 ≤ b8 l k ∧ b8 l k < 256 := ⟨b8_lo l k, b8_hi l k⟩
theorem rd16_b (l : List UInt8) (k : Nat) : 0 ≤ rd16 l k ∧ rd16 l k < 65536 := by have := b8_0 l k; have := b8_0 l (k + 1); unfold rd16; omega
theorem rd32_b (l : List UInt8) (k : Nat) : 0 ≤ rd32 l k ∧ rd32 l k < 4294967296 := by have := rd16_b l k; have := rd16_b l (k + 2); unfold rd32; omega

theorem range_small {a b c : Int} (ha : -1000000 ≤ a ∧ a ≤ 1000000) (hb : -1000000 ≤ b ∧ b ≤ 1000000) (hc : 1 ≤ c ∧ c ≤ 1000000) : Builtin.Range.small a b c = true := by
  have h : 0 ≤ Builtin.Range.rangeSize a b c ∧ Builtin.Range.rangeSize a b c ≤ 2000001 := by
    unfold Builtin.Range.rangeSize
    rw [if_pos (by omega)]
    split
    · have h0 : 0 ≤ (b - a - 1) / c := Int.ediv_nonneg (by omega) (by omega)
      have h1 : (b - a - 1) / c ≤ b - a - 1 := Int.ediv_le_self _ (by omega)
      omega
    · omega
  unfold Builtin.Range.small
  obtain ⟨h1, h2⟩ := h
  generalize Builtin.Range.rangeSize a b c = n at h1 h2
  rw [if_pos (show c > 0 by omega)]
  simp only [Builtin.Range.rangeFitsLong, Bool.and_eq_true, Bool.or_eq_true, decide_eq_true_eq, beq_iff_eq]
  omega
theorem range_four (n : Nat) (h : n % 4 = 0) : Builtin.Range.rangeSize 0 n 4 = ((n / 4 : Nat) : Int) := by
  unfold Builtin.Range.rangeSize
  rw [if_pos (by omega)]
  split <;> omega

theorem words_07_1 : True := by
  (k_with "call ref" => ((k_here; (with_reducible show wpAny _ _ (call (Value.ref _) [Value.bytes (List.toArray _) _, Value.str _ _]) _ _ _); k_dflt (refine' b_from4 (by k_asm) (by k_mem) (by k_extra "mside") ?_); intro _ _)))
  trivial
noncomputable def w32 : Int := 4294967296
/-- the sum of a table: words of four octets -/
noncomputable def wsum (l : List UInt8) : Nat → Int
  | 0 => 0
  | k + 1 => wsum l k + rd32 l (4 * k)
noncomputable def sumO (l : List UInt8) : Int := wsum (fil l) ((fil l).length / 4) % w32

theorem exI {a b : Int} {t : Tok} {o : Option Value} (h : o = some (.int a t)) (e : a = b) : ∃ t, o = some (.int b t) := ⟨t, by rw [h, e]⟩
theorem exB {a b : List UInt8} {t : Tok} {o : Option Value} (h : o = some (.bytes a.toArray t)) (e : a = b) : ∃ t, o = some (.bytes b.toArray t) := ⟨t, by rw [h, e]⟩
theorem exS {a b : Str} {t : Tok} {o : Option Value} (h : o = some (.str a t)) (e : a = b) : ∃ t, o = some (.str b t) := ⟨t, by rw [h, e]⟩
theorem fil_len (l : List UInt8) : (fil l).length = l.length + (4 - l.length % 4) % 4 := by unfold fil; rw [List.length_append, List.length_replicate]
theorem fil_le (l : List UInt8) : (fil l).length ≤ l.length + 3 := by rw [fil_len]; omega
theorem fil_mod (l : List UInt8) : (fil l).length % 4 = 0 := by rw [fil_len]; omega

section
variable {w : World} {d u : Nat} {fr : Option (List Env)} {gs : Option (List Code)} {s : Shared} {p : Program} {loose : List Str} {mg mb : Str → Option Value}

set_option maxHeartbeats 4000000 in
theorem g_sum_of {l : List UInt8} {t : Tok}
    (X : (hd.heap_1 w.params).In s.heap) (T : TopRead p loose mg mb s.heap) (hroom : d + 20 < recursionLimit) (hl : l.length ≤ 90000) :
    Gives w ⟨none, d, fr, gs, u⟩ 95 [.bytes l.toArray t] s (fun v _ => ∃ u, v = .int (sumO l) u) := by
  intro E Q hQ
  have hfl := fil_le l
  have hfm := fil_mod l
  refine wpAny_call (enterF [("octets", .bytes l.toArray t)] X T rfl (by rfl) (by simp only; omega) rfl (locs rfl) (fun h₁ n F N => ?_))
  k_extra "go"
  rename IsRange _ _ _ _ _ _ _ _ => hR
  refine forRange (n := (fil l).length / 4) rfl hR ?_ ?_ (by assumption) (by assumption) (fun i m news => (∃ tw, m "whole" = some (.bytes (fil l).toArray tw)) ∧ (∃ tt, m "total" = some (.int (wsum (fil l) i) tt)) ∧ news = []) ⟨⟨_, rfl⟩, ⟨_, rfl⟩, rfl⟩ ?_ ?_
  · exact range_small (by omega) (by omega) (by omega)
  · exact range_four _ hfm
  · rintro i t₁ m₁ news₁ h tk own hi ⟨⟨tw, hw⟩, ⟨tt, ht⟩, rfl⟩ - - - F₁ N₁
    k_sweep
    k_extra "go"
    refine' TurnEnd.intro [] ?_ ?_ ?_ ?_
    rotate_left
    · assumption
    · exact news_right (a := [_]) (by assumption)
    · exact fun _ h => nomatch h
    · refine ⟨⟨_, hw⟩, exI rfl ?_, rfl⟩
      show _ = wsum (fil l) i + rd32 (fil l) (4 * i)
      rw [show ((0 : Int) + (i : Int) * 4 + 4).toNat = 4 * i + 4 by omega, show ((0 : Int) + (i : Int) * 4).toNat = 4 * i by omega, rd32_cut _ _ _ _ (by omega)]
      rfl
  · rintro h tk m₁ news₁ ⟨⟨tw, hw⟩, ⟨tt, ht⟩, rfl⟩ F₁ N₁
    k_sweep
    k_extra "go"
    (try dsimp only)
    refine endI hQ (Fr.keep (by assumption)) ?_
    rfl
end

noncomputable def strOf (l : List UInt8) : Str := ⟨(l.map (·.toNat)).toArray⟩
theorem strOf_app (a b : List UInt8) : strOf (a ++ b) = strOf a ++ strOf b := by
  show (⟨((a ++ b).map (·.toNat)).toArray⟩ : Str) = ⟨(a.map (·.toNat)).toArray ++ (b.map (·.toNat)).toArray⟩
  rw [List.map_append, List.append_toArray]
theorem s_add {prog : Program} {w : World} {A : Around} {E : Value → Shared → Prop} {s : Shared} {x y : Str} {t u : Tok} {Q : Value → Shared → Prop} (hsz : x.cps.size + y.cps.size ≤ 100000) (h : ∀ t' tk, Q (.str (x ++ y) t') { s with toks := tk }) :
    wpAny (model prog w) A (binaryOp .Add (.str x t) (.str y u)) Q E s := PyProof.Rows.add_str h (by rw [sizeLine_eq]; show x.cps.size + y.cps.size ≤ 16777216; omega)

theorem words_08_1 : True := by
  (k_with "msstr" => (first | assumption | (simp only [strOf, List.size_toArray, List.length_map, List.length_append, List.length_take, List.length_drop, List.length_cons, List.length_nil]; omega) | decide))
  (k_with "binaryOp Add str str" => ((k_here; (with_reducible show wpAny _ _ (binaryOp Operator.Add (Value.str _ _) (Value.str _ _)) _ _ _); (refine s_add (by k_extra "msstr") ?_); intro _ _)))
  (k_with "call ref" => ((k_here; (with_reducible show wpAny _ _ (call (Value.ref 60) _) _ _ _); k_dflt (refine' Gives.use (g_u32 (by k_extra "mK") (by k_extra "mT") (by k_extra "mroom") (by k_extra "mside") (by k_extra "mside") (by k_extra "mside")) (by k_asm) (by k_asm) ?_); k_extra "mdone")))
  (k_with "call ref" => ((k_here; (with_reducible show wpAny _ _ (call (Value.ref 74) _) _ _ _); k_dflt (refine' Gives.use (g_put32 (by k_extra "mK") (by k_extra "mT") (by k_extra "mroom") (by k_extra "mside")) (by k_asm) (by k_asm) ?_); k_extra "mdone")))
  (k_with "call ref" => ((k_here; (with_reducible show wpAny _ _ (call (Value.ref 95) _) _ _ _); k_dflt (refine' Gives.use (g_sum_of (by k_extra "mK") (by k_extra "mT") (by k_extra "mroom") (by k_extra "mside")) (by k_asm) (by k_asm) ?_); k_extra "mdone")))
  trivial
section
variable {w : World} {d u : Nat} {fr : Option (List Env)} {gs : Option (List Code)} {s : Shared} {p : Program} {loose : List Str} {mg mb : Str → Option Value}

set_option maxHeartbeats 4000000 in
theorem g_tag_of {l : List UInt8} {t tk : Tok} {k : Int}
    (X : (hd.heap_1 w.params).In s.heap) (T : TopRead p loose mg mb s.heap) (hroom : d + 20 < recursionLimit) (hl : l.length ≤ 90000)
    (h0 : 0 ≤ k) (h1 : k + 4 ≤ (l.length : Int)) (hg : ∀ i, i < 4 → 32 ≤ b8 (part l k.toNat 4) i ∧ b8 (part l k.toNat 4) i ≤ 126) :
    Gives w ⟨none, d, fr, gs, u⟩ 102 [.bytes l.toArray t, .int k tk] s (fun v _ => ∃ u, v = .str (strOf (part l k.toNat 4)) u) := by
  intro E Q hQ
  refine wpAny_call (enterF [("octets", .bytes l.toArray t), ("at", .int k tk)] X T rfl (by rfl) (by simp only; omega) rfl (locs rfl) (fun h₁ n F N => ?_))
  k_extra "go"
  have hpl : (part l k.toNat 4).length = 4 := by unfold part; rw [List.length_drop, List.length_take]; omega
  refine forBytes rfl (by assumption) (by assumption) (fun i m news => (∃ t, m "found" = some (.str (strOf ((part l k.toNat 4).take i)) t)) ∧ news = []) ⟨⟨_, rfl⟩, rfl⟩ ?_ ?_
  · rintro i t₁ m₁ news₁ h tk own hi ⟨⟨tw, hw⟩, rfl⟩ - - - F₁ N₁
    have hi4 : i < 4 := by rw [← hpl]; exact hi
    obtain ⟨hg1, hg2⟩ := hg i hi4
    change 32 ≤ b8 (part l k.toNat (Int.toNat 4)) i at hg1
    change b8 (part l k.toNat (Int.toNat 4)) i ≤ 126 at hg2
    k_sweep
    k_extra "go"
    refine' TurnEnd.intro [] ?_ ?_ ?_ ?_
    rotate_left
    · assumption
    · assumption
    · exact fun _ h => nomatch h
    · refine ⟨exS rfl ?_, rfl⟩
      rw [List.take_add_one, strOf_app]
      have e : (part l k.toNat 4)[i]? = some ((part l k.toNat 4).getD i 0) := by rw [List.getD_eq_getElem?_getD, List.getElem?_eq_getElem (by omega)]; rfl
      rw [e]
      rfl
  · rintro h tk m₁ news₁ ⟨⟨tw, hw⟩, rfl⟩ F₁ N₁
    k_sweep
    k_extra "go"
    (try dsimp only)
    refine endS hQ (Fr.keep (by assumption)) ?_
    rw [show (part l k.toNat (Int.toNat 4)).length = (part l k.toNat 4).length from rfl, List.take_length]
end

noncomputable def plT (tag : Str) (l : List UInt8) : List UInt8 := if tag == Str.ofString "head" then plainH l else l
noncomputable def sumT (tag : Str) (l : List UInt8) : Int := sumO (plT tag l)
theorem plainH_le (l : List UInt8) : (plainH l).length ≤ l.length + 12 := by
  unfold plainH; simp only [List.length_append, List.length_take, List.length_drop, List.length_replicate]; omega

section
variable {prog : Program} {w : World} {A : Around} {E : Value → Shared → Prop} {s : Shared} {value slice : PySem.Expr} {h₀ : Heap} {L : Addr} {m : PySem.Str → Option Value} {news : List (Addr × Obj)} {Q : Value → Shared → Prop}
theorem l_item {d : Addr} {o : Obj} {vs : List Value} {i : Int} {u : Tok} {v : Value} (k : Nat) (N : News h₀ L s.heap news) (hm : (d, o) ∈ news) (ho : o = listOf vs.toArray 0) (h0 : 0 ≤ i) (hi : i < 1000000) (e : i.toNat = k) (hx : vs[k]? = some v) (h : Q v s)
    (hs : subscripted slice false (.ref d) (.int i u) = operate [.ref d, .int i u] (getItem (.ref d) (.int i u)) := by with_unfolding_all rfl) :
    wpAny (model prog w) A (subscriptTail value slice (.ref d) (.int i u)) Q E s := by
  subst ho
  have hl : s.heap.IsList d vs.toArray := ⟨_, N.get hm, rfl, _, rfl⟩
  exact tail_any hl.typeIs slot_list_getitem.lookup (wpAny_getItem_list hl h0 (by omega) (by rw [e]; simpa using hx) h) hs
end

section
variable {w : World} {d u : Nat} {fr : Option (List Env)} {gs : Option (List Code)} {s : Shared} {p : Program} {loose : List Str} {mg mb : Str → Option Value}

set_option maxHeartbeats 4000000 in
theorem g_sum_of_table {tag : Str} {l : List UInt8} {t tt : Tok}
    (X : (hd.heap_1 w.params).In s.heap) (T : TopRead p loose mg mb s.heap) (hroom : d + 30 < recursionLimit) (hl : l.length ≤ 80000) :
    Gives w ⟨none, d, fr, gs, u⟩ 198 [.str tag tt, .bytes l.toArray t] s (fun v _ => ∃ u, v = .int (sumT tag l) u) := by
  intro E Q hQ
  have hpl := plainH_le l
  refine wpAny_call (enterF [("tag", .str tag tt), ("octets", .bytes l.toArray t)] X T rfl (by rfl) (by simp only; omega) rfl (locs rfl) (fun h₁ n F N => ?_))
  k_extra "go"
  · (try dsimp only)
    refine endI hQ (Fr.keep (by assumption)) ?_
    unfold sumT plT
    rw [if_pos (by assumption)]
  · (try dsimp only)
    refine endI hQ (Fr.keep (by assumption)) ?_
    unfold sumT plT
    rw [if_neg (Bool.eq_false_iff.mp (by assumption))]

set_option maxHeartbeats 4000000 in
theorem g_law_plain {tag : Str} {l : List UInt8} {t tt : Tok}
    (X : (hd.heap_1 w.params).In s.heap) (T : TopRead p loose mg mb s.heap) (hroom : d + 20 < recursionLimit) (hl : l.length ≤ 80000) :
    Gives w ⟨none, d, fr, gs, u⟩ 280 [.str tag tt, .bytes l.toArray t] s (fun v _ => ∃ u, v = .bytes (plT tag l).toArray u) := by
  intro E Q hQ
  refine wpAny_call (enterF [("tag", .str tag tt), ("octets", .bytes l.toArray t)] X T rfl (by rfl) (by simp only; omega) rfl (locs rfl) (fun h₁ n F N => ?_))
  k_extra "go"
  · (try dsimp only)
    refine endB hQ (Fr.keep (by assumption)) ?_
    unfold plT
    rw [if_pos (by assumption)]
    rfl
  · (try dsimp only)
    refine endB hQ (Fr.keep (by assumption)) ?_
    unfold plT
    rw [if_neg (Bool.eq_false_iff.mp (by assumption))]

end

noncomputable def pw4 (i : Nat) : Int := if i % 4 = 0 then 16777216 else if i % 4 = 1 then 65536 else if i % 4 = 2 then 256 else 1
noncomputable def lsum (l : List UInt8) : Nat → Int
  | 0 => 0
  | k + 1 => lsum l k + b8 l k * pw4 k

theorem pw4_b (i : Nat) : 0 ≤ pw4 i ∧ pw4 i ≤ 16777216 := by unfold pw4; (repeat' split) <;> omega
section
variable {prog : Program} {w : World} {A : Around} {E : Value → Shared → Prop} {s : Shared} {value slice : PySem.Expr} {h₀ : Heap} {L : Addr} {m : PySem.Str → Option Value} {news : List (Addr × Obj)} {Q : Value → Shared → Prop}
theorem l_item4 {d : Addr} {o : Obj} {t1 t2 t3 t4 : Tok} {i : Int} {u : Tok} (N : News h₀ L s.heap news) (hm : (d, o) ∈ news) (ho : o = listOf [Value.int 16777216 t1, Value.int 65536 t2, Value.int 256 t3, Value.int 1 t4].toArray 0) (h0 : 0 ≤ i)
    (h : ∀ t, Q (.int (pw4 i.toNat) t) s)
    (hs : subscripted slice false (.ref d) (.int (i % 4) u) = operate [.ref d, .int (i % 4) u] (getItem (.ref d) (.int (i % 4) u)) := by with_unfolding_all rfl) :
    wpAny (model prog w) A (subscriptTail value slice (.ref d) (.int (i % 4) u)) Q E s := by
  have key : ∃ t, [Value.int 16777216 t1, Value.int 65536 t2, Value.int 256 t3, Value.int 1 t4][(i % 4).toNat]? = some (.int (pw4 i.toNat) t) := by
    have h4 : i.toNat % 4 = 0 ∨ i.toNat % 4 = 1 ∨ i.toNat % 4 = 2 ∨ i.toNat % 4 = 3 := by omega
    unfold pw4
    rcases h4 with h4 | h4 | h4 | h4
    · rw [show (i % 4).toNat = 0 by omega, h4]; exact ⟨_, rfl⟩
    · rw [show (i % 4).toNat = 1 by omega, h4]; exact ⟨_, rfl⟩
    · rw [show (i % 4).toNat = 2 by omega, h4]; exact ⟨_, rfl⟩
    · rw [show (i % 4).toNat = 3 by omega, h4]; exact ⟨_, rfl⟩
  obtain ⟨t, e⟩ := key
  exact l_item (i % 4).toNat N hm ho (by omega) (by omega) rfl e (h t) hs
end
theorem words_10_1 : True := by
  (k_with "subscriptTail" => ((k_here; (with_reducible show wpAny _ _ (subscriptTail _ _ (Value.ref _) (Value.int (_ % 4) _)) _ _ _); k_dflt (refine' l_item4 (by k_asm) (by k_mem) (by rfl) (by k_extra "mside") ?_); intro _)))
  trivial
section
variable {w : World} {d u : Nat} {fr : Option (List Env)} {gs : Option (List Code)} {s : Shared} {p : Program} {loose : List Str} {mg mb : Str → Option Value}
set_option maxHeartbeats 1000000 in
theorem g_law_sum {l : List UInt8} {t : Tok}
    (X : (hd.heap_1 w.params).In s.heap) (T : TopRead p loose mg mb s.heap) (hroom : d + 20 < recursionLimit) (hl : l.length ≤ 80000) :
    Gives w ⟨none, d, fr, gs, u⟩ 261 [.bytes l.toArray t] s (fun v _ => ∃ u, v = .int (lsum l l.length % w32) u) := by
  intro E Q hQ
  refine wpAny_call (enterF [("octets", .bytes l.toArray t)] X T rfl (by rfl) (by simp only; omega) rfl (locs rfl) (fun h₁ n F N => ?_))
  k_extra "go"
  rename IsRange _ _ _ _ _ _ _ _ => hR
  refine forRange (n := l.length) rfl hR ?_ ?_ (by assumption) (by assumption) (fun i m news => m "octets" = some (.bytes l.toArray t) ∧ (∃ tt, m "total" = some (.int (lsum l i) tt)) ∧ news = []) ⟨rfl, ⟨_, rfl⟩, rfl⟩ ?_ ?_
  · exact range_small (by omega) (by omega) (by omega)
  · rw [PyProof.Rows.rangeSize_nat]; omega
  · rintro i t₁ m₁ news₁ h tk own hi ⟨hw, ⟨tt, ht⟩, rfl⟩ - - - F₁ N₁
    k_sweep
    have hpw := pw4_b ((0 : Int) + (i : Int) * 1).toNat
    k_extra "go"
    refine' TurnEnd.intro [] ?_ ?_ ?_ ?_
    rotate_left
    · assumption
    · exact news_right (a := [_]) (by assumption)
    · exact fun _ h => nomatch h
    · refine ⟨hw, exI rfl ?_, rfl⟩
      show _ = lsum l i + b8 l i * pw4 i
      rw [show ((0 : Int) + (i : Int) * 1).toNat = i by omega]
  · rintro h tk m₁ news₁ ⟨hw, ⟨tt, ht⟩, rfl⟩ F₁ N₁
    k_sweep
    k_extra "go"
    (try dsimp only)
    refine endI hQ (Fr.keep (by assumption)) ?_
    rw [Int.fmod_eq_emod_of_nonneg _ (by decide)]
    rfl
end

noncomputable def padS (tag : Str) : Str := ⟨(tag.cps.toList ++ List.replicate (4 - tag.cps.size) 32).toArray⟩
noncomputable def cpI (x : Str) : List Int := x.cps.toList.map fun (c : Nat) => (c : Int)
noncomputable def octS (x : Str) : List UInt8 := bl (cpI x)

section
variable {prog : Program} {w : World} {A : Around} {E : Value → Shared → Prop} {s : Shared} {K : Frag} {env : Env} {m mg mb : Str → Option Value} {p : Program} {loose : List Str} {x : Str} {pos : Pos} {v : Value} {Q : Value → Shared → Prop}
theorem nm_local (hk : env.scope.kind = .function) (hl : env.kindOf x = some .local) (hn : s.heap.Ns env.locals m) (hv : m x = some v) (h : Q v s) (hd : (x == ("__debug__" : Str)) = false := by decide) :
    wpAny (model prog w) A (eval (.Name x pos) env) Q E s := wpAny_Name (wpAny_loadName_local hk hl hn hv h) hd
theorem nm_glob (hg : env.globals = mainGlobals) (hk : env.scope.kind = .function) (hx : env.kindOf x = some .globalImplicit) (X : K.In s.heap) (T : TopRead p loose mg mb s.heap) (e : nsIn K mainGlobals x = some (some v)) (h : Q v s) (hd : (x == ("__debug__" : Str)) = false := by decide) :
    wpAny (model prog w) A (eval (.Name x pos) env) Q E s := Name_function_global hk hx (loadGlobal_global (by rw [hg]; exact T.g) (mg_of X T.g e) h) hd
theorem nm_boot (hg : env.globals = mainGlobals) (hb : env.builtins = builtinsNs) (hk : env.scope.kind = .function) (hx : env.kindOf x = some .globalImplicit) (X : K.In s.heap) (T : TopRead p loose mg mb s.heap) (e : nsIn K mainGlobals x = some none) (hv : bootBuiltins x = some v) (hn : x ≠ "__name__") (h : Q v s) (hd : (x == ("__debug__" : Str)) = false := by decide) :
    wpAny (model prog w) A (eval (.Name x pos) env) Q E s := Name_function_global hk hx (loadGlobal_builtin (by rw [hg]; exact T.g) (mg_none_of X T.g e) (by rw [hb]; exact T.b) ((T.builtins x hn).trans hv) h) hd
end
theorem words_11_1 : True := by
  (k_with "eval Name" => ((k_here; (with_reducible show wpAny _ _ (eval _ (compEnvC _ _ _ _)) _ _ _); k_dflt (first
  | (refine' nm_local (by rfl) (by rfl) (by assumption) (by first | exact rfl | assumption) ?_; k_whole)
  | (refine' nm_glob (by rfl) (by rfl) (by rfl) (by assumption) (by assumption) (by k_is) ?_; k_whole)
  | (refine' nm_boot (by rfl) (by rfl) (by rfl) (by rfl) (by assumption) (by assumption) (by k_is) (by boot_fast) (by decide) ?_; k_whole)))))
  trivial

theorem paired_ints {P : Nat → Value → Prop} {f : Value → Int} {vs ys : List Value} (h : Paired (fun v y => ∃ t, y = .int (f v) t) vs ys) : IntsAre ys (vs.map f) := by
  induction h with
  | nil => exact .nil
  | cons h _ ih => obtain ⟨t, rfl⟩ := h; exact .cons _ _ ih

section
variable {prog : Program} {w : World} {A : Around} {E : Value → Shared → Prop} {s : Shared} {env : Env}
/-- a list of ints out of a text's signs -/
theorem comp_str {elt iter : Expr} {x : Str} {px pos : Pos} {scope : Scope} {cl : List (Str × Addr)} {Q : Value → Shared → Prop} (f : Nat → Int) (hh : A.handled = none)
    (hclos : closureFor scope env = pure cl) (hcell : ∀ y ∈ scope.names, y.2 ≠ .cell) (hkind : scope.kind = .function)
    (hnames : ∀ y ∈ scope.names, y.2 = .local → scope.names.lookup y.1 = some .local) (hx : scope.names.lookup x = some .local)
    (h : wpAny (model prog w) A (eval iter env) (fun xv s₁ => ∃ z t, xv = .str z t ∧ z.cps.size ≤ 100000 ∧
      (∀ C c u (s₃ : Shared) m₃ E', c ∈ z.cps → s₃.heap.Ns C m₃ → m₃ x = some (.str ⟨#[c]⟩ u) → s₁.heap.StaysIn s₃.heap →
        wpAny (model prog w) A (eval elt (compEnvC scope cl C env)) (fun y s₄ => (∃ t, y = .int (f c) t) ∧ Keeps s₃ s₄) E' s₃) ∧
      (∀ D h' tk ys, s₁.heap.get? D = none → h'.IsList D (List.toArray ys) → IntsAre ys (z.cps.toList.map f) → s₁.heap.StaysIn h' → Q (.ref D) { s₁ with heap := h', toks := tk })) E s)
    (hs : ∀ x, foldedSetIterable iter env x = pure x := by intro _; rfl) :
    wpAny (model prog w) A (eval (.ListComp elt [⟨.Name x px, iter, [], 0⟩] scope pos) env) Q E s := by
  refine wpAny_ListComp_free (fun _ => true) (fun v y => ∃ t, y = .int ((fun v => match v with | .str z _ => f (z.cps.getD 0 0) | _ => 0) v) t) hclos hcell hkind hnames hx (wpAny_mono h (fun xv s₁ h₁ => ?_) fun _ _ e => e) hs
  obtain ⟨z, t, rfl, hz, hq, hQ⟩ := h₁
  refine wpAny_pyIter_str fun o St W st => ?_
  refine ⟨_, _, _, _, _, St, rfl, W A hh, by rw [sizeLine_eq]; omega, st, fun b hb => ?_, ⟨?_, ?_⟩, ?_⟩
  · rw [List.mem_singleton.mp hb]
    show s₁.heap.objs.size < (s₁.heap.push o).objs.size
    rw [Heap.size_push]; exact Nat.lt_succ_self _
  · intro C i v s₃ m₃ E' _ hP hn hm hk _
    exact wpAny_tests_nil ⟨rfl, s₃.heap, s₃.toks, rfl, fun _ _ e => e⟩
  · rintro C i v s₃ m₃ E' _ ⟨c, u, hc, rfl⟩ _ hn hm hk _
    refine wpAny_mono (hq C c u s₃ m₃ E' (Array.mem_of_getElem? hc) hn hm fun b o' e => hk b o' (fun hb => ?_) (Heap.get?_push_of_some _ e)) (fun y s₄ hy => hy) fun _ _ e => e
    exact absurd (Heap.lt_size e) (by rw [List.mem_singleton.mp hb]; exact Nat.lt_irrefl _)
  · intro D h' tk ys vs hD hl _ hlen hP hF hk
    have hys : ys = ys.toList.toArray := (Array.toArray_toList).symm
    rw [hys] at hl
    have hF' : Paired (fun v y => ∃ t, y = .int ((fun v => match v with | .str z _ => f (z.cps.getD 0 0) | _ => 0) v) t) vs ys.toList := by rwa [show vs.filter (fun _ => true) = vs from List.filter_eq_self.mpr (fun _ _ => rfl)] at hF
    have e : vs.map (fun v => match v with | .str z _ => f (z.cps.getD 0 0) | _ => 0) = z.cps.toList.map f := by
      apply List.ext_getElem?
      intro j
      rw [List.getElem?_map, List.getElem?_map]
      cases hv : vs[j]? with
      | none =>
        have : z.cps.size ≤ j := by rw [← hlen]; simpa using hv
        rw [List.getElem?_eq_none (by simpa using this)]; rfl
      | some v =>
        obtain ⟨c, u, hc, rfl⟩ := hP j v hv
        have hc' : z.cps.toList[j]? = some c := by simpa using hc
        rw [hc']; rfl
    have hi := paired_ints (P := fun _ _ => True) hF'
    rw [e] at hi
    refine hQ D h' tk ys.toList ?_ hl hi fun b o' e' => hk b o' (fun hb => ?_) (Heap.get?_push_of_some _ e')
    · cases q : s₁.heap.get? D with
      | none => rfl
      | some o' => have := Heap.get?_push_of_some o q; rw [hD] at this; cases this
    · exact absurd (Heap.lt_size e') (by rw [List.mem_singleton.mp hb]; exact Nat.lt_irrefl _)
end

theorem pad_eq {tag : Str} (h4 : tag.length ≤ 4) : tag ++ Txt.mul (Str.ofString " ") (4 - (tag.length : Int)) = padS tag := by
  have e : Txt.mul (Str.ofString " ") (4 - (tag.length : Int)) = ⟨(List.replicate (4 - tag.cps.size) 32).toArray⟩ := by
    have h4' : tag.cps.size ≤ 4 := h4
    show Txt.mul (Str.ofString " ") (4 - (tag.cps.size : Int)) = _
    generalize tag.cps.size = n at h4'
    have : n = 0 ∨ n = 1 ∨ n = 2 ∨ n = 3 ∨ n = 4 := by omega
    rcases this with rfl | rfl | rfl | rfl | rfl <;> decide +kernel
  rw [e]
  show (⟨tag.cps ++ (List.replicate (4 - tag.cps.size) 32).toArray⟩ : Str) = ⟨(tag.cps.toList ++ List.replicate (4 - tag.cps.size) 32).toArray⟩
  rw [← List.append_toArray, Array.toArray_toList]
theorem pad_size' {tag : Str} (h4 : tag.length ≤ 4) : (padS tag).cps.size = 4 := by
  have h4' : tag.cps.size ≤ 4 := h4
  show (tag.cps.toList ++ List.replicate (4 - tag.cps.size) 32).toArray.size = 4
  rw [List.size_toArray, List.length_append, List.length_replicate, Array.length_toList]; omega
theorem pad_size {tag : Str} (h4 : tag.length ≤ 4) : (padS tag).cps.size ≤ 100000 := by rw [pad_size' h4]; decide
theorem pad_lt {tag : Str} (hc : ∀ c ∈ tag.cps, c < 256) : ∀ c ∈ (padS tag).cps.toList, c < 256 := by
  intro c h
  have h' : c ∈ tag.cps.toList ++ List.replicate (4 - tag.cps.size) 32 := h
  rcases List.mem_append.mp h' with q | q
  · exact hc c (Array.mem_toList_iff.mp q)
  · rw [(List.mem_replicate.mp q).2]; decide

section
variable {w : World} {d u : Nat} {fr : Option (List Env)} {gs : Option (List Code)} {s : Shared} {p : Program} {loose : List Str} {mg mb : Str → Option Value}

set_option maxHeartbeats 1000000 in
theorem g_tag_octets {tag : Str} {tt : Tok}
    (X : (hd.heap_1 w.params).In s.heap) (T : TopRead p loose mg mb s.heap) (hroom : d + 20 < recursionLimit) (h1 : 1 ≤ tag.length) (h4 : tag.length ≤ 4) (hc : ∀ c ∈ tag.cps, c < 256) :
    Gives w ⟨none, d, fr, gs, u⟩ 107 [.str tag tt] s (fun v _ => ∃ u, v = .bytes (octS (padS tag)).toArray u) := by
  intro E Q hQ
  have hne : (tag == Str.ofString "") = false := by
    cases hq : tag == Str.ofString "" with
    | false => rfl
    | true => rw [beq_iff_eq.mp hq] at h1; exact absurd h1 (by decide)
  refine wpAny_call (enterF [("tag", .str tag tt)] X T rfl (by rfl) (by simp only; omega) rfl (locs rfl) (fun h₁ n F N => ?_))
  k_extra "go"
  refine comp_str (cl := []) (fun c => (c : Int)) rfl rfl (by decide) rfl (by decide) rfl ?_
  k_extra "go"
  rename Fr _ _ _ _ => F₁
  rename News _ _ _ _ => N₁
  rw [pad_eq h4]
  refine ⟨_, _, rfl, pad_size h4, ?_, ?_⟩
  · intro C c u₂ s₃ m₃ E' hc' hn hm hst
    have X₃ : (hd.heap_1 w.params).In s₃.heap := X.keeps fun b o e => hst b o (F₁.keep b o e)
    have T₃ : TopRead p loose mg mb s₃.heap := T.keeps fun b o e => hst b o (F₁.keep b o e)
    obtain ⟨h₃, g₃, d₃, t₃, o₃⟩ := s₃
    k_extra "go"
    exact ⟨_, rfl⟩
    exact ⟨h₃, _, rfl, fun _ _ e => e⟩
  · intro D h' tk ys hD hl hi hst
    replace F₁ := F₁.keeps hst
    replace N₁ := N₁.grown hst
    k_extra "go"
    refine' b_ints F₁ N₁ rfl hl hi ?_ ?_ ?_
    · intro n hn
      obtain ⟨c, hc1, rfl⟩ := List.mem_map.mp hn
      have := pad_lt hc c hc1
      exact ⟨by omega, by omega⟩
    · rw [List.length_map, Array.length_toList]; have := pad_size (tag := tag) h4; omega
    · intro h2 t2 k2 F₂ N₂
      (try dsimp only)
      exact endB hQ (Fr.keep (by assumption)) rfl
end

/-- as Gives, with what the call has made -/
noncomputable def GivesN (w : World) (A : Around) (f : Addr) (args : List Value) (s : Shared) (P : Value → List (Addr × Obj) → Prop) : Prop :=
  ∀ (E Q : Value → Shared → Prop), (∀ v nw h' n, P v nw → (∀ q ∈ nw, h'.get? q.1 = some q.2 ∧ s.heap.get? q.1 = none) → s.heap.StaysIn h' → Q v { s with heap := h', toks := n }) → wpAny (model PySem.Challenge.rw_nu0014_01.row.prog w) A (call (.ref f) args) Q E s

theorem fresh_base {h₀ h : Heap} {L a : Addr} {m : Str → Option Value} (F : Fr h₀ L h m) (e : h.get? a = none) : h₀.get? a = none := by
  cases q : h₀.get? a with
  | none => rfl
  | some o => rw [F.keep _ _ q] at e; cases e
theorem fresh_ne {h₀ h : Heap} {L a : Addr} {m : Str → Option Value} (F : Fr h₀ L h m) (e : h.get? a = none) : a ≠ L := by
  rintro rfl
  obtain ⟨o, _, _, ho, _⟩ := F.ns
  rw [ho] at e; cases e
theorem news_add {h₀ h h' : Heap} {L : Addr} {m : Str → Option Value} {news nw : List (Addr × Obj)} (F : Fr h₀ L h m) (N : News h₀ L h news) (st : h.StaysIn h') (hn : ∀ q ∈ nw, h'.get? q.1 = some q.2 ∧ h.get? q.1 = none) : News h₀ L h' (nw ++ news) := fun p hp => by
  rcases List.mem_append.mp hp with q | q
  · exact ⟨(hn p q).1, fresh_ne F (hn p q).2, fresh_base F (hn p q).2⟩
  · exact (N.grown st) p q

theorem GivesN.use {w : World} {A : Around} {f : Addr} {args : List Value} {s : Shared} {P : Value → List (Addr × Obj) → Prop} {E Q : Value → Shared → Prop} {h₀ : Heap} {L : Addr} {m : Str → Option Value} {news : List (Addr × Obj)}
    (G : GivesN w A f args s P) (F : Fr h₀ L s.heap m) (N : News h₀ L s.heap news)
    (h : ∀ v nw h' n, P v nw → Fr h₀ L h' m → News h₀ L h' (nw ++ news) → s.heap.StaysIn h' → (∀ q ∈ nw, s.heap.get? q.1 = none) → Q v { s with heap := h', toks := n }) : wpAny (model PySem.Challenge.rw_nu0014_01.row.prog w) A (call (.ref f) args) Q E s :=
  G E Q fun v nw h' n p hn st => h v nw h' n p (F.keeps st) (news_add F N st hn) st fun q hq => (hn q hq).2

/-- the order of texts -/
noncomputable def leS (a b : Str) : Bool := !Spec.ltCps b.cps.toList a.cps.toList
noncomputable def insS (x : Str) : List Str → List Str
  | [] => [x]
  | y :: r => if leS x y then x :: y :: r else y :: insS x r
noncomputable def sortS : List Str → List Str
  | [] => []
  | x :: r => insS x (sortS r)
theorem leS_iff (a b : Str) : leS a b = true ↔ ¬ b.cps.toList < a.cps.toList := by unfold leS; rw [PyProof.Rows.ltCps_eq]; simp
theorem leS_total (a b : Str) : leS a b = true ∨ leS b a = true := by
  rw [leS_iff, leS_iff]
  by_cases h : b.cps.toList < a.cps.toList
  · exact .inr fun h' => List.lt_asymm h h'
  · exact .inl h
theorem leS_trans {a b c : Str} (h1 : leS a b = true) (h2 : leS b c = true) : leS a c = true := by
  rw [leS_iff] at *
  intro h
  exact List.not_lt.mpr (List.le_trans (List.not_lt.mp h1) (List.not_lt.mp h2)) h
theorem leS_anti {a b : Str} (h1 : leS a b = true) (h2 : leS b a = true) : a = b := by
  rw [leS_iff] at *
  have : a.cps.toList = b.cps.toList := List.le_antisymm (List.not_lt.mp h1) (List.not_lt.mp h2)
  obtain ⟨⟨x⟩⟩ := a; obtain ⟨⟨y⟩⟩ := b
  simp only at this; rw [this]
theorem insS_perm (x : Str) : ∀ l, (insS x l).Perm (x :: l)
  | [] => .refl _
  | y :: r => by
    unfold insS
    split
    · exact .refl _
    · exact ((insS_perm x r).cons y).trans (.swap ..)
theorem sortS_perm : ∀ l, (sortS l).Perm l
  | [] => .refl _
  | x :: r => (insS_perm x _).trans ((sortS_perm r).cons x)
theorem insS_rises (x : Str) : ∀ {l}, l.Pairwise (fun a b => leS a b = true) → (insS x l).Pairwise fun a b => leS a b = true
  | [], _ => List.pairwise_singleton ..
  | y :: r, h => by
    unfold insS
    split
    · rename_i hxy
      refine List.pairwise_cons.mpr ⟨fun z hz => ?_, h⟩
      rcases List.mem_cons.mp hz with rfl | hz
      · exact hxy
      · exact leS_trans hxy (List.rel_of_pairwise_cons h hz)
    · rename_i hxy
      refine List.pairwise_cons.mpr ⟨fun z hz => ?_, insS_rises x (List.pairwise_cons.mp h).2⟩
      rcases List.mem_cons.mp ((insS_perm x r).mem_iff.mp hz) with rfl | hz
      · exact (leS_total z y).resolve_left hxy
      · exact List.rel_of_pairwise_cons h hz
theorem sortS_rises : ∀ l, (sortS l).Pairwise fun a b => leS a b = true
  | [] => .nil
  | x :: r => insS_rises x (sortS_rises r)
theorem eq_of_rises : ∀ {l₁ l₂ : List Str}, l₁.Perm l₂ → l₁.Pairwise (fun a b => leS a b = true) → l₂.Pairwise (fun a b => leS a b = true) → l₁ = l₂
  | [], l₂, p, _, _ => (List.Perm.eq_nil p.symm).symm
  | x :: r, [], p, _, _ => absurd p.length_eq (by simp)
  | x :: r, y :: r', p, h1, h2 => by
    have e : x = y := by
      have hx : x ∈ y :: r' := p.mem_iff.mp (.head _)
      have hy : y ∈ x :: r := p.mem_iff.mpr (.head _)
      rcases List.mem_cons.mp hx with e | hx
      · exact e
      rcases List.mem_cons.mp hy with e | hy
      · exact e.symm
      exact leS_anti (List.rel_of_pairwise_cons h1 hy) (List.rel_of_pairwise_cons h2 hx)
    subst e
    rw [eq_of_rises (List.Perm.cons_inv p) (List.pairwise_cons.mp h1).2 (List.pairwise_cons.mp h2).2]
theorem rises_of_risingS : ∀ (p : Str) (l : List Str), risingS p l = true → (p :: l).Pairwise fun a b => leS a b = true
  | p, [], _ => List.pairwise_singleton ..
  | p, x :: r, h => by
    have h' : (leS p x && risingS x r) = true := h
    rw [Bool.and_eq_true] at h'
    have ih := rises_of_risingS x r h'.2
    refine List.pairwise_cons.mpr ⟨fun z hz => ?_, ih⟩
    rcases List.mem_cons.mp hz with rfl | hz
    · exact h'.1
    · exact leS_trans h'.1 (List.rel_of_pairwise_cons ih hz)
theorem rises_of_sortedS : ∀ {l : List Str}, sortedS l = true → l.Pairwise fun a b => leS a b = true
  | [], _ => .nil
  | x :: r, h => rises_of_risingS x r h
theorem eq_sortS {l l' : List Str} (p : l'.Perm l) (h : sortedS l' = true) : l' = sortS l := eq_of_rises (p.trans (sortS_perm l).symm) (rises_of_sortedS h) (sortS_rises l)

section
variable {prog : Program} {w : World} {A : Around} {E : Value → Shared → Prop} {s : Shared} {h₀ : Heap} {L : Addr} {m : Str → Option Value} {news : List (Addr × Obj)} {Q : Value → Shared → Prop}
theorem sortedHeap_ne {h : Heap} {a b : Addr} {vs : List Value} {out : Array Value} {o : Obj} (hne : b ≠ a) (e : h.get? b = some o) : (sortedHeap h a vs out).get? b = some o := by
  rw [sortedHeap_old hne (Heap.lt_size e)]; exact e
theorem l_sort {D : Addr} {vs : List Value} {ss : List Str} {n : Nat} (ho : s.heap.get? D = some (listOf vs.toArray n)) (hS : StrsAre vs ss) (h64 : vs.length < 64)
    (h : ∀ h' (vs' : List Value) e, StrsAre vs' (sortS ss) → h'.get? D = some (listOf vs'.toArray e) → (∀ b o, b ≠ D → s.heap.get? b = some o → h'.get? b = some o) → Q .none { s with heap := h' }) :
    wpAny (model prog w) A (call (.builtin "list.sort") [.ref D]) Q E s := by
  refine wpAny_call_entry slot_list_sort ⟨_, ho, rfl⟩ entry_list_sort (list_sort_treeK strKind_oneLt ho hS.keysOf (fun v₁ v₂ rest e => keyKind_strs (by rw [← e]; exact hS)) h64 fun st' hp hs => ⟨_, rfl, ?_⟩) (args_list_sort _)
  obtain ⟨ss', h1, h2, h3⟩ := sorted_out_str hS hp hs
  rw [eq_sortS h2 h3] at h1
  obtain ⟨e, he⟩ := sortedHeap_at (out := (arrOf st').map (·.2)) ho
  refine h _ ((arrOf st').map (·.2)).toList e h1 ?_ fun b o hb q => sortedHeap_ne hb q
  rw [Array.toArray_toList]; exact he

theorem strs_of {vs : List Value} {ss : List Str} (hlen : vs.length = ss.length) (h : ∀ (j : Nat) (v : Value), vs[j]? = some v → ∃ x t, ss[j]? = some x ∧ v = .str x t) : StrsAre vs ss := by
  induction vs generalizing ss with
  | nil => cases ss with
    | nil => exact .nil
    | cons _ _ => cases hlen
  | cons v r ih => cases ss with
    | nil => cases hlen
    | cons y r' =>
      obtain ⟨x, t, e, rfl⟩ := h 0 v rfl
      cases e
      exact .cons _ _ (ih (by simpa using hlen) fun j u hu => h (j + 1) u hu)

theorem sorted_dict {d : Addr} {kvs : List (Str × Value)} (hh : A.handled = none) (F : Fr h₀ L s.heap m) (N : News h₀ L s.heap news) (lo : (d == sysModules) = false) (hd : s.heap.DictOf (PySem.strKind prog w) d kvs) (hn : kvs.length < 64)
    (h : ∀ D h' tk (vs : List Value) e, StrsAre vs (sortS (kvs.map (·.1))) → Fr h₀ L h' m → News h₀ L h' ((D, listOf vs.toArray e) :: news) → s.heap.get? D = none → s.heap.StaysIn h' → Q (.ref D) { s with heap := h', toks := tk }) :
    wpAny (model prog w) A (call (.builtin "sorted") [.ref d]) Q E s := by
  obtain ⟨ep, hat⟩ := hd.dictAt
  have Fs : Fr s.heap s.heap.objs.size s.heap m ∨ True := .inr trivial
  refine call_function_entry kind_sorted plain_sorted entry_sorted (args_sorted1 _) ?_
  unfold Builtin.«sorted»
  refine wpAny_bind (m := checkCount "sorted" 1 1 _) (wpAny_pure ?_)
  refine wpAny_bind (kdu_collect (A := A.in1) (kdl_dict (knd := PySem.strKind prog w) (kvs := kvs) (ep := ep) lo) hh hat (by rw [sizeLine_eq]; omega) fun h' tk acc hk hacc => ?_)
  have hl : acc.toList.length = kvs.length := by rw [Array.length_toList]; exact hacc.1
  refine wpAny_bind (wpAny_newList ?_ (by rw [hl, sizeLine_eq]; omega))
  have hS : StrsAre acc.toList (kvs.map (·.1)) := strs_of (by rw [hl, List.length_map]) fun j v hv => by
    obtain ⟨k, x, hx, hkk⟩ := hacc.2 j v (by rw [← Array.getElem?_toList]; exact hv)
    obtain ⟨t, rfl⟩ := Value.isStrOf_shape hkk
    exact ⟨k, t, by rw [List.getElem?_map, hx]; rfl, rfl⟩
  have hD : (h'.push { cls := .type "list", data := .seq acc.toList.toArray }).get? h'.objs.size = some (listOf acc.toList.toArray 0) := Heap.get?_push_size _ rfl
  have hDs : s.heap.get? h'.objs.size = none := by
    cases q : s.heap.get? h'.objs.size with
    | none => rfl
    | some o => exact absurd (Heap.lt_size (hk _ _ q)) (Nat.lt_irrefl _)
  refine wpAny_bind (wpAny_holding (l_sort hD hS (by rw [hl]; exact hn) fun h₂ vs' e hS' hD' hk' => ?_))
  have st : s.heap.StaysIn h₂ := fun b o q => hk' b o (fun e => by rw [e, hDs] at q; cases q) (Heap.get?_push_of_some _ (hk b o q))
  exact wpAny_pure ⟨_, rfl, h _ h₂ tk vs' e hS' (F.keeps st) (news_add (nw := [(_, _)]) F N st fun q hq => by rw [List.mem_singleton.mp hq]; exact ⟨hD', hDs⟩) hDs st⟩
end

noncomputable def IsTab (w : World) (h : Heap) (x d : Addr) : Prop := ∃ dx n t, h.get? x = some (instObj 145 dx) ∧ h.get? dx = some (dictOf [⟨PyData.keyHash w.params (Str.ofString "rows"), .str (Str.ofString "rows") t, .ref d⟩] n)
theorem IsTab.keeps {w : World} {h h' : Heap} {x d : Addr} (y : IsTab w h x d) (st : h.StaysIn h') : IsTab w h' x d := let ⟨dx, n, t, a, b⟩ := y; ⟨dx, n, t, st _ _ a, st _ _ b⟩
abbrev TabD (w : World) (h : Heap) (d : Addr) (kvs : List (Str × Value)) : Prop := h.DictOf (PySem.strKind PySem.Challenge.rw_nu0014_01.row.prog w) d kvs

section
variable {w : World} {A : Around} {E : Value → Shared → Prop} {s : Shared} {h₀ : Heap} {L x d : Addr} {m : Str → Option Value} {Q : Value → Shared → Prop}
theorem tab_rows (F : Fr h₀ L s.heap m) (X : (hd.heap_1 w.params).In h₀) (I : IsTab w s.heap x d) (h : Q (.ref d) { s with toks := s.toks + 1 }) {expr : Bool} :
    wpAny (model PySem.Challenge.rw_nu0014_01.row.prog w) A (getAttr (.ref x) (Str.ofString "rows") expr) Q E s := by
  obtain ⟨dx, n, t, a, b⟩ := I
  refine' get_own (C := 145) F X ⟨a, rfl, rfl, b⟩ ?k4 ?k5 ?k6 ?k7 ?k8 ?k9 h
  (case k4 => k_is)
  (case k5 => k_is)
  (case k6 => k_is)
  (case k7 => k_is)
  (case k8 => rfl)
  (case k9 => rfl)
theorem tab_meth {name : Str} {f : Addr} {pl : Sem Bool} {Q : Value × List Value → Shared → Prop} (F : Fr h₀ L s.heap m) (X : (hd.heap_1 w.params).In h₀) (I : IsTab w s.heap x d) (hg : plainGet (hd.heap_1 w.params) 145 name = true) (hf : findIn (hd.heap_1 w.params) (.ref 145) name = some (some (.ref f))) (ht : isFn (hd.heap_1 w.params) (.ref f) = true)
    (hn : (Str.ofString "rows" == name) = false) (h : Q (.ref f, [.ref x]) s) : wpAny (model PySem.Challenge.rw_nu0014_01.row.prog w) A (getMethod (.ref x) name pl) Q E s := by
  obtain ⟨dx, n, t, a, b⟩ := I
  refine method_inst (C := 145) F X ⟨a, rfl, rfl, b⟩ hg hf ht ?_ h
  unfold getL
  have e : (Value.str (Str.ofString "rows") t).isStr name = false := hn
  simp only [List.find?_cons, e]
  rfl
variable {kvs : List (Str × Value)} {tag : Str} {tt : Tok} {v : Value} {value slice : PySem.Expr}
theorem d_in (lo : (d == sysModules) = false) (hD : TabD w s.heap d kvs) (h : Q (.bool (valueAt kvs tag).isSome) { s with toks := s.toks + 1 }) :
    wpAny (model PySem.Challenge.rw_nu0014_01.row.prog w) A (compareOp .In (.str tag tt) (.ref d)) Q E s := wpAny_in_of (PySem.strKind_is _ _ _ _) lo hD.mapOf h
theorem d_notin (lo : (d == sysModules) = false) (hD : TabD w s.heap d kvs) (h : Q (.bool (!(valueAt kvs tag).isSome)) { s with toks := s.toks + 1 }) :
    wpAny (model PySem.Challenge.rw_nu0014_01.row.prog w) A (compareOp .NotIn (.str tag tt) (.ref d)) Q E s := wpAny_notIn_of (PySem.strKind_is _ _ _ _) lo hD.mapOf h
theorem d_item (hD : TabD w s.heap d kvs) (hv : valueAt kvs tag = some v) (h : Q v { s with toks := s.toks + 1 })
    (hs : subscripted slice false (.ref d) (.str tag tt) = operate [.ref d, .str tag tt] (getItem (.ref d) (.str tag tt)) := by with_unfolding_all rfl) :
    wpAny (model PySem.Challenge.rw_nu0014_01.row.prog w) A (subscriptTail value slice (.ref d) (.str tag tt)) Q E s :=
  tail_any hD.mapOf.typeIs slot_dict_getitem.lookup (wpAny_getItem_of (PySem.strKind_is _ _ _ _) hD.mapOf hv h) hs
end
theorem words_13_1 : True := by
  (k_with "mdict" => (first | assumption | exact Heap.DictOf.keep (by assumption) (Fr.keep (by assumption))))
  (k_with "compareOp In str ref" => ((k_here; k_dflt (refine' d_in (by assumption) (by k_extra "mdict") ?_))))
  (k_with "compareOp NotIn str ref" => ((k_here; k_dflt (refine' d_notin (by assumption) (by k_extra "mdict") ?_))))
  (k_with "subscriptTail" => ((k_here; (with_reducible show wpAny _ _ (subscriptTail _ _ (Value.ref _) (Value.str _ _)) _ _ _); k_dflt (refine' d_item (by k_extra "mdict") (by assumption) ?_))))
  (k_with "mtab" => (first | assumption | exact IsTab.keeps (by assumption) (Fr.keep (by assumption))))
  (k_with "getAttr ref" => ((k_here; (with_reducible show wpAny _ _ (getAttr (Value.ref _) (Str.ofString "rows") _) _ _ _); k_dflt (refine' tab_rows (by k_asm) (by k_asm) (by k_extra "mtab") ?_))))
  (k_with "getMethod ref" => ((k_here; (with_reducible show wpAny _ _ (getMethod (Value.ref _) (Str.ofString "tags") _) _ _ _); k_dflt (refine' tab_meth (f := 128) (by k_asm) (by k_asm) (by k_extra "mtab") (by k_is) (by k_is) (by k_is) (by decide) ?_))))
  (k_with "getMethod ref" => ((k_here; (with_reducible show wpAny _ _ (getMethod (Value.ref _) (Str.ofString "has") _) _ _ _); k_dflt (refine' tab_meth (f := 135) (by k_asm) (by k_asm) (by k_extra "mtab") (by k_is) (by k_is) (by k_is) (by decide) ?_))))
  (k_with "getMethod ref" => ((k_here; (with_reducible show wpAny _ _ (getMethod (Value.ref _) (Str.ofString "table") _) _ _ _); k_dflt (refine' tab_meth (f := 142) (by k_asm) (by k_asm) (by k_extra "mtab") (by k_is) (by k_is) (by k_is) (by decide) ?_))))
  trivial
section
variable {w : World} {d u : Nat} {fr : Option (List Env)} {gs : Option (List Code)} {s : Shared} {p : Program} {loose : List Str} {mg mb : Str → Option Value}

set_option maxHeartbeats 1000000 in
theorem g_tags {x dd : Addr} {kvs : List (Str × Value)}
    (X : (hd.heap_1 w.params).In s.heap) (T : TopRead p loose mg mb s.heap) (hroom : d + 10 < recursionLimit) (I : IsTab w s.heap x dd) (lo : (dd == sysModules) = false) (hD : TabD w s.heap dd kvs) (h64 : kvs.length < 64) :
    GivesN w ⟨none, d, fr, gs, u⟩ 128 [.ref x] s (fun v nw => ∃ a vs e, v = .ref a ∧ StrsAre vs (sortS (kvs.map (·.1))) ∧ nw = [(a, listOf vs.toArray e)]) := by
  intro E Q hQ
  refine wpAny_call (enterF [("self", .ref x)] X T rfl (by rfl) (by simp only; omega) rfl (locs rfl) (fun h₁ n F N => ?_))
  k_extra "go"
  refine sorted_dict rfl (by assumption) (by assumption) lo (hD.keep (Fr.keep (by assumption))) h64 fun D h' tk vs e hS F' N' hDn st => ?_
  (try dsimp only)
  refine hQ _ _ _ _ ⟨D, vs, e, rfl, hS, rfl⟩ (fun q hq => ?_) F'.keep
  rw [List.mem_singleton.mp hq]
  exact ⟨(N' _ (.head _)).1, (N' _ (.head _)).2.2⟩

set_option maxHeartbeats 1000000 in
theorem g_has {x dd : Addr} {kvs : List (Str × Value)} {tag : Str} {tt : Tok}
    (X : (hd.heap_1 w.params).In s.heap) (T : TopRead p loose mg mb s.heap) (hroom : d + 10 < recursionLimit) (I : IsTab w s.heap x dd) (lo : (dd == sysModules) = false) (hD : TabD w s.heap dd kvs) :
    Gives w ⟨none, d, fr, gs, u⟩ 135 [.ref x, .str tag tt] s (fun v _ => v = .bool (valueAt kvs tag).isSome) := by
  intro E Q hQ
  refine wpAny_call (enterF [("self", .ref x), ("tag", .str tag tt)] X T rfl (by rfl) (by simp only; omega) rfl (locs rfl) (fun h₁ n F N => ?_))
  k_extra "go"
  (try dsimp only)
  exact hQ _ _ _ rfl (Fr.keep (by assumption))

set_option maxHeartbeats 1000000 in
theorem g_table {x dd : Addr} {kvs : List (Str × Value)} {tag : Str} {tt : Tok} {v : Value}
    (X : (hd.heap_1 w.params).In s.heap) (T : TopRead p loose mg mb s.heap) (hroom : d + 10 < recursionLimit) (I : IsTab w s.heap x dd) (lo : (dd == sysModules) = false) (hD : TabD w s.heap dd kvs) (hv : valueAt kvs tag = some v) :
    Gives w ⟨none, d, fr, gs, u⟩ 142 [.ref x, .str tag tt] s (fun v' _ => v' = v) := by
  intro E Q hQ
  have hs : (!(valueAt kvs tag).isSome) = false := by rw [hv]; rfl
  refine wpAny_call (enterF [("self", .ref x), ("tag", .str tag tt)] X T rfl (by rfl) (by simp only; omega) rfl (locs rfl) (fun h₁ n F N => ?_))
  k_extra "go"
  (try dsimp only)
  exact hQ _ _ _ rfl (Fr.keep (by assumption))
end

abbrev tupOf (vs : List Value) : Obj := { cls := .type "tuple", data := .seq vs.toArray }
noncomputable def powS (n : Nat) : Int := if n ≤ 1 then 1 else if n ≤ 3 then 2 else 4
noncomputable def expS (n : Nat) : Int := if n ≤ 1 then 0 else if n ≤ 3 then 1 else 2

theorem endN1 {P : Value → List (Addr × Obj) → Prop} {s : Shared} {Q : Value → Shared → Prop} {h' : Heap} {L a : Addr} {o : Obj} {m : Str → Option Value} {rest : List (Addr × Obj)} {n : Nat}
    (hQ : ∀ v nw h' n, P v nw → (∀ q ∈ nw, h'.get? q.1 = some q.2 ∧ s.heap.get? q.1 = none) → s.heap.StaysIn h' → Q v { s with heap := h', toks := n })
    (F' : Fr s.heap L h' m) (N' : News s.heap L h' ((a, o) :: rest)) (hP : P (.ref a) [(a, o)]) : Q (.ref a) { s with heap := h', toks := n } :=
  hQ _ _ _ _ hP (fun q hq => by rw [List.mem_singleton.mp hq]; exact ⟨(N' _ (.head _)).1, (N' _ (.head _)).2.2⟩) F'.keep

section
variable {w : World} {d u : Nat} {fr : Option (List Env)} {gs : Option (List Code)} {s : Shared} {p : Program} {loose : List Str} {mg mb : Str → Option Value}

set_option maxHeartbeats 2000000 in
theorem g_steps_of {c : Nat} {z : Int} {tt : Tok} (hz : z = (c : Int))
    (X : (hd.heap_1 w.params).In s.heap) (T : TopRead p loose mg mb s.heap) (hroom : d + 10 < recursionLimit) (h1 : 1 ≤ c) (h5 : c ≤ 5) :
    GivesN w ⟨none, d, fr, gs, u⟩ 205 [.int z tt] s (fun v nw => ∃ a t1 t2, v = .ref a ∧ nw = [(a, tupOf [.int (powS c) t1, .int (expS c) t2])]) := by
  intro E Q hQ
  subst hz
  refine wpAny_call (enterF [("count", .int (c : Int) tt)] X T rfl (by rfl) (by simp only; omega) rfl (locs rfl) (fun h₁ n F N => ?_))
  have hc : c = 1 ∨ c = 2 ∨ c = 3 ∨ c = 4 ∨ c = 5 := by omega
  rcases hc with rfl | rfl | rfl | rfl | rfl
  all_goals
    k_extra "go"
    (try dsimp only)
    rename News _ _ _ (_ :: _) => N'
    exact endN1 hQ (by assumption) N' ⟨_, _, _, rfl, rfl⟩
end

abbrev Tb := List (Str × List UInt8)
noncomputable def KV (kvs : List (Str × Value)) (tb : Tb) : Prop := Paired (fun (q : Str × Value) (r : Str × List UInt8) => q.1 = r.1 ∧ ∃ t, q.2 = .bytes r.2.toArray t) kvs tb
noncomputable def keysT (tb : Tb) : List Str := tb.map (·.1)
noncomputable def lk (tb : Tb) (tag : Str) : List UInt8 := ((tb.find? fun q => decide (q.1 = tag)).map (·.2)).getD []
structure Gd (tb : Tb) : Prop where
  one : 1 ≤ tb.length
  five : tb.length ≤ 5
  tags : ∀ q ∈ tb, 1 ≤ q.1.length ∧ q.1.length ≤ 4 ∧ ∀ c ∈ q.1.cps, 32 ≤ c ∧ c ≤ 126
  size : ∀ q ∈ tb, q.2.length ≤ 100
  nodup : (keysT tb).Nodup
theorem KV.len {kvs : List (Str × Value)} {tb : Tb} (h : KV kvs tb) : kvs.length = tb.length := Paired.length h
theorem KV.keys {kvs : List (Str × Value)} {tb : Tb} (h : KV kvs tb) : kvs.map (·.1) = keysT tb := by
  induction h with
  | nil => rfl
  | @cons a b l₁ l₂ h _ ih => show a.1 :: l₁.map (·.1) = b.1 :: keysT l₂; rw [h.1, ih]
theorem KV.at {kvs : List (Str × Value)} {tb : Tb} (h : KV kvs tb) {tag : Str} (hm : tag ∈ keysT tb) : ∃ t, valueAt kvs tag = some (.bytes (lk tb tag).toArray t) := by
  induction h with
  | nil => cases hm
  | @cons a b l₁ l₂ h _ ih =>
    obtain ⟨h1, t, h2⟩ := h
    unfold valueAt lk
    simp only [List.find?_cons]
    by_cases e : b.1 = tag
    · rw [h1, decide_eq_true e]
      exact ⟨t, by simp only [Option.map_some, Option.getD_some]; rw [h2]⟩
    · rw [h1, decide_eq_false e]
      refine ih ?_
      rcases List.mem_cons.mp hm with q | q
      · exact absurd q.symm e
      · exact q
theorem KV.none {kvs : List (Str × Value)} {tb : Tb} (h : KV kvs tb) {tag : Str} (hm : tag ∉ keysT tb) : valueAt kvs tag = none := by
  induction h with
  | nil => rfl
  | @cons a b l₁ l₂ h _ ih =>
    unfold valueAt
    simp only [List.find?_cons]
    have e : ¬ a.1 = tag := fun q => hm (by rw [← q, h.1]; exact .head _)
    rw [decide_eq_false e]
    exact ih fun q => hm (.tail _ q)
theorem lk_mem {tb : Tb} {tag : Str} (hm : tag ∈ keysT tb) : (tag, lk tb tag) ∈ tb := by
  induction tb with
  | nil => cases hm
  | cons b r ih =>
    unfold lk
    simp only [List.find?_cons]
    by_cases e : b.1 = tag
    · rw [decide_eq_true e]; subst e; exact .head _
    · rw [decide_eq_false e]
      refine .tail _ (ih ?_)
      rcases List.mem_cons.mp hm with q | q
      · exact absurd q.symm e
      · exact q
theorem mem_sort {tb : Tb} {tag : Str} : tag ∈ sortS (keysT tb) ↔ tag ∈ keysT tb := (sortS_perm _).mem_iff
theorem sort_len (tb : Tb) : (sortS (keysT tb)).length = tb.length := by rw [(sortS_perm _).length_eq]; exact List.length_map ..

noncomputable def rowO (tb : Tb) (pl : Str → Int) (tag : Str) : List UInt8 := octS (padS tag) ++ be32 (sumT tag (lk tb tag)) ++ be32 (pl tag) ++ be32 ((lk tb tag).length)
noncomputable def hdrO (n : Nat) : List UInt8 := be32 65536 ++ be16 n ++ be16 (powS n * 16) ++ be16 (expS n) ++ be16 ((n - powS n) * 16)
noncomputable def dirN (tb : Tb) (pl : Str → Int) (i : Nat) : List UInt8 := hdrO tb.length ++ ((sortS (keysT tb)).take i).flatMap (rowO tb pl)
noncomputable def dirO (tb : Tb) (pl : Str → Int) : List UInt8 := dirN tb pl tb.length
theorem octS_len (x : Str) : (octS x).length = x.cps.size := by unfold octS bl cpI; rw [List.length_map, List.length_map, Array.length_toList]
theorem octP_len {tag : Str} (h : tag.length ≤ 4) : (octS (padS tag)).length = 4 := by rw [octS_len, pad_size' h]
theorem rowO_len {tb : Tb} {pl : Str → Int} {tag : Str} (h : tag.length ≤ 4) : (rowO tb pl tag).length = 16 := by
  unfold rowO; simp only [List.length_append, octP_len h, be32_len]
theorem hdrO_len (n : Nat) : (hdrO n).length = 12 := rfl
theorem flat_len {α : Type} {f : α → List UInt8} {k : Nat} : ∀ {l : List α}, (∀ x ∈ l, (f x).length = k) → (l.flatMap f).length = k * l.length
  | [], _ => by simp
  | x :: r, h => by
    rw [List.flatMap_cons, List.length_append, h x (.head _), flat_len fun y hy => h y (.tail _ hy), List.length_cons, Nat.mul_succ, Nat.add_comm]
theorem dirN_len {tb : Tb} (g : Gd tb) (pl : Str → Int) {i : Nat} (hi : i ≤ tb.length) : (dirN tb pl i).length = 12 + 16 * i := by
  unfold dirN
  rw [List.length_append, hdrO_len, flat_len (k := 16) fun tag ht => rowO_len (g.tags _ (lk_mem (mem_sort.mp (List.mem_of_mem_take ht)))).2.1, List.length_take, sort_len, Nat.min_eq_left hi]
theorem dirN_succ {tb : Tb} {pl : Str → Int} {i : Nat} {tag : Str} (h : (sortS (keysT tb))[i]? = some tag) : dirN tb pl (i + 1) = dirN tb pl i ++ rowO tb pl tag := by
  unfold dirN
  rw [List.take_add_one, h, List.flatMap_append, ← List.append_assoc]
  simp

section
variable {prog : Program} {w : World} {A : Around} {E : Value → Shared → Prop} {s : Shared} {h₀ : Heap} {L : Addr} {news : List (Addr × Obj)} {Q : Value → Shared → Prop}
theorem l_len {l : Addr} {vs : List Value} {e : Nat} (N : News h₀ L s.heap news) (hm : (l, listOf vs.toArray e) ∈ news) (hv : vs.length ≤ 1000000) (h : Q (.int vs.length (s.toks + 1)) { s with toks := s.toks + 1 + 1 }) :
    wpAny (model prog w) A (call (.builtin "len") [.ref l]) Q E s := by
  have hl : s.heap.IsList l vs.toArray := ⟨_, N.get hm, rfl, _, rfl⟩
  exact call_len_list hl (by rw [List.size_toArray]; omega) (by rw [List.size_toArray]; exact h)
end
theorem strsAre_at : ∀ {vs : List Value} {ss : List Str}, StrsAre vs ss → ∀ {i : Nat} {v : Value}, vs[i]? = some v → ∃ x t, ss[i]? = some x ∧ v = .str x t
  | _, _, .cons y t h, 0, _, e => by cases e; exact ⟨y, t, rfl, rfl⟩
  | _, _, .cons y t h, i + 1, v, e => strsAre_at h e

theorem words_15_1 : True := by
  (k_with "mside" => (first | assumption | omega | (simp only [List.length_append, List.length_take, List.length_drop, List.length_replicate, List.length_cons, List.length_nil, List.size_toArray, be32_len, be16_len]; omega)))
  (k_with "call ref" => ((k_here; (with_reducible show wpAny _ _ (call (Value.ref 128) _) _ _ _); k_dflt (refine' GivesN.use (g_tags (by k_extra "mK") (by k_extra "mT") (by k_extra "mroom") (by k_extra "mtab") (by assumption) (by k_extra "mdict") (by k_extra "mside")) (by k_asm) (by k_asm) ?_); (intro vzq nwzq hzq nzq hpzq Fzq Nzq stzq hfzq; obtain ⟨azq, vszq, ezq, q1zq, hSzq, q2zq⟩ := hpzq; subst q1zq; subst q2zq; have hlSzq := StrsAre.length hSzq; rw [(sortS_perm _).length_eq, List.length_map] at hlSzq; (try simp only [List.cons_append, List.nil_append] at Nzq); (try k_sweep)))))
  (k_with "call ref" => ((k_here; (with_reducible show wpAny _ _ (call (Value.ref 142) _) _ _ _); k_dflt (refine' Gives.use (g_table (by k_extra "mK") (by k_extra "mT") (by k_extra "mroom") (by k_extra "mtab") (by assumption) (by k_extra "mdict") (by assumption)) (by k_asm) (by k_asm) ?_); (intro vzq hzq nzq hpzq Fzq Nzq stzq; subst hpzq; (try k_sweep)))))
  (k_with "call ref" => ((k_here; (with_reducible show wpAny _ _ (call (Value.ref 107) _) _ _ _); k_dflt (refine' Gives.use (g_tag_octets (by k_extra "mK") (by k_extra "mT") (by k_extra "mroom") (by k_extra "mside") (by k_extra "mside") (by assumption)) (by k_asm) (by k_asm) ?_); k_extra "mdone")))
  (k_with "call ref" => ((k_here; (with_reducible show wpAny _ _ (call (Value.ref 198) _) _ _ _); k_dflt (refine' Gives.use (g_sum_of_table (by k_extra "mK") (by k_extra "mT") (by k_extra "mroom") (by k_extra "mside")) (by k_asm) (by k_asm) ?_); k_extra "mdone")))
  (k_with "call builtin:len" => ((k_here; (with_reducible show wpAny _ _ (call (Value.builtin "len") [Value.ref _]) _ _ _); k_dflt (refine' l_len (by k_asm) (by k_mem) (by k_extra "mside") ?_))))
  trivial

theorem sumO_b (l : List UInt8) : 0 ≤ sumO l ∧ sumO l < 4294967296 := by unfold sumO w32; exact ⟨Int.emod_nonneg _ (by decide), Int.emod_lt_of_pos _ (by decide)⟩
theorem sumT_b (tag : Str) (l : List UInt8) : 0 ≤ sumT tag l ∧ sumT tag l < 4294967296 := sumO_b _
theorem powS_b {n : Nat} (h : 1 ≤ n) : 1 ≤ powS n ∧ powS n ≤ n ∧ 0 ≤ expS n := by unfold powS expS; (repeat' split) <;> omega
section
variable {w : World} {d u : Nat} {fr : Option (List Env)} {gs : Option (List Code)} {s : Shared} {p : Program} {loose : List Str} {mg mb : Str → Option Value}



set_option maxHeartbeats 2000000 in
theorem g_directory_octets {x dd pd : Addr} {kvs pkvs : List (Str × Value)} {tb : Tb} {pl : Str → Int}
    (X : (hd.heap_1 w.params).In s.heap) (T : TopRead p loose mg mb s.heap) (hroom : d + 50 < recursionLimit) (I : IsTab w s.heap x dd) (lo : (dd == sysModules) = false) (hD : TabD w s.heap dd kvs)
    (hK : KV kvs tb) (g : Gd tb) (hP : TabD w s.heap pd pkvs) (hpl : ∀ tag ∈ keysT tb, 0 ≤ pl tag ∧ ∃ t, valueAt pkvs tag = some (.int (pl tag) t)) :
    Gives w ⟨none, d, fr, gs, u⟩ 212 [.ref x, .ref pd] s (fun v _ => ∃ u, v = .bytes (dirO tb pl).toArray u) := by
  intro E Q hQ
  have hkl := hK.len
  obtain ⟨hp1, hp2, hp3⟩ := powS_b g.one
  have h1 := g.one
  have h5 := g.five
  refine wpAny_call (enterF [("tables", .ref x), ("places", .ref pd)] X T rfl (by rfl) (by simp only; omega) rfl (locs rfl) (fun h₁ n F N => ?_))
  k_extra "go"
  rename StrsAre _ _ => hS0
  have hl0 := StrsAre.length hS0
  rw [(sortS_perm _).length_eq, List.length_map, hkl] at hl0
  refine' GivesN.use (g_steps_of (c := tb.length) ?gz ?gX ?gT ?gr ?ga ?gb) ?gF ?gN ?_
  (case gz => split <;> omega)
  (case gX => k_extra "mK")
  (case gT => k_extra "mT")
  (case gr => k_extra "mroom")
  (case ga => omega)
  (case gb => omega)
  (case gF => k_asm)
  (case gN => k_asm)
  intro v' nw' h' n' hp' F' N' st' hf'
  obtain ⟨a', t1', t2', q1', q2'⟩ := hp'
  subst q1'; subst q2'
  simp only [List.cons_append, List.nil_append] at N'
  k_sweep
  k_extra "go"
  rename News _ _ _ ((_, listOf _ _) :: _) => N'
  rename StrsAre _ _ => hS
  have hlv := StrsAre.length hS
  rw [(sortS_perm _).length_eq, List.length_map, hkl] at hlv
  have hl := N'.get (.head _)
  have hfr := N'.fresh (.head _)
  have hne := (N' _ (.head _)).2.1
  refine forList (news := []) rfl ⟨_, hl, rfl, _, rfl⟩ hne (by assumption) News.nil (fun _ h => nomatch h)
    (fun i m news => m "tables" = some (.ref x) ∧ m "places" = some (.ref pd) ∧ (∃ t, m "found" = some (.bytes (dirN tb pl i).toArray t)) ∧ news = []) ⟨rfl, rfl, ?_, rfl⟩ ?_ ?_
  · refine exB rfl ?_
    rw [hl0]
    unfold dirN hdrO
    rw [List.take_zero, List.flatMap_nil, List.append_nil]
  · rintro i v m₁ news₁ h tk own hv ⟨hm1, hm2, ⟨t, hm3⟩, rfl⟩ - - - F₁ N₁
    obtain ⟨tag, tt, hti, rfl⟩ := strsAre_at hS hv
    rw [hK.keys] at hti
    have hmem : tag ∈ keysT tb := mem_sort.mp (List.mem_of_getElem? hti)
    have hil : i < tb.length := by rw [← sort_len tb]; exact (List.getElem?_eq_some_iff.mp hti).1
    obtain ⟨t1, hv1⟩ := hK.at hmem
    obtain ⟨hpl0, t2, hv2⟩ := hpl tag hmem
    obtain ⟨ht1, ht4, htc⟩ := g.tags _ (lk_mem hmem)
    have htc' : ∀ c ∈ tag.cps, c < 256 := fun c hc => by have := htc c hc; omega
    have hsz := g.size _ (lk_mem hmem)
    dsimp only at ht1 ht4 hsz
    have hol := octP_len ht4
    have hsum := sumT_b tag (lk tb tag)
    obtain ⟨hsum1, hsum2⟩ := hsum
    have hdl := dirN_len g pl (Nat.le_of_lt hil)
    k_sweep
    k_extra "go"
    refine' TurnEnd.intro [] ?_ ?_ ?_ ?_
    rotate_left
    · assumption
    · assumption
    · exact fun _ h => nomatch h
    · refine ⟨hm1, hm2, exB rfl ?_, rfl⟩
      rw [dirN_succ hti]
      unfold rowO
      simp only [List.append_assoc]
  · rintro h tk m₁ news₁ ⟨hm1, hm2, ⟨t, hm3⟩, rfl⟩ F₁ N₁
    k_sweep
    k_extra "go"
    (try dsimp only)
    refine endB hQ (Fr.keep (by assumption)) ?_
    unfold dirO
    rw [hlv]
end

noncomputable def srt (tb : Tb) : List Str := sortS (keysT tb)
noncomputable def flen (tb : Tb) (tag : Str) : Nat := (fil (lk tb tag)).length
noncomputable def pos (tb : Tb) (i : Nat) : Nat := 12 + 16 * tb.length + (((srt tb).take i).map (flen tb)).sum
noncomputable def ix (tb : Tb) (tag : Str) : Nat := (srt tb).findIdx fun x => decide (x = tag)
noncomputable def plOf (tb : Tb) (tag : Str) : Int := (pos tb (ix tb tag) : Int)
noncomputable def plL (tb : Tb) (i : Nat) : List (Str × Int) := ((srt tb).take i).map fun t => (t, plOf tb t)
noncomputable def PV (kvs : List (Str × Value)) (l : List (Str × Int)) : Prop := Paired (fun (q : Str × Value) (r : Str × Int) => q.1 = r.1 ∧ ∃ t, q.2 = .int r.2 t) kvs l
theorem PV.keys {kvs : List (Str × Value)} {l : List (Str × Int)} (h : PV kvs l) : kvs.map (·.1) = l.map (·.1) := by
  induction h with
  | nil => rfl
  | @cons a b l₁ l₂ h _ ih => show a.1 :: l₁.map (·.1) = b.1 :: l₂.map (·.1); rw [h.1, ih]
theorem PV.at {kvs : List (Str × Value)} {l : List (Str × Int)} (h : PV kvs l) {f : Str → Int} (hf : ∀ r ∈ l, r.2 = f r.1) {tag : Str} (hm : tag ∈ l.map (·.1)) : ∃ t, valueAt kvs tag = some (.int (f tag) t) := by
  induction h with
  | nil => cases hm
  | @cons a b l₁ l₂ h _ ih =>
    obtain ⟨h1, t, h2⟩ := h
    unfold valueAt
    simp only [List.find?_cons]
    by_cases e : b.1 = tag
    · rw [h1, decide_eq_true e]
      exact ⟨t, by simp only [Option.map_some]; rw [h2, hf b (.head _), e]⟩
    · rw [h1, decide_eq_false e]
      refine ih (fun r hr => hf r (.tail _ hr)) ?_
      rcases List.mem_cons.mp hm with q | q
      · exact absurd q.symm e
      · exact q
theorem find_ix : ∀ {ts : List Str}, ts.Nodup → ∀ {j : Nat} {tag : Str}, ts[j]? = some tag → ts.findIdx (fun x => decide (x = tag)) = j
  | x :: r, hn, 0, tag, h => by
    cases h
    rw [List.findIdx_cons, decide_eq_true rfl]; rfl
  | x :: r, hn, j + 1, tag, h => by
    have h' : r[j]? = some tag := h
    have hx : ¬ x = tag := fun e => (List.nodup_cons.mp hn).1 (e ▸ List.mem_of_getElem? h')
    rw [List.findIdx_cons, decide_eq_false hx]
    show r.findIdx _ + 1 = _
    rw [find_ix (List.nodup_cons.mp hn).2 h']
theorem srt_nodup {tb : Tb} (g : Gd tb) : (srt tb).Nodup := (sortS_perm _).nodup_iff.mpr g.nodup
theorem srt_mem {tb : Tb} {tag : Str} : tag ∈ srt tb ↔ tag ∈ keysT tb := mem_sort
theorem srt_len (tb : Tb) : (srt tb).length = tb.length := sort_len tb
theorem plOf_at {tb : Tb} (g : Gd tb) {j : Nat} {tag : Str} (h : (srt tb)[j]? = some tag) : plOf tb tag = (pos tb j : Int) := by unfold plOf ix; rw [find_ix (srt_nodup g) h]
theorem pos_succ {tb : Tb} {i : Nat} {tag : Str} (h : (srt tb)[i]? = some tag) : pos tb (i + 1) = pos tb i + flen tb tag := by
  unfold pos
  rw [List.take_add_one, h, List.map_append, List.sum_append]
  simp only [Option.toList_some, List.map_cons, List.map_nil, List.sum_cons, List.sum_nil]
  omega
theorem sum_le {c : Nat} : ∀ {l : List Nat}, (∀ x ∈ l, x ≤ c) → l.sum ≤ c * l.length
  | [], _ => by simp
  | x :: r, h => by
    have := sum_le fun y hy => h y (.tail _ hy)
    have := h x (.head _)
    rw [List.sum_cons, List.length_cons, Nat.mul_succ]; omega
theorem flen_le {tb : Tb} (g : Gd tb) {tag : Str} (h : tag ∈ keysT tb) : flen tb tag ≤ 103 := by
  have h1 := fil_le (lk tb tag)
  have h2 := g.size _ (lk_mem h)
  unfold flen; dsimp only at h2; omega
theorem pos_le {tb : Tb} (g : Gd tb) (i : Nat) (hi : i ≤ tb.length) : pos tb i ≤ 1000 := by
  have h1 : (((srt tb).take i).map (flen tb)).sum ≤ 103 * (((srt tb).take i).map (flen tb)).length := sum_le fun x hx => by
    obtain ⟨t, ht, rfl⟩ := List.mem_map.mp hx
    exact flen_le g (srt_mem.mp (List.mem_of_mem_take ht))
  have h2 : (((srt tb).take i).map (flen tb)).length ≤ i := by rw [List.length_map, List.length_take]; omega
  have h5 := g.five
  unfold pos; omega
theorem plL_succ {tb : Tb} {i : Nat} {tag : Str} (h : (srt tb)[i]? = some tag) : plL tb (i + 1) = plL tb i ++ [(tag, plOf tb tag)] := by
  unfold plL; rw [List.take_add_one, h, List.map_append]; rfl
theorem plL_keys (tb : Tb) (i : Nat) : (plL tb i).map (·.1) = (srt tb).take i := by
  unfold plL; rw [List.map_map]; exact List.map_id _
theorem not_in_take {ts : List Str} (hn : ts.Nodup) {i : Nat} {tag : Str} (h : ts[i]? = some tag) : tag ∉ ts.take i := by
  intro hm
  obtain ⟨j, hj, e⟩ := List.getElem_of_mem hm
  have hj' : j < i := by rw [List.length_take] at hj; omega
  have e1 : ts[j]? = some tag := by rw [← List.getElem?_take_of_lt hj', List.getElem?_eq_getElem hj, e]
  have := find_ix hn e1
  rw [find_ix hn h] at this
  omega
theorem stored_new' {kvs : List (Str × Value)} {k : Str} {v : Value} (h : k ∉ kvs.map (·.1)) : stored kvs k v = kvs ++ [(k, v)] := by
  unfold stored
  rw [if_neg]
  intro hq
  obtain ⟨q, hq1, hq2⟩ := List.any_eq_true.mp hq
  exact h (List.mem_map.mpr ⟨q, hq1, by simpa using hq2⟩)

noncomputable def bodyN (tb : Tb) (i : Nat) : List UInt8 := dirO tb (plOf tb) ++ ((srt tb).take i).flatMap fun tag => fil (plT tag (lk tb tag))
noncomputable def bodyO (tb : Tb) : List UInt8 := bodyN tb tb.length
noncomputable def adjO (tb : Tb) : Int := (2981146554 - sumO (bodyO tb)) % 4294967296
noncomputable def fontO (tb : Tb) : List UInt8 := if (keysT tb).contains (Str.ofString "head") then (bodyO tb).take ((plOf tb (Str.ofString "head")).toNat + 8) ++ be32 (adjO tb) ++ (bodyO tb).drop ((plOf tb (Str.ofString "head")).toNat + 12) else bodyO tb
theorem plT_le (tag : Str) (l : List UInt8) : (plT tag l).length ≤ l.length + 12 := by
  unfold plT
  split
  · exact plainH_le l
  · omega
theorem flat_le {α : Type} {f : α → List UInt8} {k : Nat} : ∀ {l : List α}, (∀ x ∈ l, (f x).length ≤ k) → (l.flatMap f).length ≤ k * l.length
  | [], _ => by simp
  | x :: r, h => by
    have := flat_le fun y hy => h y (.tail _ hy)
    have := h x (.head _)
    rw [List.flatMap_cons, List.length_append, List.length_cons, Nat.mul_succ]; omega
theorem bodyN_le {tb : Tb} (g : Gd tb) (i : Nat) (hi : i ≤ tb.length) : (bodyN tb i).length ≤ 1000 := by
  have h1 : ((((srt tb).take i).flatMap fun tag => fil (plT tag (lk tb tag))).length) ≤ 115 * ((srt tb).take i).length := flat_le fun tag ht => by
    have h1 := fil_le (plT tag (lk tb tag))
    have h2 := plT_le tag (lk tb tag)
    have h3 := g.size _ (lk_mem (srt_mem.mp (List.mem_of_mem_take ht)))
    dsimp only at h3; omega
  have h2 : ((srt tb).take i).length ≤ i := by rw [List.length_take]; omega
  have h3 := dirN_len g (plOf tb) (Nat.le_refl _)
  have h5 := g.five
  unfold bodyN dirO; rw [List.length_append]; omega
theorem bodyN_succ {tb : Tb} {i : Nat} {tag : Str} (h : (srt tb)[i]? = some tag) : bodyN tb (i + 1) = bodyN tb i ++ fil (plT tag (lk tb tag)) := by
  unfold bodyN
  rw [List.take_add_one, h, List.flatMap_append, ← List.append_assoc]
  simp

section
variable {prog : Program} {w : World} {A : Around} {E : Value → Shared → Prop} {s : Shared} {h₀ : Heap} {L : Addr} {m : Str → Option Value} {news rest : List (Addr × Obj)} {Q : Unit → Shared → Prop}
theorem d_set {d : Addr} {o : Obj} {kvs : List (Str × Value)} {tag : Str} {tt : Tok} {v : Value} (F : Fr h₀ L s.heap m) (N : News h₀ L s.heap ((d, o) :: rest)) (hne : ∀ p ∈ rest, p.1 ≠ d) (hd : o.IsDictOf (PySem.strKind prog w) kvs) (hz : kvs.length ≤ 1000)
    (h : ∀ h' o' tk, Fr h₀ L h' m → News h₀ L h' ((d, o') :: rest) → o'.IsDictOf (PySem.strKind prog w) (stored kvs tag v) → Q () { s with heap := h', toks := tk }) :
    wpAny (model prog w) A (setItem (.ref d) (.str tag tt) v) Q E s := by
  have hD : s.heap.DictOf (PySem.strKind prog w) d kvs := Heap.dictOf_iff.mpr ⟨o, N.get (.head _), hd⟩
  refine wpAny_setItem_pairs (hsz := by rw [sizeLine_eq]; omega) (PySem.strKind_is _ _ _ _) hD fun h' hd' hs => ?_
  obtain ⟨o', ho', hd''⟩ := Heap.dictOf_iff.mp hd'
  have hL : d ≠ L := (N _ (.head _)).2.1
  have hfr := N.fresh (.head _)
  refine h h' o' _ ⟨F.ns.at fun o e => (hs.2 L (Ne.symm hL)).trans e, fun b o e => (hs.2 b fun q => by rw [q, hfr] at e; cases e).trans (F.keep b o e), F.above⟩ (fun p hp => ?_) hd''
  rcases List.mem_cons.mp hp with rfl | hp
  · exact ⟨ho', hL, hfr⟩
  · have hp' := N p (.tail _ hp)
    exact ⟨(hs.2 p.1 (hne p hp)).trans hp'.1, hp'.2⟩
end

theorem dict_ne_list {prog : Program} {w : World} {h : Heap} {a d : Addr} {vs : Array Value} {e : Nat} {o : Obj} {kvs : List (Str × Value)} (h1 : h.get? a = some (listOf vs e)) (h2 : h.get? d = some o) (h3 : o.IsDictOf (PySem.strKind prog w) kvs) : d ≠ a := by
  rintro rfl
  rw [h1] at h2
  cases h2
  obtain ⟨_, _, hx, _⟩ := h3
  have := hx.1
  simp at this
theorem news2 {h₀ h : Heap} {L : Addr} {p q : Addr × Obj} {r : List (Addr × Obj)} (N : News h₀ L h (p :: q :: r)) : News h₀ L h r := fun x hx => N x (.tail _ (.tail _ hx))
theorem news1 {h₀ h : Heap} {L : Addr} {p : Addr × Obj} {r : List (Addr × Obj)} (N : News h₀ L h (p :: r)) : News h₀ L h r := fun x hx => N x (.tail _ hx)
theorem PV.len {kvs : List (Str × Value)} {l : List (Str × Int)} (h : PV kvs l) : kvs.length = l.length := Paired.length h

section
variable {w : World} {A : Around} {E : Value → Shared → Prop} {s : Shared} {h₀ : Heap} {L d : Addr} {o : Obj} {news : List (Addr × Obj)} {Q : Value → Shared → Prop} {kvs : List (Str × Value)} {tag : Str} {tt : Tok} {v : Value} {value slice : PySem.Expr}
theorem d_item_n (N : News h₀ L s.heap news) (hm : (d, o) ∈ news) (hd : o.IsDictOf (PySem.strKind PySem.Challenge.rw_nu0014_01.row.prog w) kvs) (hv : valueAt kvs tag = some v) (h : Q v { s with toks := s.toks + 1 })
    (hs : subscripted slice false (.ref d) (.str tag tt) = operate [.ref d, .str tag tt] (getItem (.ref d) (.str tag tt)) := by with_unfolding_all rfl) :
    wpAny (model PySem.Challenge.rw_nu0014_01.row.prog w) A (subscriptTail value slice (.ref d) (.str tag tt)) Q E s := d_item (Heap.dictOf_iff.mpr ⟨o, N.get hm, hd⟩) hv h hs
end

theorem words_17_1 : True := by
  (k_with "subscriptTail" => ((k_here; (with_reducible show wpAny _ _ (subscriptTail _ _ (Value.ref _) (Value.str _ _)) _ _ _); k_dflt (refine' d_item_n (by k_asm) (by k_mem) (by assumption) (by assumption) ?_))))
  (k_with "setItem ref str" => ((k_here; k_dflt (refine' d_set (by k_asm) (by k_asm) (by assumption) (by assumption) (by k_extra "mside") ?_); (intro hzq ozq nzq Fzq Nzq hdzq; (try k_sweep)))))
  (k_with "call ref" => ((k_here; (with_reducible show wpAny _ _ (call (Value.ref 135) _) _ _ _); k_dflt (refine' Gives.use (g_has (by k_extra "mK") (by k_extra "mT") (by k_extra "mroom") (by k_extra "mtab") (by assumption) (by k_extra "mdict")) (by k_asm) (by k_asm) ?_); (intro vzq hzq nzq hpzq Fzq Nzq stzq; subst hpzq; (try k_sweep)))))
  trivial

section
variable {w : World} {d u : Nat} {fr : Option (List Env)} {gs : Option (List Code)} {s : Shared} {p : Program} {loose : List Str} {mg mb : Str → Option Value}

set_option maxHeartbeats 2000000 in
theorem g_write_tables {x dd : Addr} {kvs : List (Str × Value)} {tb : Tb}
    (X : (hd.heap_1 w.params).In s.heap) (T : TopRead p loose mg mb s.heap) (hroom : d + 60 < recursionLimit) (I : IsTab w s.heap x dd) (lo : (dd == sysModules) = false) (hD : TabD w s.heap dd kvs)
    (hK : KV kvs tb) (g : Gd tb) :
    Gives w ⟨none, d, fr, gs, u⟩ 219 [.ref x] s (fun v _ => ∃ u, v = .bytes (fontO tb).toArray u) := by
  intro E Q hQ
  have hkl := hK.len
  have h1 := g.one
  have h5 := g.five
  refine wpAny_call (enterF [("tables", .ref x)] X T rfl (by rfl) (by simp only; omega) rfl (locs rfl) (fun h₁ n F N => ?_))
  k_extra "go"
  rename StrsAre _ _ => hS
  have hlv := StrsAre.length hS
  rw [(sortS_perm _).length_eq, List.length_map, hkl] at hlv
  rename (_ == sysModules) = false => lop
  rename Obj.IsDictOf (PySem.strKind _ _) _ [] => hd0
  rename News _ _ _ (_ :: _ :: _) => N'
  have hl := N'.get (.head _)
  have hne := (N' _ (.head _)).2.1
  have N0 := news2 N'
  have hdl := dict_ne_list hl (N0.get (.head _)) hd0
  refine forList rfl ⟨_, hl, rfl, _, rfl⟩ hne (by assumption) N0 (fun p hp => by rw [List.mem_singleton.mp hp]; exact hdl)
    (fun i m news => m "tables" = some (.ref x) ∧ (∃ pd o kp, m "places" = some (.ref pd) ∧ news = [(pd, o)] ∧ (pd == sysModules) = false ∧ o.IsDictOf (PySem.strKind PySem.Challenge.rw_nu0014_01.row.prog w) kp ∧ PV kp (plL tb i)) ∧ (∃ t, m "at" = some (.int (pos tb i) t))) ⟨rfl, ⟨_, _, _, rfl, rfl, lop, hd0, .nil⟩, exI rfl ?_⟩ ?_ ?_
  · unfold pos
    rw [List.take_zero, List.map_nil, List.sum_nil]
    push_cast
    omega
  · rintro i v m₁ news₁ h tk own hv ⟨hm1, ⟨pd, o, kp, hm2, rfl, lop, hd1, hpv⟩, ⟨t, hm3⟩⟩ hnf hof - F₁ N₁
    obtain ⟨tag, tt, hti, rfl⟩ := strsAre_at hS hv
    rw [hK.keys] at hti
    have hti' : (srt tb)[i]? = some tag := hti
    have hmem : tag ∈ keysT tb := mem_sort.mp (List.mem_of_getElem? hti)
    have hil : i < tb.length := by rw [← sort_len tb]; exact (List.getElem?_eq_some_iff.mp hti).1
    obtain ⟨t1, hv1⟩ := hK.at hmem
    have hsz := g.size _ (lk_mem hmem)
    dsimp only at hsz
    have hfl := fil_le (lk tb tag)
    have hpne : ∀ p ∈ own, p.1 ≠ pd := fun p hp e => hnf (pd, o) (.head _) (e ▸ hof p hp)
    have hkl1 : kp.length ≤ 1000 := by rw [hpv.len]; unfold plL; rw [List.length_map, List.length_take]; omega
    have hnk : tag ∉ kp.map (·.1) := by rw [hpv.keys, plL_keys]; exact not_in_take (srt_nodup g) hti'
    k_sweep
    simp only [List.cons_append, List.nil_append] at N₁
    k_extra "go"
    rename Obj.IsDictOf (PySem.strKind _ _) _ (stored _ _ _) => hd2
    rename News _ _ _ ((pd, _) :: _) => N2
    rename Obj => o2
    refine' TurnEnd.intro [(pd, o2)] ?_ ?_ ?_ ?_
    rotate_left
    · assumption
    · exact N2
    · exact fun p hp => by rw [List.mem_singleton.mp hp]; exact hnf (pd, o) (List.mem_singleton.mpr rfl)
    · refine ⟨hm1, ⟨_, _, _, hm2, rfl, lop, hd2, ?_⟩, exI rfl ?_⟩
      · rw [stored_new' hnk, plL_succ hti', plOf_at g hti']
        exact Paired.snoc hpv ⟨rfl, _, rfl⟩
      · rw [pos_succ hti']
        unfold flen
        push_cast
        rfl
  · rintro h tk m₁ news₁ ⟨hm1, ⟨pd, o, kp, hm2, rfl, lop, hd1, hpv⟩, ⟨t, hm3⟩⟩ F₁ N₁
    k_sweep
    k_extra "go"
    have hDp : TabD w h pd kp := Heap.dictOf_iff.mpr ⟨o, N₁.get (.head _), hd1⟩
    have hfull : ∀ tag ∈ keysT tb, ∃ t, valueAt kp tag = some (.int (plOf tb tag) t) := fun tag ht => hpv.at (f := plOf tb) (fun r hr => by obtain ⟨q, _, rfl⟩ := List.mem_map.mp hr; rfl) (by
      rw [plL_keys, hlv, ← srt_len tb, List.take_length]; exact srt_mem.mpr ht)
    refine' Gives.use (g_directory_octets (pl := plOf tb) ?gX ?gT ?gr ?gI lo ?gD hK g hDp ?gp) ?gF ?gN ?_
    (case gX => k_extra "mK")
    (case gT => k_extra "mT")
    (case gr => k_extra "mroom")
    (case gI => k_extra "mtab")
    (case gD => k_extra "mdict")
    (case gp => exact fun tag ht => ⟨by unfold plOf; omega, hfull tag ht⟩)
    (case gF => k_asm)
    (case gN => k_asm)
    intro v' h' n' hp' F' N' st'
    obtain ⟨t2, hp2⟩ := hp'
    subst hp2
    clear F₁ N₁ hDp st'
    k_sweep
    k_extra "go"
    rename StrsAre _ _ => hS2
    have hlv2 := StrsAre.length hS2
    rw [(sortS_perm _).length_eq, List.length_map, hkl] at hlv2
    rename News _ _ _ (_ :: _) => N2
    have hl2 := N2.get (.head _)
    have hne2 := (N2 _ (.head _)).2.1
    have N3 := news1 N2
    have hdl2 := dict_ne_list hl2 (N3.get (.head _)) hd1
    refine forList rfl ⟨_, hl2, rfl, _, rfl⟩ hne2 (by assumption) N3 (fun p hp => by rw [List.mem_singleton.mp hp]; exact hdl2)
      (fun i m news => m "tables" = some (.ref x) ∧ m "places" = some (.ref pd) ∧ news = [(pd, o)] ∧ (∃ t, m "found" = some (.bytes (bodyN tb i).toArray t))) ⟨by exact hm1, by exact hm2, rfl, exB (by exact rfl) ?_⟩ ?_ ?_
    · unfold bodyN
      rw [List.take_zero, List.flatMap_nil, List.append_nil]
    · rintro i v m₁ news₁ h tk own hv ⟨hm1, hm2, rfl, ⟨t, hm3⟩⟩ hnf hof - F₁ N₁
      obtain ⟨tag, tt, hti, rfl⟩ := strsAre_at hS2 hv
      rw [hK.keys] at hti
      have hti' : (srt tb)[i]? = some tag := hti
      have hmem : tag ∈ keysT tb := mem_sort.mp (List.mem_of_getElem? hti)
      have hil : i < tb.length := by rw [← sort_len tb]; exact (List.getElem?_eq_some_iff.mp hti).1
      obtain ⟨t1, hv1⟩ := hK.at hmem
      have hsz := g.size _ (lk_mem hmem)
      dsimp only at hsz
      have hph := plainH_le (lk tb tag)
      have hfl := fil_le (lk tb tag)
      have hfp := fil_le (plainH (lk tb tag))
      have hbn := bodyN_le g i (Nat.le_of_lt hil)
      k_sweep
      k_extra "go"
      · refine' TurnEnd.intro [(pd, o)] ?_ ?_ ?_ ?_
        rotate_left
        · assumption
        · assumption
        · exact fun p hp => by rw [List.mem_singleton.mp hp]; exact hnf (pd, o) (List.mem_singleton.mpr rfl)
        · refine ⟨hm1, hm2, rfl, exB rfl ?_⟩
          rw [bodyN_succ hti']
          unfold plT
          rw [if_pos (by assumption)]
      · refine' TurnEnd.intro [(pd, o)] ?_ ?_ ?_ ?_
        rotate_left
        · assumption
        · assumption
        · exact fun p hp => by rw [List.mem_singleton.mp hp]; exact hnf (pd, o) (List.mem_singleton.mpr rfl)
        · refine ⟨hm1, hm2, rfl, exB rfl ?_⟩
          rw [bodyN_succ hti']
          unfold plT
          rw [if_neg (Bool.eq_false_iff.mp (by assumption))]
    · rintro h tk m₁ news₁ ⟨hm1, hm2, rfl, ⟨t, hm3⟩⟩ F₁ N₁
      rw [hlv2] at hm3
      have hbl := bodyN_le g tb.length (Nat.le_refl _)
      have hDp : TabD w h pd kp := Heap.dictOf_iff.mpr ⟨o, N₁.get (.head _), hd1⟩
      by_cases hh : Str.ofString "head" ∈ keysT tb
      · have hhas : (valueAt kvs (Str.ofString "head")).isSome = true := by obtain ⟨t, e⟩ := hK.at hh; rw [e]; rfl
        obtain ⟨t3, hv3⟩ := hfull _ hh
        have hps : 0 ≤ plOf tb (Str.ofString "head") := by unfold plOf; omega
        k_sweep
        k_extra "go"
        (try dsimp only)
        refine endB hQ (Fr.keep (by assumption)) ?_
        have e1 : (plOf tb (Str.ofString "head") + 8).toNat = (plOf tb (Str.ofString "head")).toNat + 8 := by omega
        have e2 : (plOf tb (Str.ofString "head") + 8 + 4).toNat = (plOf tb (Str.ofString "head")).toNat + 12 := by omega
        rw [e1, e2]
        unfold fontO adjO bodyO
        rw [if_pos (List.contains_iff_mem.mpr hh)]
      · have hhas : (valueAt kvs (Str.ofString "head")).isSome = false := by rw [hK.none hh]; rfl
        k_sweep
        k_extra "go"
        (try dsimp only)
        refine endB hQ (Fr.keep (by assumption)) ?_
        unfold fontO bodyO
        rw [if_neg]
        rw [List.contains_iff_mem]
        exact hh
end

/-- the call changes no object but those in `hid` -/
noncomputable def KeptBut (hid : List Addr) (h h' : Heap) : Prop := ∀ b o, b ∉ hid → h.get? b = some o → h'.get? b = some o
theorem frOver {h₀ h h' : Heap} {L : Addr} {m : Str → Option Value} {hid : List Addr} (F : Fr h₀ L h m) (hL : L ∉ hid) (hb : ∀ a ∈ hid, h₀.get? a = none) (k : KeptBut hid h h') : Fr h₀ L h' m :=
  ⟨F.ns.at fun o e => k _ _ hL e, fun b o e => k _ _ (fun hm => by rw [hb b hm] at e; cases e) (F.keep b o e), F.above⟩
theorem hidKeep {h h' : Heap} {L : Addr} {m : Str → Option Value} {hid : List Addr} (F : Fr (hideAll h hid) L h' m) : KeptBut hid h h' := fun b o hb e => F.keep b o (hideAll_get _ e hb)
theorem KeptBut.trans {hid : List Addr} {h h' h'' : Heap} (a : KeptBut hid h h') (b : KeptBut hid h' h'') : KeptBut hid h h'' := fun x o hx e => b x o hx (a x o hx e)
theorem newsOver {h₀ h h' : Heap} {L : Addr} {news : List (Addr × Obj)} {hid : List Addr} (N : News h₀ L h news) (k : KeptBut hid h h') (hn : ∀ p ∈ news, p.1 ∉ hid) : News h₀ L h' news := fun p hp => ⟨k _ _ (hn p hp) (N p hp).1, (N p hp).2⟩
theorem staysHid {h₀ h : Heap} {L : Addr} {m : Str → Option Value} {hid : List Addr} (F : Fr h₀ L h m) (hb : ∀ a ∈ hid, h₀.get? a = none) : ∀ b o, h₀.get? b = some o → (hideAll h hid).get? b = some o := fun b o e =>
  hideAll_get _ (F.keep b o e) fun hm => by rw [hb b hm] at e; cases e

/-- entering, with objects hidden, a def whose body never raises -/
theorem enterHF {prog : Program} {w : World} {A : Around} {s : Shared} {p : Program} {loose : List Str} {mg mb : Str → Option Value} {K : Frag} (hid : List (Addr × Obj))
    {R : Result → Shared → Prop} {name qual : Str} {params : Arguments} {body : List Stmt} {scope : Scope} {dV kV doc pm cdv ct oc : Value} {an od : Option Addr} {osl : Array (Option Value)} {f : Addr} {args : Args} (binds : List (Str × Value))
    (X : K.In s.heap) (T : TopRead p loose mg mb s.heap)
    (ho : K.lookup f = some ⟨oc, od, .func (fnOf name qual params body scope dV kV doc pm an cdv ct), osl⟩) (hcd : codeIn K cdv qual = true) (hroom : A.depth < recursionLimit)
    (hbind : bindArgs (fnOf name qual params body scope dV kV doc pm an cdv ct) args = pure binds) (hloc : ∀ y ∈ binds, scope.names.lookup y.1 = some .local)
    (hh : ∀ p ∈ hid, s.heap.get? p.1 = some p.2)
    (h : ∀ h₁ n, Fr (hideAll s.heap (hid.map (·.1))) s.heap.objs.size h₁ (fun y => binds.reverse.lookup y) → News (hideAll s.heap (hid.map (·.1))) s.heap.objs.size h₁ hid →
      wpAny (model prog w) (A.deeper (envOf qual scope s.heap.objs.size f cdv)) (execs body (envOf qual scope s.heap.objs.size f cdv))
        (fun fl s' => R (.ok (.ret (match fl with | .ret v => v | _ => .none))) s') (fun _ _ => False)
        { s with heap := h₁, toks := n })
    (hco : scope.isCoroutine = false := by rfl) (hgen : scope.isGenerator = false := by rfl) (hk : scope.kind = .function := by rfl)
    (hcell : ∀ x ∈ scope.names, x.2 ≠ .cell := by decide) : codeAny (model prog w) A (.call (.ref f) args) R s :=
  enterH hid X T ho hcd hroom hbind hloc hh (fun h₁ F N => wpAny_mono (h h₁ _ F N) (fun _ _ x => x) fun _ _ x => x.elim) hco hgen hk hcell

theorem newsBack {h₀ h' h'' base : Heap} {L L' x dx : Addr} {ox od od' : Obj} {news : List (Addr × Obj)} (N : News h₀ L h' ((x, ox) :: (dx, od) :: news)) (N₂ : News base L' h'' [(x, ox), (dx, od')]) (kb : KeptBut [x, dx] h' h'') (hn : ∀ p ∈ news, p.1 ∉ [x, dx]) :
    News h₀ L h'' ((x, ox) :: (dx, od') :: news) := fun p hp => by
  rcases List.mem_cons.mp hp with rfl | hp
  · exact ⟨(N₂ _ (.head _)).1, (N _ (.head _)).2⟩
  rcases List.mem_cons.mp hp with rfl | hp
  · exact ⟨(N₂ _ (.tail _ (.head _))).1, (N _ (.tail _ (.head _))).2⟩
  · have := N p (.tail _ (.tail _ hp))
    exact ⟨kb _ _ (hn p hp) this.1, this.2⟩
abbrev rowD (w : World) (t1 t2 t3 t4 : Tok) (a b c e : Value) : Obj := dictOf [⟨PyData.keyHash w.params (Str.ofString "tag"), .str (Str.ofString "tag") t1, a⟩, ⟨PyData.keyHash w.params (Str.ofString "told_sum"), .str (Str.ofString "told_sum") t2, b⟩,
  ⟨PyData.keyHash w.params (Str.ofString "place"), .str (Str.ofString "place") t3, c⟩, ⟨PyData.keyHash w.params (Str.ofString "size"), .str (Str.ofString "size") t4, e⟩] 4
abbrev tabD (w : World) (t1 : Tok) (n1 : Nat) (a : Value) : Obj := dictOf [⟨PyData.keyHash w.params (Str.ofString "rows"), .str (Str.ofString "rows") t1, a⟩] n1
section
variable {w : World} {d u : Nat} {fr : Option (List Env)} {gs : Option (List Code)} {s : Shared} {p : Program} {loose : List Str} {mg mb : Str → Option Value}
  {h₀ : Heap} {L : Addr} {m : Str → Option Value} {news : List (Addr × Obj)} {E Q : Value → Shared → Prop}

set_option maxHeartbeats 2000000 in
theorem mk_row {a b c e : Value} (F : Fr h₀ L s.heap m) (N : News h₀ L s.heap news) (X : (hd.heap_1 w.params).In h₀) (T : TopRead p loose mg mb h₀) (hroom : d + 10 < recursionLimit)
    (h : ∀ x dx t1 t2 t3 t4 h' tk, Fr h₀ L h' m → News h₀ L h' ((x, instObj 166 dx) :: (dx, rowD w t1 t2 t3 t4 a b c e) :: news) → (∀ p ∈ news, p.1 < dx) → dx < x → Q (.ref x) { s with heap := h', toks := tk }) :
    wpAny (model PySem.Challenge.rw_nu0014_01.row.prog w) ⟨none, d, fr, gs, u⟩ (call (.ref 166) [a, b, c, e]) Q E s := by
  refine' call_cls (C := 166) (fI := 163) F X N ?k1 ?k2 ?k3 fun x dx h' F' N' l1 l2 => ?_
  (case k1 => k_is)
  (case k2 => k_is)
  (case k3 => k_is)
  have hx := N' _ (.head _)
  have hdx := N' _ (.tail _ (.head _))
  have hb : ∀ q ∈ [x, dx], h₀.get? q = none := fun q hq => by
    rcases List.mem_cons.mp hq with rfl | hq
    · exact hx.2.2
    · rw [List.mem_singleton.mp hq]; exact hdx.2.2
  have hL : L ∉ [x, dx] := fun hq => by
    rcases List.mem_cons.mp hq with e | hq
    · exact hx.2.1 e.symm
    · exact hdx.2.1 (List.mem_singleton.mp hq).symm
  have hnx : ∀ p ∈ news, p.1 ∉ [x, dx] := fun p hp hq => by
    have := l1 p hp
    rcases List.mem_cons.mp hq with e | hq
    · exact Nat.lt_irrefl _ (Nat.lt_trans (e ▸ this) l2)
    · exact Nat.lt_irrefl _ (List.mem_singleton.mp hq ▸ this)
  have Xk := X
  have Tk := T
  have X₁ : (hd.heap_1 w.params).In (hideAll h' [x, dx]) := fun b o q => staysHid F' hb b o (X b o q)
  have T₁ : TopRead p loose mg mb (hideAll h' [x, dx]) := T.keeps (staysHid F' hb)
  have l2' := l2
  k_lt2 l2'
  refine enterHF [(x, instObj 166 dx), (dx, dictOf [] 0)] [("self", .ref x), ("tag", a), ("told_sum", b), ("place", c), ("size", e)] (Frag.In.keeps X F'.keep) (T.keeps F'.keep) rfl (by rfl) (by rw [depth_under_make]; dsimp only; omega) rfl (locs rfl) (fun p hp => ?_) (fun h₁ n F₁ N₁ => ?_)
  · rcases List.mem_cons.mp hp with rfl | hp
    · exact hx.1
    · rw [List.mem_singleton.mp hp]; exact hdx.1
  simp only [List.map_cons, List.map_nil] at F₁ N₁
  clear X T F N Xk Tk
  generalize hF' : (⟨F', N'⟩ : Fr h₀ L h' m ∧ _) = FN'
  clear hF' F' N'
  k_extra "go"
  rename Fr _ _ _ _ => F₂
  rename News _ _ _ _ => N₂
  refine ⟨rfl, ?_⟩
  have kb := hidKeep F₂
  exact h x dx _ _ _ _ _ _ (frOver FN'.1 hL hb kb) (newsBack FN'.2 N₂ kb hnx) l1 l2

set_option maxHeartbeats 2000000 in
theorem mk_tab {a : Value} (F : Fr h₀ L s.heap m) (N : News h₀ L s.heap news) (X : (hd.heap_1 w.params).In h₀) (T : TopRead p loose mg mb h₀) (hroom : d + 10 < recursionLimit)
    (h : ∀ x dx t1 n1 h' tk, Fr h₀ L h' m → News h₀ L h' ((x, instObj 145 dx) :: (dx, tabD w t1 n1 a) :: news) → (∀ p ∈ news, p.1 < dx) → dx < x → Q (.ref x) { s with heap := h', toks := tk }) :
    wpAny (model PySem.Challenge.rw_nu0014_01.row.prog w) ⟨none, d, fr, gs, u⟩ (call (.ref 145) [a]) Q E s := by
  refine' call_cls (C := 145) (fI := 121) F X N ?k1 ?k2 ?k3 fun x dx h' F' N' l1 l2 => ?_
  (case k1 => k_is)
  (case k2 => k_is)
  (case k3 => k_is)
  have hx := N' _ (.head _)
  have hdx := N' _ (.tail _ (.head _))
  have hb : ∀ q ∈ [x, dx], h₀.get? q = none := fun q hq => by
    rcases List.mem_cons.mp hq with rfl | hq
    · exact hx.2.2
    · rw [List.mem_singleton.mp hq]; exact hdx.2.2
  have hL : L ∉ [x, dx] := fun hq => by
    rcases List.mem_cons.mp hq with e | hq
    · exact hx.2.1 e.symm
    · exact hdx.2.1 (List.mem_singleton.mp hq).symm
  have hnx : ∀ p ∈ news, p.1 ∉ [x, dx] := fun p hp hq => by
    have := l1 p hp
    rcases List.mem_cons.mp hq with e | hq
    · exact Nat.lt_irrefl _ (Nat.lt_trans (e ▸ this) l2)
    · exact Nat.lt_irrefl _ (List.mem_singleton.mp hq ▸ this)
  have Xk := X
  have Tk := T
  have X₁ : (hd.heap_1 w.params).In (hideAll h' [x, dx]) := fun b o q => staysHid F' hb b o (X b o q)
  have T₁ : TopRead p loose mg mb (hideAll h' [x, dx]) := T.keeps (staysHid F' hb)
  have l2' := l2
  k_lt2 l2'
  refine enterHF [(x, instObj 145 dx), (dx, dictOf [] 0)] [("self", .ref x), ("rows", a)] (Frag.In.keeps X F'.keep) (T.keeps F'.keep) rfl (by rfl) (by rw [depth_under_make]; dsimp only; omega) rfl (locs rfl) (fun p hp => ?_) (fun h₁ n F₁ N₁ => ?_)
  · rcases List.mem_cons.mp hp with rfl | hp
    · exact hx.1
    · rw [List.mem_singleton.mp hp]; exact hdx.1
  simp only [List.map_cons, List.map_nil] at F₁ N₁
  clear X T F N Xk Tk
  generalize hF' : (⟨F', N'⟩ : Fr h₀ L h' m ∧ _) = FN'
  clear hF' F' N'
  k_extra "go"
  rename Fr _ _ _ _ => F₂
  rename News _ _ _ _ => N₂
  refine ⟨rfl, ?_⟩
  have kb := hidKeep F₂
  exact h x dx _ _ _ _ (frOver FN'.1 hL hb kb) (newsBack FN'.2 N₂ kb hnx) l1 l2
end

abbrev Row4 := Str × Int × Int × Int
noncomputable def rowAt (f : List UInt8) (i : Nat) : Row4 := (strOf (part f (12 + 16 * i) 4), rd32 f (12 + 16 * i + 4), rd32 f (12 + 16 * i + 8), rd32 f (12 + 16 * i + 12))
noncomputable def rowsOf (f : List UInt8) (n : Nat) : List Row4 := (List.range n).map (rowAt f)
/-- octets that hold a directory of n rows -/
structure Dir (f : List UInt8) (n : Nat) : Prop where
  ver : rd32 f 0 = 65536
  cnt : rd16 f 4 = n
  n8 : n ≤ 8
  len : f.length ≤ 2000
  room : 12 + 16 * n ≤ f.length
  tag : ∀ i, i < n → ∀ j, j < 4 → 32 ≤ b8 (part f (12 + 16 * i) 4) j ∧ b8 (part f (12 + 16 * i) 4) j ≤ 126
  fits : ∀ i, i < n → rd32 f (12 + 16 * i + 8) + rd32 f (12 + 16 * i + 12) ≤ f.length
noncomputable def RowIn (w : World) (rs : List (Addr × Obj)) (v : Value) (r : Row4) : Prop := ∃ x dx t1 t2 t3 t4 a1 a2 a3 a4, v = .ref x ∧ (x, instObj 166 dx) ∈ rs ∧ (dx, rowD w t1 t2 t3 t4 (.str r.1 a1) (.int r.2.1 a2) (.int r.2.2.1 a3) (.int r.2.2.2 a4)) ∈ rs
theorem RowIn.mono {w : World} {rs rs' : List (Addr × Obj)} {v : Value} {r : Row4} (h : ∀ p ∈ rs, p ∈ rs') (x : RowIn w rs v r) : RowIn w rs' v r := let ⟨a, b, c, e, f, g, i, j, k, l, q1, q2, q3⟩ := x; ⟨a, b, c, e, f, g, i, j, k, l, q1, h _ q2, h _ q3⟩
abbrev RowsIn (w : World) (rs : List (Addr × Obj)) (vs : List Value) (rows : List Row4) : Prop := Paired (RowIn w rs) vs rows
theorem newsHd {h₀ h : Heap} {L : Addr} {p : Addr × Obj} {r : List (Addr × Obj)} (N : News h₀ L h (p :: r)) : News h₀ L h [p] := fun x hx => N x (by rw [List.mem_singleton.mp hx]; exact .head _)
local macro_rules | `(tactic| k_mem) => `(tactic| assumption)
local macro_rules | `(tactic| k_all) => `(tactic| assumption)
theorem words_19_1 : True := by
  (k_with "call ref" => ((k_here; (with_reducible show wpAny _ _ (call (Value.ref 102) _) _ _ _); k_dflt (refine' Gives.use (g_tag_of (by k_extra "mK") (by k_extra "mT") (by k_extra "mroom") (by k_extra "mside") (by k_extra "mside") (by k_extra "mside") (by walk_at "mtag")) (by k_asm) (by k_asm) ?_); k_extra "mdone")))
  (k_with "mtag" => (assumption))
  (k_with "call ref" => ((k_here; (with_reducible show wpAny _ _ (call (Value.ref 166) _) _ _ _); k_dflt (refine' mk_row (by k_asm) (by k_asm) (by k_asm) (by k_asm) (by k_extra "mroom") ?_); intro xzq dxzq t1zq t2zq t3zq t4zq hzq tkzq Fzq Nzq l1zq l2zq; (have l3zq := l1zq); (try k_lt l1zq); (try k_lt2 l2zq); (try k_sweep))))
  (k_with "call builtin:list.append" => ((k_here; (try dsimp only [List.cons_append, List.nil_append]); (with_reducible show wpAny _ _ (call (Value.builtin _) [Value.ref _, _]) _ _ _); k_dflt (refine' append_K (by k_asm) (by k_asm) (by k_upd) ?_ (by (rw [List.size_toArray, sizeLine_eq]; omega))); intro hzq Fzq Nzq; (try k_sweep))))
  trivial

theorem dir_turn {w : World} {h₀ h' : Heap} {L l x' dx' it : Addr} {m' : Str → Option Value} {own rs : List (Addr × Obj)} {vs : List Value} {e i tk : Nat} {oi : Obj} {f : List UInt8} {t t1 t2 t3 t4 a1 a2 a3 a4 : Tok} {tg : Str} {a b c : Int} {s₁ : Shared} {Q : Flow → Shared → Prop}
    (F : Fr h₀ L h' m') (N : News h₀ L h' ((x', instObj 166 dx') :: (dx', rowD w t1 t2 t3 t4 (.str tg a1) (.int a a2) (.int b a3) (.int c a4)) :: (l, listOf (vs.toArray.push (.ref x')) (e + 1)) :: (rs ++ own)))
    (l3 : ∀ p ∈ (l, listOf vs.toArray e) :: (rs ++ own), p.1 < dx') (l2 : dx' < x') (hoi : (it, oi) ∈ own) (hnf : ∀ p ∈ (l, listOf vs.toArray e) :: rs, p.1 ∉ [it]) (hR : RowsIn w rs vs ((List.range i).map (rowAt f))) (hrl : ∀ p ∈ rs, p.1 ≠ l)
    (hrow : (tg, a, b, c) = rowAt f i) (hw : m' "octets" = some (.bytes f.toArray t)) (hfd : m' "found" = some (.ref l)) :
    TurnEnd h₀ L own [it] (fun m news => m "octets" = some (.bytes f.toArray t) ∧ (∃ l vs e rs, m "found" = some (.ref l) ∧ news = (l, listOf vs.toArray e) :: rs ∧ RowsIn w rs vs ((List.range (i + 1)).map (rowAt f)) ∧ ∀ p ∈ rs, p.1 ≠ l)) s₁ Q .next { s₁ with heap := h', toks := tk } := by
  have li := l3 _ (.tail _ (List.mem_append_right _ hoi))
  have ll := l3 _ (.head _)
  rw [List.push_toArray] at N
  refine TurnEnd.intro ((l, listOf (vs ++ [Value.ref x']).toArray (e + 1)) :: (x', instObj 166 dx') :: (dx', rowD w t1 t2 t3 t4 (.str tg a1) (.int a a2) (.int b a3) (.int c a4)) :: rs) F (fun p hp => ?_) (fun p hp => ?_) ⟨hw, _, vs ++ [Value.ref x'], _, _, hfd, rfl, ?_, fun p hp => ?_⟩
  · rcases List.mem_cons.mp hp with rfl | hp
    · exact N _ (.tail _ (.tail _ (.head _)))
    rcases List.mem_cons.mp hp with rfl | hp
    · exact N _ (.head _)
    rcases List.mem_cons.mp hp with rfl | hp
    · exact N _ (.tail _ (.head _))
    · exact N _ (.tail _ (.tail _ (.tail _ hp)))
  · rcases List.mem_cons.mp hp with rfl | hp
    · exact hnf (l, listOf vs.toArray e) (.head _)
    rcases List.mem_cons.mp hp with rfl | hp
    · exact fun q => absurd (List.mem_singleton.mp q) (Nat.ne_of_gt (Nat.lt_trans li l2))
    rcases List.mem_cons.mp hp with rfl | hp
    · exact fun q => absurd (List.mem_singleton.mp q) (Nat.ne_of_gt li)
    · exact hnf _ (.tail _ hp)
  · rw [List.range_succ, List.map_append]
    refine Paired.snoc (Paired.mono (fun _ _ q => q.mono fun p hp => .tail _ (.tail _ hp)) hR) ⟨x', dx', t1, t2, t3, t4, a1, a2, a3, a4, rfl, .head _, ?_⟩
    rw [← hrow]
    exact .tail _ (.head _)
  · rcases List.mem_cons.mp hp with rfl | hp
    · exact Nat.ne_of_gt (Nat.lt_trans ll l2)
    rcases List.mem_cons.mp hp with rfl | hp
    · exact Nat.ne_of_gt ll
    · exact hrl p hp

section
variable {w : World} {d u : Nat} {fr : Option (List Env)} {gs : Option (List Code)} {s : Shared} {p : Program} {loose : List Str} {mg mb : Str → Option Value}

set_option maxHeartbeats 4000000 in
theorem g_read_directory {f : List UInt8} {n' : Nat} {t : Tok} (D : Dir f n')
    (X : (hd.heap_1 w.params).In s.heap) (T : TopRead p loose mg mb s.heap) (hroom : d + 40 < recursionLimit) :
    GivesN w ⟨none, d, fr, gs, u⟩ 177 [.bytes f.toArray t] s (fun v nw => ∃ a vs e rs, v = .ref a ∧ nw = (a, listOf vs.toArray e) :: rs ∧ RowsIn w rs vs (rowsOf f n') ∧ ∀ p ∈ rs, p.1 ≠ a) := by
  intro E Q hQ
  have hlen := D.len
  have hroom' := D.room
  have hn8 := D.n8
  have hver := D.ver
  have hcnt := D.cnt
  have hin : ([65536, 1953658213].any fun x => x == rd32 f (Int.toNat 0)) = true := by show ([65536, 1953658213].any fun x => x == rd32 f 0) = true; rw [hver]; rfl
  refine wpAny_call (enterF [("octets", .bytes f.toArray t)] X T rfl (by rfl) (by simp only; omega) rfl (locs rfl) (fun h₁ n F N => ?_))
  k_extra "go"
  rename IsRange _ _ _ _ _ _ _ _ => hR
  rename IsRange _ _ _ _ _ _ _ _ => hR
  rename News _ _ _ ((_, listOf _ _) :: _ :: _) => N2
  have e4 : rd16 f (Int.toNat 4) = (n' : Int) := hcnt
  refine forRange (n := n') rfl hR ?_ ?_ (by assumption) (newsHd N2) (fun i m news => m "octets" = some (.bytes f.toArray t) ∧ (∃ l vs e rs, m "found" = some (.ref l) ∧ news = (l, listOf vs.toArray e) :: rs ∧ RowsIn w rs vs ((List.range i).map (rowAt f)) ∧ ∀ p ∈ rs, p.1 ≠ l)) ⟨rfl, ⟨_, [], _, _, rfl, rfl, .nil, fun _ h => nomatch h⟩⟩ ?_ ?_
  · rw [e4]; exact range_small (by omega) (by omega) (by omega)
  · rw [e4, PyProof.Rows.rangeSize_nat]; omega
  · rintro i t₁ m₁ news₁ h tk own hi ⟨hw, ⟨l, vs, e, rs, hfd, rfl, hR, hrl⟩⟩ hnf hof ⟨oi, hoi⟩ F₁ N₁
    have hvl := hR.length
    rw [List.length_map, List.length_range] at hvl
    have hol : ∀ p ∈ own, p.1 ≠ l := fun p hp e => hnf _ (.head _) (e ▸ hof p hp)
    have hrl2 : ∀ p ∈ rs ++ own, p.1 ≠ l := fun p hp => (List.mem_append.mp hp).elim (hrl p) (hol p)
    have hk : (12 + 16 * ((0 : Int) + (i : Int) * 1)).toNat = 12 + 16 * i := by omega
    have htag : ∀ j, j < 4 → 32 ≤ b8 (part f (12 + 16 * ((0 : Int) + (i : Int) * 1)).toNat 4) j ∧ b8 (part f (12 + 16 * ((0 : Int) + (i : Int) * 1)).toNat 4) j ≤ 126 := by rw [hk]; exact D.tag i hi
    have hfit := D.fits i hi
    rw [show 12 + 16 * i + 8 = (12 + 16 * ((0 : Int) + (i : Int) * 1) + 8).toNat by omega, show 12 + 16 * i + 12 = (12 + 16 * ((0 : Int) + (i : Int) * 1) + 12).toNat by omega] at hfit
    simp only [List.cons_append] at N₁
    k_sweep
    k_extra "go"
    refine dir_turn (by assumption) (by assumption) (by assumption) (by assumption) hoi hnf hR hrl ?_ (by exact hw) (by exact hfd)
    unfold rowAt
    rw [hk, show (12 + 16 * ((0 : Int) + (i : Int) * 1) + 4).toNat = 12 + 16 * i + 4 by omega, show (12 + 16 * ((0 : Int) + (i : Int) * 1) + 8).toNat = 12 + 16 * i + 8 by omega, show (12 + 16 * ((0 : Int) + (i : Int) * 1) + 12).toNat = 12 + 16 * i + 12 by omega]
  · rintro h tk m₁ news₁ ⟨hw, ⟨l, vs, e, rs, hfd, rfl, hR, hrl⟩⟩ F₁ N₁
    k_sweep
    k_extra "go"
    (try dsimp only)
    refine hQ _ _ _ _ ⟨l, vs, e, rs, rfl, rfl, ?_, hrl⟩ (fun q hq => ?_) (Fr.keep (by assumption))
    · exact hR
    · have := N₁ q hq
      exact ⟨this.1, this.2.2⟩
end

theorem newsTurn {h₀ h : Heap} {L : Addr} {p q : Addr × Obj} {rs : List (Addr × Obj)} (N : News h₀ L h (p :: (rs ++ [q]))) : News h₀ L h (q :: rs) := fun x hx => N x (by
  rcases List.mem_cons.mp hx with rfl | hx
  · exact .tail _ (List.mem_append_right _ (.head _))
  · exact .tail _ (List.mem_append_left _ hx))
noncomputable def cellOf (f : List UInt8) (r : Row4) : Str × List UInt8 := (r.1, part f r.2.2.1.toNat r.2.2.2.toNat)
noncomputable def tbOf (f : List UInt8) (n : Nat) : Tb := (rowsOf f n).map (cellOf f)
theorem paired_at {α β : Type} {R : α → β → Prop} : ∀ {xs : List α} {ys : List β}, Paired R xs ys → ∀ {i : Nat} {v : α}, xs[i]? = some v → ∃ r, ys[i]? = some r ∧ R v r
  | _, _, .cons h t, 0, _, e => by cases e; exact ⟨_, rfl, h⟩
  | _, _, .cons h t, i + 1, v, e => paired_at (xs := _) (ys := _) t (i := i) e
theorem rows_at {f : List UInt8} {n i : Nat} {r : Row4} (h : (rowsOf f n)[i]? = some r) : i < n ∧ r = rowAt f i := by
  unfold rowsOf at h
  rw [List.getElem?_map] at h
  obtain ⟨j, hj, rfl⟩ := Option.map_eq_some_iff.mp h
  obtain ⟨hl, e⟩ := List.getElem?_eq_some_iff.mp hj
  rw [List.length_range] at hl
  rw [List.getElem_range] at e
  exact ⟨hl, by rw [e]⟩
theorem rowsOf_len (f : List UInt8) (n : Nat) : (rowsOf f n).length = n := by unfold rowsOf; rw [List.length_map, List.length_range]
theorem tbOf_succ (f : List UInt8) (i : Nat) : tbOf f (i + 1) = tbOf f i ++ [cellOf f (rowAt f i)] := by
  unfold tbOf rowsOf; rw [List.range_succ, List.map_append, List.map_append]; rfl
theorem tb_new {f : List UInt8} {n i : Nat} (hn : (keysT (tbOf f n)).Nodup) (hi : i < n) : (rowAt f i).1 ∉ keysT (tbOf f i) := by
  intro hm
  have e : ∀ m, keysT (tbOf f m) = (List.range m).map fun j => (rowAt f j).1 := fun m => by unfold keysT tbOf rowsOf; rw [List.map_map, List.map_map]; rfl
  rw [e] at hm hn
  obtain ⟨j, hj, hq⟩ := List.mem_map.mp hm
  have hji := List.mem_range.mp hj
  have := (List.pairwise_map.mp hn)
  have h2 := List.pairwise_iff_getElem.mp this j i (by rw [List.length_range]; omega) (by rw [List.length_range]; omega) hji
  rw [List.getElem_range, List.getElem_range] at h2
  exact h2 hq

section
variable {w : World} {A : Around} {E : Value → Shared → Prop} {s : Shared} {h₀ : Heap} {L d : Addr} {o : Obj} {news : List (Addr × Obj)} {Q : Value → Shared → Prop} {kvs : List (Str × Value)} {tag : Str} {tt : Tok}
theorem d_in_n (N : News h₀ L s.heap news) (hm : (d, o) ∈ news) (lo : (d == sysModules) = false) (hd : o.IsDictOf (PySem.strKind PySem.Challenge.rw_nu0014_01.row.prog w) kvs) (h : Q (.bool (valueAt kvs tag).isSome) { s with toks := s.toks + 1 }) :
    wpAny (model PySem.Challenge.rw_nu0014_01.row.prog w) A (compareOp .In (.str tag tt) (.ref d)) Q E s := d_in lo (Heap.dictOf_iff.mpr ⟨o, N.get hm, hd⟩) h
end
noncomputable def Off (rs : List (Addr × Obj)) (a : Addr) : Prop := ∀ p ∈ rs, p.1 ≠ a
theorem off_intro {rs : List (Addr × Obj)} {a : Addr} (h : ∀ p ∈ rs, p.1 ≠ a) : Off rs a := h
theorem GivesN.use2 {w : World} {A : Around} {f : Addr} {args : List Value} {s : Shared} {P : Value → List (Addr × Obj) → Prop} {E Q : Value → Shared → Prop} {h₀ : Heap} {L : Addr} {m : Str → Option Value} {news : List (Addr × Obj)}
    (G : GivesN w A f args s P) (F : Fr h₀ L s.heap m) (N : News h₀ L s.heap news)
    (h : ∀ v nw h' n, P v nw → Fr h₀ L h' m → News h₀ L h' (nw ++ news) → s.heap.StaysIn h' → (∀ p ∈ news, Off nw p.1) → Q v { s with heap := h', toks := n }) : wpAny (model PySem.Challenge.rw_nu0014_01.row.prog w) A (call (.ref f) args) Q E s :=
  G.use F N fun v nw h' n p F' N' st hf => h v nw h' n p F' N' st fun p hp q hq e => by
    have := hf q hq
    rw [e, (N p hp).1] at this; cases this
theorem endTab {w : World} {s : Shared} {Q : Value → Shared → Prop} {P : Value → List (Addr × Obj) → Prop} {h' : Heap} {L x dx dd : Addr} {o : Obj} {t1 : Tok} {n1 tk : Nat} {rs : List (Addr × Obj)}
    (hQ : ∀ v nw h' n, P v nw → (∀ q ∈ nw, h'.get? q.1 = some q.2 ∧ s.heap.get? q.1 = none) → s.heap.StaysIn h' → Q v { s with heap := h', toks := n })
    (N : News s.heap L h' ((x, instObj 145 dx) :: (dx, tabD w t1 n1 (.ref dd)) :: (dd, o) :: rs)) (st : s.heap.StaysIn h') (hP : ∀ x dx t1 n1, P (.ref x) [(x, instObj 145 dx), (dx, tabD w t1 n1 (.ref dd)), (dd, o)]) : Q (.ref x) { s with heap := h', toks := tk } :=
  hQ _ _ _ _ (hP x dx t1 n1) (fun q hq => by
    have := N q (by
      rcases List.mem_cons.mp hq with rfl | hq
      · exact .head _
      rcases List.mem_cons.mp hq with rfl | hq
      · exact .tail _ (.head _)
      · rw [List.mem_singleton.mp hq]; exact .tail _ (.tail _ (.head _)))
    exact ⟨this.1, this.2.2⟩) st
theorem words_20_1 : True := by
  (k_with "compareOp In str ref" => ((k_here; k_dflt (refine' d_in_n (by k_asm) (by k_mem) (by assumption) (by assumption) ?_))))
  (k_with "call ref" => ((k_here; (with_reducible show wpAny _ _ (call (Value.ref 145) _) _ _ _); k_dflt (refine' mk_tab (by k_asm) (by k_asm) (by k_asm) (by k_asm) (by k_extra "mroom") ?_); intro xzq dxzq t1zq n1zq hzq tkzq Fzq Nzq l1zq l2zq; (have l3zq := l1zq); (try k_lt l1zq); (try k_lt2 l2zq); (try k_sweep))))
  (k_with "call ref" => ((k_here; (with_reducible show wpAny _ _ (call (Value.ref 177) _) _ _ _); k_dflt (refine' GivesN.use2 (g_read_directory (by assumption) (by k_extra "mK") (by k_extra "mT") (by k_extra "mroom")) (by k_asm) (by k_asm) ?_); (intro vzq nwzq hzq nzq hpzq Fzq Nzq stzq hfzq; obtain ⟨azq, vszq, ezq, rszq, q1zq, q2zq, hRzq, hnzq⟩ := hpzq; replace hnzq := off_intro hnzq; subst q1zq; subst q2zq; (try simp only [List.cons_append, List.nil_append] at Nzq); (try k_sweep)))))
  trivial

section
variable {w : World} {d u : Nat} {fr : Option (List Env)} {gs : Option (List Code)} {s : Shared} {p : Program} {loose : List Str} {mg mb : Str → Option Value}

set_option maxHeartbeats 4000000 in
theorem g_read_tables {f : List UInt8} {n' : Nat} {t : Tok} (D : Dir f n') (hnd : (keysT (tbOf f n')).Nodup)
    (X : (hd.heap_1 w.params).In s.heap) (T : TopRead p loose mg mb s.heap) (hroom : d + 50 < recursionLimit) :
    GivesN w ⟨none, d, fr, gs, u⟩ 184 [.bytes f.toArray t] s (fun v nw => ∃ x dx dd o t1 n1 kvs, v = .ref x ∧ nw = [(x, instObj 145 dx), (dx, tabD w t1 n1 (.ref dd)), (dd, o)] ∧ (dd == sysModules) = false ∧ o.IsDictOf (PySem.strKind PySem.Challenge.rw_nu0014_01.row.prog w) kvs ∧ KV kvs (tbOf f n')) := by
  intro E Q hQ
  have hlen := D.len
  have hn8 := D.n8
  refine wpAny_call (enterF [("octets", .bytes f.toArray t)] X T rfl (by rfl) (by simp only; omega) rfl (locs rfl) (fun h₁ n F N => ?_))
  k_extra "go"
  rename Obj.IsDictOf (PySem.strKind _ _) _ [] => hd0
  rename (_ == sysModules) = false => lop
  rename News _ _ _ (_ :: _) => N2
  rename RowsIn _ _ _ _ => hRows
  rename Off _ _ => hrl
  rename ∀ p ∈ _, Off _ _ => hoff
  rename List (Addr × Obj) => rs
  have hod := hoff _ (.head _)
  have hl := N2.get (.head _)
  have hne := (N2 _ (.head _)).2.1
  have hdl := dict_ne_list hl (N2.get (.tail _ (List.mem_append_right _ (.head _)))) hd0
  have hkl := hRows.length
  rw [rowsOf_len] at hkl
  refine forList rfl ⟨_, hl, rfl, _, rfl⟩ hne (by assumption) (news := (_, _) :: rs) (newsTurn N2) (fun p hp => ?_)
    (fun i m news => m "octets" = some (.bytes f.toArray t) ∧ (∃ dd o kvs, m "found" = some (.ref dd) ∧ news = (dd, o) :: rs ∧ (dd == sysModules) = false ∧ o.IsDictOf (PySem.strKind PySem.Challenge.rw_nu0014_01.row.prog w) kvs ∧ KV kvs (tbOf f i) ∧ Off rs dd)) ⟨rfl, ⟨_, _, _, rfl, rfl, lop, hd0, .nil, fun p hp => hod p (.tail _ hp)⟩⟩ ?_ ?_
  · rcases List.mem_cons.mp hp with rfl | hp
    · exact hdl
    · exact hrl p hp
  · rintro i v m₁ news₁ h tk own hv ⟨hw, ⟨dd, o, kvs, hfd, rfl, lop, hd1, hKV, hrd⟩⟩ hnf hof hall F₁ N₁
    obtain ⟨r, hr, x, dx, t1, t2, t3, t4, a1, a2, a3, a4, rfl, hx1, hx2⟩ := paired_at hRows hv
    obtain ⟨hi, rfl⟩ := rows_at hr
    have hx1' : (x, instObj 166 dx) ∈ rs ++ own := List.mem_append_left _ hx1
    have hx2' := List.mem_append_left own hx2
    have hne : (valueAt kvs (rowAt f i).1).isSome = false := by rw [hKV.none (tb_new hnd hi)]; rfl
    have hnk : (rowAt f i).1 ∉ kvs.map (·.1) := by rw [hKV.keys]; exact tb_new hnd hi
    have hrd2 : ∀ p ∈ rs ++ own, p.1 ≠ dd := fun p hp => (List.mem_append.mp hp).elim (hrd p) fun hq e => hnf _ (.head _) (e ▸ hof p hq)
    have hz : kvs.length ≤ 1000 := by rw [hKV.len]; unfold tbOf; rw [List.length_map, rowsOf_len]; omega
    have hb1 : 0 ≤ (rowAt f i).2.2.1 := (rd32_b _ _).1
    have hb2 : 0 ≤ (rowAt f i).2.2.2 := (rd32_b _ _).1
    have hb3 : (rowAt f i).2.2.1 + (rowAt f i).2.2.2 ≤ f.length := D.fits i hi
    have hsu := tbOf_succ f i
    generalize rowAt f i = r at hx2 hx2' hne hnk hb1 hb2 hb3 hsu
    obtain ⟨tg, sm, pl, sz⟩ := r
    dsimp only [cellOf] at hx2 hx2' hne hnk hb1 hb2 hb3 hsu
    simp only [List.cons_append] at N₁
    k_sweep
    k_extra "go"
    rename Obj.IsDictOf (PySem.strKind _ _) _ (stored _ _ _) => hd2
    rename News _ _ _ _ => N9
    rename Obj => o2
    refine' TurnEnd.intro ((dd, o2) :: rs) ?_ ?_ ?_ ?_
    rotate_left
    · assumption
    · exact N9
    · exact fun p hp => (List.mem_cons.mp hp).elim (fun e => by rw [e]; exact hnf (dd, o) (.head _)) fun h => hnf p (.tail _ h)
    · refine ⟨hw, dd, o2, _, hfd, rfl, lop, hd2, ?_, hrd⟩
      rw [stored_new' hnk, hsu]
      exact Paired.snoc hKV ⟨rfl, _, rfl⟩
  · rintro h tk m₁ news₁ ⟨hw, ⟨dd, o, kvs, hfd, rfl, lop, hd1, hKV, hrd⟩⟩ F₁ N₁
    k_sweep
    k_extra "go"
    (try dsimp only)
    exact endTab hQ (by assumption) (Fr.keep (by assumption)) fun x dx t1 n1 => ⟨x, dx, dd, o, t1, n1, kvs, rfl, rfl, lop, hd1, by rw [← hkl]; exact hKV⟩
end

noncomputable def badR (f : List UInt8) (r : Row4) : Bool := !decide (sumT r.1 (part f r.2.2.1.toNat r.2.2.2.toNat) = r.2.1)
noncomputable def badS (f : List UInt8) (i : Nat) : List Str := ((rowsOf f i).filter (badR f)).map (·.1)
noncomputable def hasH (f : List UInt8) (i : Nat) : Bool := (rowsOf f i).any fun r => r.1 == Str.ofString "head"
noncomputable def wrongS (f : List UInt8) (n : Nat) : List Str := (if hasH f n && !decide (sumO f = 2981146554) then [Str.ofString ""] else []) ++ sortS (badS f n)
theorem rowsOf_succ (f : List UInt8) (i : Nat) : rowsOf f (i + 1) = rowsOf f i ++ [rowAt f i] := by unfold rowsOf; rw [List.range_succ, List.map_append]; rfl
theorem badS_succ (f : List UInt8) (i : Nat) : badS f (i + 1) = badS f i ++ (if badR f (rowAt f i) then [(rowAt f i).1] else []) := by
  unfold badS
  rw [rowsOf_succ, List.filter_append, List.map_append]
  congr 1
  rw [List.filter_cons]
  split <;> rfl
theorem hasH_succ (f : List UInt8) (i : Nat) : hasH f (i + 1) = (hasH f i || (rowAt f i).1 == Str.ofString "head") := by
  unfold hasH; rw [rowsOf_succ, List.any_append]; simp
theorem badS_len (f : List UInt8) (i : Nat) : (badS f i).length ≤ i := by
  unfold badS; rw [List.length_map]; exact Nat.le_trans (List.length_filter_le _ _) (by rw [rowsOf_len]; omega)
section
variable {prog : Program} {w : World} {A : Around} {E : Value → Shared → Prop} {s : Shared} {h₀ : Heap} {L : Addr} {m : Str → Option Value} {rest : List (Addr × Obj)} {Q : Value → Shared → Prop}
theorem l_sort_n {D : Addr} {vs : List Value} {ss : List Str} {n : Nat} (F : Fr h₀ L s.heap m) (N : News h₀ L s.heap ((D, listOf vs.toArray n) :: rest)) (hr : ∀ p ∈ rest, p.1 ≠ D) (hS : StrsAre vs ss) (h64 : vs.length < 64)
    (h : ∀ h' (vs' : List Value) e, StrsAre vs' (sortS ss) → Fr h₀ L h' m → News h₀ L h' ((D, listOf vs'.toArray e) :: rest) → Q .none { s with heap := h' }) :
    wpAny (model prog w) A (call (.builtin "list.sort") [.ref D]) Q E s := by
  have hD := N _ (.head _)
  refine l_sort hD.1 hS h64 fun h' vs' e hS' hD' hk => h h' vs' e hS' (frOver (hid := [D]) F (fun q => hD.2.1 (List.mem_singleton.mp q).symm) (fun a ha => by rw [List.mem_singleton.mp ha]; exact hD.2.2) fun b o hb => hk b o fun q => hb (by rw [q]; exact .head _)) fun p hp => ?_
  rcases List.mem_cons.mp hp with rfl | hp
  · exact ⟨hD', hD.2⟩
  · exact ⟨hk _ _ (hr p hp) (N p (.tail _ hp)).1, (N p (.tail _ hp)).2⟩
variable {news : List (Addr × Obj)} {Q : Value → Shared → Prop}
theorem add_n {a b : Addr} {its its2 : Array Value} {n n2 : Nat} (F : Fr h₀ L s.heap m) (N : News h₀ L s.heap news) (ha : (a, listOf its n) ∈ news) (hb : (b, listOf its2 n2) ∈ news) (hz : its.size + its2.size ≤ 1000)
    (h : ∀ D h', Fr h₀ L h' m → News h₀ L h' ((D, listOf (its.toList ++ its2.toList).toArray 0) :: news) → (∀ p ∈ news, p.1 < D) → Q (.ref D) { s with heap := h' }) :
    wpAny (model prog w) A (binaryOp .Add (.ref a) (.ref b)) Q E s :=
  kmk_add_lit F N ⟨_, N.get ha, rfl, _, rfl⟩ ⟨_, N.get hb, rfl, _, rfl⟩ rfl h (by rw [sizeLine_eq, Array.length_toList, Array.length_toList]; omega)
end
theorem StrsAre.snoc {vs : List Value} {ss : List Str} {x : Str} {t : Tok} (h : StrsAre vs ss) : StrsAre (vs ++ [.str x t]) (ss ++ [x]) := by
  induction h with
  | nil => exact .cons _ _ .nil
  | cons y u _ ih => exact .cons _ _ ih
theorem endL {s : Shared} {Q : Value → Shared → Prop} {P : Value → List (Addr × Obj) → Prop} {h' : Heap} {L a : Addr} {vs : List Value} {e tk : Nat} {rest : List (Addr × Obj)}
    (hQ : ∀ v nw h' n, P v nw → (∀ q ∈ nw, h'.get? q.1 = some q.2 ∧ s.heap.get? q.1 = none) → s.heap.StaysIn h' → Q v { s with heap := h', toks := n })
    (N : News s.heap L h' ((a, listOf vs.toArray e) :: rest)) (st : s.heap.StaysIn h') (hP : P (.ref a) [(a, listOf vs.toArray e)]) : Q (.ref a) { s with heap := h', toks := tk } :=
  hQ _ _ _ _ hP (fun q hq => by
    have := N _ (.head _)
    rw [List.mem_singleton.mp hq]; exact ⟨this.1, this.2.2⟩) st
theorem words_21_1 : True := by
  (k_with "binaryOp Add ref ref" => ((k_here; (with_reducible show wpAny _ _ (binaryOp _ (Value.ref _) (Value.ref _)) _ _ _); k_dflt (refine' add_n (by k_asm) (by k_asm) (by k_mem) (by k_mem) (by k_extra "mside") ?_); (intro Dzq hzq Fzq Nzq l1zq; (try k_sweep)))))
  (k_with "call builtin:list.sort" => ((k_here; (try dsimp only [List.cons_append, List.nil_append]); k_dflt (refine' l_sort_n (by k_asm) (by k_asm) (by assumption) (by assumption) (by k_extra "mside") ?_); intro hzq vszq ezq hSzq Fzq Nzq; have hlSzq := StrsAre.length hSzq; rw [(sortS_perm _).length_eq] at hlSzq; (try k_sweep))))
  trivial
section
variable {w : World} {d u : Nat} {fr : Option (List Env)} {gs : Option (List Code)} {s : Shared} {p : Program} {loose : List Str} {mg mb : Str → Option Value}

set_option maxHeartbeats 4000000 in
theorem g_wrong_sums {f : List UInt8} {n' : Nat} {t : Tok} (D : Dir f n')
    (X : (hd.heap_1 w.params).In s.heap) (T : TopRead p loose mg mb s.heap) (hroom : d + 50 < recursionLimit) :
    GivesN w ⟨none, d, fr, gs, u⟩ 226 [.bytes f.toArray t] s (fun v nw => ∃ a vs e, v = .ref a ∧ StrsAre vs (wrongS f n') ∧ nw = [(a, listOf vs.toArray e)]) := by
  intro E Q hQ
  have hlen := D.len
  have hn8 := D.n8
  refine wpAny_call (enterF [("octets", .bytes f.toArray t)] X T rfl (by rfl) (by simp only; omega) rfl (locs rfl) (fun h₁ n F N => ?_))
  k_extra "go"
  rename News _ _ _ (_ :: _) => N2
  rename RowsIn _ _ _ _ => hRows
  rename Off _ _ => hrl
  rename ∀ p ∈ _, Off _ _ => hoff
  rename List (Addr × Obj) => rs
  have hod := hoff _ (.head _)
  have hl := N2.get (.head _)
  have hne := (N2 _ (.head _)).2.1
  have hkl := hRows.length
  rw [rowsOf_len] at hkl
  refine forList rfl ⟨_, hl, rfl, _, rfl⟩ hne (by assumption) (news := (_, _) :: rs) (newsTurn N2) (fun p hp => ?_)
    (fun i m news => m "octets" = some (.bytes f.toArray t) ∧ (∃ l vs e, m "found" = some (.ref l) ∧ news = (l, listOf vs.toArray e) :: rs ∧ StrsAre vs (badS f i) ∧ Off rs l) ∧ m "has_head" = some (.bool (hasH f i))) ⟨rfl, ⟨_, [], _, rfl, rfl, .nil, fun p hp => hod p (.tail _ hp)⟩, rfl⟩ ?_ ?_
  · rcases List.mem_cons.mp hp with rfl | hp
    · exact fun e => hod _ (.head _) e.symm
    · exact hrl p hp
  · rintro i v m₁ news₁ h tk own hv ⟨hw, ⟨l, vs, e, hfd, rfl, hS, hrd⟩, hhh⟩ hnf hof hall F₁ N₁
    obtain ⟨r, hr, x, dx, t1, t2, t3, t4, a1, a2, a3, a4, rfl, hx1, hx2⟩ := paired_at hRows hv
    obtain ⟨hi, rfl⟩ := rows_at hr
    have hx1' : (x, instObj 166 dx) ∈ rs ++ own := List.mem_append_left _ hx1
    have hx2' := List.mem_append_left own hx2
    have hrd2 : ∀ p ∈ rs ++ own, p.1 ≠ l := fun p hp => (List.mem_append.mp hp).elim (hrd p) fun hq e => hnf _ (.head _) (e ▸ hof p hq)
    have hvl := StrsAre.length hS
    have hbl := badS_len f i
    have hb1 : 0 ≤ (rowAt f i).2.2.1 := (rd32_b _ _).1
    have hb2 : 0 ≤ (rowAt f i).2.2.2 := (rd32_b _ _).1
    have hb3 : (rowAt f i).2.2.1 + (rowAt f i).2.2.2 ≤ f.length := D.fits i hi
    have hsu := badS_succ f i
    have hsh := hasH_succ f i
    generalize rowAt f i = r at hx2 hx2' hb1 hb2 hb3 hsu hsh
    obtain ⟨tg, sm, pl, sz⟩ := r
    dsimp only at hx2 hx2' hb1 hb2 hb3 hsu hsh
    have hpl : (part f pl.toNat sz.toNat).length ≤ 2000 := by unfold part; rw [List.length_drop, List.length_take]; omega
    simp only [List.cons_append] at N₁
    k_sweep
    k_extra "go"
    · rename News _ _ _ _ => N9
      rw [List.push_toArray] at N9
      refine' TurnEnd.intro ((l, listOf (vs ++ [Value.str tg a1]).toArray (e + 1)) :: rs) ?_ ?_ ?_ ?_
      rotate_left
      · assumption
      · exact N9
      · exact fun p hp => (List.mem_cons.mp hp).elim (fun e' => by rw [e']; exact hnf (l, listOf vs.toArray e) (.head _)) fun h => hnf p (.tail _ h)
      · refine ⟨hw, ⟨l, _, _, hfd, rfl, ?_, hrd⟩, ?_⟩
        · rw [hsu]
          rw [if_pos (show badR f (tg, sm, pl, sz) = true by show (!decide (sumT tg (part f pl.toNat sz.toNat) = sm)) = true; rw [decide_eq_false (by assumption)]; rfl)]; exact StrsAre.snoc hS
        · rw [hsh]
          rename hasH f i = true => hh
          rw [hh]
          rfl
    · rename News _ _ _ _ => N9
      rw [List.push_toArray] at N9
      refine' TurnEnd.intro ((l, listOf (vs ++ [Value.str tg a1]).toArray (e + 1)) :: rs) ?_ ?_ ?_ ?_
      rotate_left
      · assumption
      · exact N9
      · exact fun p hp => (List.mem_cons.mp hp).elim (fun e' => by rw [e']; exact hnf (l, listOf vs.toArray e) (.head _)) fun h => hnf p (.tail _ h)
      · refine ⟨hw, ⟨l, _, _, hfd, rfl, ?_, hrd⟩, ?_⟩
        · rw [hsu]
          rw [if_pos (show badR f (tg, sm, pl, sz) = true by show (!decide (sumT tg (part f pl.toNat sz.toNat) = sm)) = true; rw [decide_eq_false (by assumption)]; rfl)]; exact StrsAre.snoc hS
        · rw [hsh]
          rename hasH f i = false => hh
          rw [hh]
          rfl
    · rename News _ _ _ _ => N9
      skip
      refine' TurnEnd.intro ((l, listOf vs.toArray e) :: rs) ?_ ?_ ?_ ?_
      rotate_left
      · assumption
      · exact N9
      · exact fun p hp => (List.mem_cons.mp hp).elim (fun e' => by rw [e']; exact hnf (l, listOf vs.toArray e) (.head _)) fun h => hnf p (.tail _ h)
      · refine ⟨hw, ⟨l, _, _, hfd, rfl, ?_, hrd⟩, ?_⟩
        · rw [hsu]
          rw [if_neg (show ¬ badR f (tg, sm, pl, sz) = true by show ¬ (!decide (sumT tg (part f pl.toNat sz.toNat) = sm)) = true; rw [decide_eq_true (by assumption)]; decide), List.append_nil]; exact hS
        · rw [hsh]
          rename hasH f i = true => hh
          rw [hh]
          rfl
    · rename News _ _ _ _ => N9
      skip
      refine' TurnEnd.intro ((l, listOf vs.toArray e) :: rs) ?_ ?_ ?_ ?_
      rotate_left
      · assumption
      · exact N9
      · exact fun p hp => (List.mem_cons.mp hp).elim (fun e' => by rw [e']; exact hnf (l, listOf vs.toArray e) (.head _)) fun h => hnf p (.tail _ h)
      · refine ⟨hw, ⟨l, _, _, hfd, rfl, ?_, hrd⟩, ?_⟩
        · rw [hsu]
          rw [if_neg (show ¬ badR f (tg, sm, pl, sz) = true by show ¬ (!decide (sumT tg (part f pl.toNat sz.toNat) = sm)) = true; rw [decide_eq_true (by assumption)]; decide), List.append_nil]; exact hS
        · rw [hsh]
          rename hasH f i = false => hh
          rw [hh]
          rfl
  · rintro h tk m₁ news₁ ⟨hw, ⟨l, vs, e, hfd, rfl, hS, hrd⟩, hhh⟩ F₁ N₁
    have hrd2 : ∀ p ∈ rs, p.1 ≠ l := hrd
    have hvl := StrsAre.length hS
    have hbl := badS_len f n'
    rw [← hkl] at hbl
    k_sweep
    k_extra "go"
    all_goals (try dsimp only)
    · refine endL hQ (by assumption) (Fr.keep (by assumption)) ⟨_, _, _, rfl, ?_, rfl⟩
      unfold wrongS
      rw [← hkl, if_pos (by rw [‹hasH f _ = true›, decide_eq_false ‹sumO f ≠ _›]; rfl)]
      exact .cons _ _ (by assumption)
    · refine endL hQ (by assumption) (Fr.keep (by assumption)) ⟨_, _, _, rfl, ?_, rfl⟩
      unfold wrongS
      rw [← hkl, if_neg (by rw [‹hasH f _ = true›, decide_eq_true ‹sumO f = _›]; decide)]
      assumption
    · refine endL hQ (by assumption) (Fr.keep (by assumption)) ⟨_, _, _, rfl, ?_, rfl⟩
      unfold wrongS
      rw [← hkl, if_neg (by rw [‹hasH f _ = false›, Bool.false_and]; decide)]
      assumption
end

theorem ite_nn (p : Prop) [Decidable p] : (0 : Int) ≤ if p then 1 else 0 := by split <;> decide
section
variable {w : World} {d u : Nat} {fr : Option (List Env)} {gs : Option (List Code)} {s : Shared} {p : Program} {loose : List Str} {mg mb : Str → Option Value}

set_option maxHeartbeats 4000000 in
theorem g_law_pool {sa : Addr} {vs : List Value} {ns : List Int} {t : Tok} (hl : s.heap.IsList sa vs.toArray) (hi : IntsAre vs ns) (hn : ns.length ≤ 63)
    (X : (hd.heap_1 w.params).In s.heap) (T : TopRead p loose mg mb s.heap) (hroom : d + 10 < recursionLimit) :
    GivesN w ⟨none, d, fr, gs, u⟩ 233 [.ref sa, .int 0 t] s (fun v nw => ∃ a x y t1 t2, v = .ref a ∧ nw = [(a, listOf [.int x t1, .int y t2].toArray 0)] ∧ 0 ≤ x ∧ 0 ≤ y ∧ y < 2147483647) := by
  intro E Q hQ
  refine wpAny_call (enterF [("script", .ref sa), ("k", .int 0 t)] X T rfl (by rfl) (by simp only; omega) rfl (locs rfl) (fun h₁ n F N => ?_))
  k_extra "go"
  all_goals (try dsimp only)
  all_goals refine endL hQ (by assumption) (Fr.keep (by assumption)) ⟨_, _, _, _, _, rfl, rfl, Int.mul_nonneg ?_ ?_, Int.emod_nonneg _ (by decide), Int.emod_lt_of_pos _ (by decide)⟩
  · split <;> omega
  · exact ite_nn _
  · decide
  · exact ite_nn _

/-- the well that the draws come from -/
noncomputable def SrcO (o : Obj) : Prop := ∃ x y t1 t2 e, o = listOf [.int x t1, .int y t2].toArray e ∧ 0 ≤ x ∧ 0 ≤ y ∧ y < 2147483647
theorem takeEnd {s : Shared} {Q : Value → Shared → Prop} {h' : Heap} {L sa : Addr} {m : Str → Option Value} {k x y top : Int} {t1 t2 t : Tok} {e tk : Nat}
    (hQ : ∀ k u o' h' n, 0 ≤ k → k < top → SrcO o' → h'.get? sa = some o' → KeptBut [sa] s.heap h' → Q (.int k u) { s with heap := h', toks := n })
    (F : Fr (hideAll s.heap [sa]) L h' m) (N : News (hideAll s.heap [sa]) L h' [(sa, listOf [.int x t1, .int y t2].toArray e)]) (hx : 0 ≤ x) (hy : 0 ≤ y) (hy2 : y < 2147483647) (h0 : 0 ≤ k) (h1 : k < top) :
    Q (.int k t) { s with heap := h', toks := tk } := hQ _ _ _ _ _ h0 h1 ⟨x, y, t1, t2, e, rfl, hx, hy, hy2⟩ (N _ (.head _)).1 (hidKeep F)
end
theorem words_22_1 : True := by
  (k_with "mside" => (first | assumption | omega | (simp only [show Int.toNat 1 = 1 from rfl, show Int.toNat 0 = 0 from rfl, List.getD_cons_succ, List.getD_cons_zero]; omega)))
  trivial
section
variable {w : World} {d u : Nat} {fr : Option (List Env)} {gs : Option (List Code)} {s : Shared} {p : Program} {loose : List Str} {mg mb : Str → Option Value}

set_option maxHeartbeats 4000000 in
theorem take_core {sa : Addr} {o : Obj} {top : Int} {t : Tok} {E Q : Value → Shared → Prop} (hs : SrcO o) (ho : s.heap.get? sa = some o) (h0 : 0 < top) (h1 : top ≤ 1000)
    (X : (hd.heap_1 w.params).In (hideAll s.heap [sa])) (T : TopRead p loose mg mb (hideAll s.heap [sa])) (hroom : d + 10 < recursionLimit)
    (hQ : ∀ k u o' h' n, 0 ≤ k → k < top → SrcO o' → h'.get? sa = some o' → KeptBut [sa] s.heap h' → Q (.int k u) { s with heap := h', toks := n }) :
    wpAny (model PySem.Challenge.rw_nu0014_01.row.prog w) ⟨none, d, fr, gs, u⟩ (call (.ref 240) [.ref sa, .int top t]) Q E s := by
  obtain ⟨x, y, t1, t2, e, rfl, hx, hy, hy2⟩ := hs
  refine wpAny_call (enterHF [(sa, listOf [.int x t1, .int y t2].toArray e)] [("source", .ref sa), ("top", .int top t)] (Frag.In.keeps X fun b o q => of_hideAll _ q) (T.keeps fun b o q => of_hideAll _ q) rfl (by rfl) (by simp only; omega) rfl (locs rfl) (fun p hp => ?_) (fun h₁ n F N => ?_))
  · rw [List.mem_singleton.mp hp]; exact ho
  simp only [List.map_cons, List.map_nil] at F N
  k_extra "go"
  all_goals (try dsimp only)
  · exact takeEnd hQ (by assumption) (by assumption) (Int.ediv_nonneg (by exact hx) (by omega)) hy hy2 (Int.emod_nonneg _ (by omega)) (Int.emod_lt_of_pos _ h0)
  · exact takeEnd hQ (by assumption) (by assumption) hx (Int.emod_nonneg _ (by decide)) (Int.emod_lt_of_pos _ (by decide)) (Int.emod_nonneg _ (by omega)) (Int.emod_lt_of_pos _ h0)

variable {h₀ : Heap} {L sa : Addr} {m : Str → Option Value} {news : List (Addr × Obj)} {o : Obj} {g : Obj → List (Addr × Obj)} {E Q : Value → Shared → Prop}
theorem newsUpd {h' : Heap} {o' : Obj} (F : Fr h₀ L s.heap m) (N : News h₀ L s.heap news) (U : UpdF sa o news g) (ho : h'.get? sa = some o') (k : KeptBut [sa] s.heap h') : Fr h₀ L h' m ∧ News h₀ L h' (g o') := by
  obtain ⟨pre, post, rfl, hg, h1, h2⟩ := U.split
  have hS := N (sa, o) (List.mem_append_right _ (.head _))
  refine ⟨frOver (hid := [sa]) F (fun q => hS.2.1 (List.mem_singleton.mp q).symm) (fun a ha => by rw [List.mem_singleton.mp ha]; exact hS.2.2) k, ?_⟩
  rw [hg]
  intro q hq
  rcases List.mem_append.mp hq with hq | hq
  · have := N q (List.mem_append_left _ hq)
    exact ⟨k _ _ (fun e => h1 q hq (List.mem_singleton.mp e)) this.1, this.2⟩
  rcases List.mem_cons.mp hq with rfl | hq
  · exact ⟨ho, hS.2⟩
  · have := N q (List.mem_append_right _ (.tail _ hq))
    exact ⟨k _ _ (fun e => h2 q hq (List.mem_singleton.mp e)) this.1, this.2⟩
theorem updAt (N : News h₀ L s.heap news) (U : UpdF sa o news g) : s.heap.get? sa = some o ∧ h₀.get? sa = none := by
  obtain ⟨pre, post, rfl, hg, h1, h2⟩ := U.split
  have hS := N (sa, o) (List.mem_append_right _ (.head _))
  exact ⟨hS.1, hS.2.2⟩
theorem take_use {top : Int} {t : Tok} (F : Fr h₀ L s.heap m) (N : News h₀ L s.heap news) (U : UpdF sa o news g) (hs : SrcO o) (X : (hd.heap_1 w.params).In h₀) (T : TopRead p loose mg mb h₀) (hroom : d + 10 < recursionLimit) (h0 : 0 < top) (h1 : top ≤ 1000)
    (h : ∀ k u o' h' n, 0 ≤ k → k < top → SrcO o' → Fr h₀ L h' m → News h₀ L h' (g o') → Q (.int k u) { s with heap := h', toks := n }) :
    wpAny (model PySem.Challenge.rw_nu0014_01.row.prog w) ⟨none, d, fr, gs, u⟩ (call (.ref 240) [.ref sa, .int top t]) Q E s := by
  obtain ⟨ho, hn⟩ := updAt N U
  have hb : ∀ a ∈ [sa], h₀.get? a = none := fun a ha => by rw [List.mem_singleton.mp ha]; exact hn
  refine take_core hs ho h0 h1 (Frag.In.keeps X (staysHid F hb)) (T.keeps (staysHid F hb)) hroom fun k u o' h' n a b c e kb => ?_
  obtain ⟨F', N'⟩ := newsUpd F N U e kb
  exact h k u o' h' n a b c F' N'
end

section
variable {prog : Program} {w : World} {A : Around} {E : Value → Shared → Prop} {s : Shared} {value slice : PySem.Expr} {h₀ : Heap} {L : Addr} {m : PySem.Str → Option Value} {Q : Value → Shared → Prop}
theorem isList_keep {h h' : Heap} {b : Addr} {its : Array Value} (hl : h.IsList b its) (k : ∀ b o, h.get? b = some o → h'.get? b = some o) : h'.IsList b its := let ⟨o, ho, r⟩ := hl; ⟨o, k _ _ ho, r⟩
theorem l_len_b {b : Addr} {vs : List Value} (F : Fr h₀ L s.heap m) (hl : h₀.IsList b vs.toArray) (hv : vs.length ≤ 1000000) (h : Q (.int vs.length (s.toks + 1)) { s with toks := s.toks + 1 + 1 }) :
    wpAny (model prog w) A (call (.builtin "len") [.ref b]) Q E s :=
  call_len_list (isList_keep hl F.keep) (by rw [List.size_toArray]; omega) (by rw [List.size_toArray]; exact h)
theorem l_item_b {b : Addr} {vs : List Value} {i : Int} {u : Tok} (F : Fr h₀ L s.heap m) (hl : h₀.IsList b vs.toArray) (h0 : 0 ≤ i) (hi : i < vs.length) (hz : vs.length ≤ 1000000) (h : ∀ v, vs[i.toNat]? = some v → Q v s)
    (hs : subscripted slice false (.ref b) (.int i u) = operate [.ref b, .int i u] (getItem (.ref b) (.int i u)) := by with_unfolding_all rfl) :
    wpAny (model prog w) A (subscriptTail value slice (.ref b) (.int i u)) Q E s := by
  have hl' := isList_keep hl F.keep
  have hx : vs[i.toNat]? = some (vs[i.toNat]'(by omega)) := List.getElem?_eq_getElem _
  exact tail_any hl'.typeIs slot_list_getitem.lookup (wpAny_getItem_list hl' h0 (by omega) (by simpa using hx) (h _ hx)) hs
end
theorem words_23_1 : True := by
  (k_with "call ref" => ((k_here; (with_reducible show wpAny _ _ (call (Value.ref 240) _) _ _ _); k_dflt (refine' take_use (by k_asm) (by k_asm) (by k_updF) (by assumption) (by k_asm) (by k_asm) (by k_extra "mroom") (by k_extra "mside") (by k_extra "mside") ?_); intro kzq uzq ozq hzq nzq q1zq q2zq hszq Fzq Nzq; (try dsimp only at Nzq); (try k_sweep))))
  (k_with "call builtin:len" => ((k_here; (with_reducible show wpAny _ _ (call (Value.builtin "len") [Value.ref _]) _ _ _); k_dflt (refine' l_len_b (by k_asm) (by assumption) (by k_extra "mside") ?_))))
  (k_with "subscriptTail" => ((k_here; (with_reducible show wpAny _ _ (subscriptTail _ _ (Value.ref _) (Value.int _ _)) _ _ _); k_dflt (refine' l_item_b (by k_asm) (by assumption) (by k_extra "mside") (by k_extra "mside") (by k_extra "mside") ?_); intro _ _)))
  trivial
section
variable {w : World} {d u : Nat} {fr : Option (List Env)} {gs : Option (List Code)} {s : Shared} {p : Program} {loose : List Str} {mg mb : Str → Option Value}
set_option maxHeartbeats 4000000 in
theorem one_core {sa b : Addr} {o : Obj} {vs : List Value} {E Q : Value → Shared → Prop} (hs : SrcO o) (ho : s.heap.get? sa = some o) (hl : (hideAll s.heap [sa]).IsList b vs.toArray) (h0 : 0 < vs.length) (h1 : vs.length ≤ 1000)
    (X : (hd.heap_1 w.params).In (hideAll s.heap [sa])) (T : TopRead p loose mg mb (hideAll s.heap [sa])) (hroom : d + 20 < recursionLimit)
    (hQ : ∀ (k : Nat) (v : Value) o' h' n, vs[k]? = some v → SrcO o' → h'.get? sa = some o' → KeptBut [sa] s.heap h' → Q v { s with heap := h', toks := n }) :
    wpAny (model PySem.Challenge.rw_nu0014_01.row.prog w) ⟨none, d, fr, gs, u⟩ (call (.ref 247) [.ref sa, .ref b]) Q E s := by
  refine wpAny_call (enterHF [(sa, o)] [("source", .ref sa), ("things", .ref b)] (Frag.In.keeps X fun b o q => of_hideAll _ q) (T.keeps fun b o q => of_hideAll _ q) rfl (by rfl) (by simp only; omega) rfl (locs rfl) (fun p hp => ?_) (fun h₁ n F N => ?_))
  · rw [List.mem_singleton.mp hp]; exact ho
  simp only [List.map_cons, List.map_nil] at F N
  k_extra "go"
  (try dsimp only)
  rename Fr _ _ _ _ => F9
  rename News _ _ _ _ => N9
  exact hQ _ _ _ _ _ (by assumption) (by assumption) (N9 _ (.head _)).1 (hidKeep F9)
variable {h₀ : Heap} {L sa : Addr} {m : Str → Option Value} {news : List (Addr × Obj)} {o : Obj} {g : Obj → List (Addr × Obj)} {E Q : Value → Shared → Prop}
theorem one_use {b : Addr} {vs : List Value} {e : Nat} (F : Fr h₀ L s.heap m) (N : News h₀ L s.heap news) (U : UpdF sa o news g) (hs : SrcO o) (hm : (b, listOf vs.toArray e) ∈ news) (hne : b ≠ sa) (X : (hd.heap_1 w.params).In h₀) (T : TopRead p loose mg mb h₀) (hroom : d + 20 < recursionLimit) (h0 : 0 < vs.length) (h1 : vs.length ≤ 1000)
    (h : ∀ (k : Nat) (v : Value) o' h' n, vs[k]? = some v → SrcO o' → Fr h₀ L h' m → News h₀ L h' (g o') → Q v { s with heap := h', toks := n }) :
    wpAny (model PySem.Challenge.rw_nu0014_01.row.prog w) ⟨none, d, fr, gs, u⟩ (call (.ref 247) [.ref sa, .ref b]) Q E s := by
  obtain ⟨ho, hn⟩ := updAt N U
  have hb : ∀ a ∈ [sa], h₀.get? a = none := fun a ha => by rw [List.mem_singleton.mp ha]; exact hn
  have hl : (hideAll s.heap [sa]).IsList b vs.toArray := ⟨_, hideAll_get _ (N.get hm) fun q => hne (List.mem_singleton.mp q), rfl, _, rfl⟩
  refine one_core hs ho hl h0 h1 (Frag.In.keeps X (staysHid F hb)) (T.keeps (staysHid F hb)) hroom fun k v o' h' n a c q kb => ?_
  obtain ⟨F', N'⟩ := newsUpd F N U q kb
  exact h k v o' h' n a c F' N'
end

theorem keptStays {hid : List Addr} {h h' : Heap} (k : h.StaysIn h') : KeptBut hid h h' := fun b o _ e => k b o e
/-- one object holds to S -/
noncomputable def Holds1 (S : Obj → Prop) (sa : Addr) (h : Heap) : Prop := ∃ o, h.get? sa = some o ∧ S o
theorem Holds1.at {S : Obj → Prop} {sa : Addr} {h h' : Heap} (x : Holds1 S sa h) (k : ∀ o, h.get? sa = some o → h'.get? sa = some o) : Holds1 S sa h' := let ⟨o, ho, hS⟩ := x; ⟨o, k o ho, hS⟩

noncomputable def CompSrc (prog : Program) (w : World) (A : Around) (env : Env) (elt : Expr) (scope : Scope) (cl : List (Str × Addr)) (x : Str) (sa L : Addr) (h₀ : Heap) (V : Value → Prop) (Q : Value → Shared → Prop) (xv : Value) (s₁ : Shared) : Prop :=
  ∃ r b₀ t₀ u₀ v₀ m news o g, xv = .ref r ∧ IsRange s₁.heap r 0 b₀ 1 t₀ u₀ v₀ ∧ 0 ≤ b₀ ∧ b₀ ≤ 100 ∧ Fr h₀ L s₁.heap m ∧ News h₀ L s₁.heap news ∧ UpdF sa o news g ∧ SrcO o ∧
      (∀ C (s₃ : Shared) m₃ E' o' j tj, s₃.heap.Ns C m₃ → m₃ x = some (.int j tj) → 0 ≤ j → j < 100 → SrcO o' → s₃.heap.get? sa = some o' → KeptBut [sa] s₁.heap s₃.heap →
        wpAny (model prog w) A (eval elt (compEnvC scope cl C env)) (fun y s₄ => V y ∧ ∃ h' tk, s₄ = { s₃ with heap := h', toks := tk } ∧ KeptBut [sa] s₃.heap h' ∧ Holds1 SrcO sa h') E' s₃) ∧
      (∀ D h' tk (ys : Array Value) o', h'.IsList D ys → (ys.size : Int) = b₀ → (∀ y ∈ ys, V y) → SrcO o' → Fr h₀ L h' m → News h₀ L h' (g o') → Q (.ref D) { s₁ with heap := h', toks := tk })
theorem CompSrc.intro {prog : Program} {w : World} {A : Around} {env : Env} {elt : Expr} {scope : Scope} {cl : List (Str × Addr)} {x : Str} {sa L : Addr} {h₀ : Heap} {V : Value → Prop} {Q : Value → Shared → Prop} {s₁ : Shared}
    {r : Addr} {b₀ : Int} {t₀ u₀ v₀ : Tok} {m : Str → Option Value} {news : List (Addr × Obj)} {o : Obj} {g : Obj → List (Addr × Obj)} (hr : IsRange s₁.heap r 0 b₀ 1 t₀ u₀ v₀) (h0 : 0 ≤ b₀) (h1 : b₀ ≤ 100) (F : Fr h₀ L s₁.heap m) (N : News h₀ L s₁.heap news) (U : UpdF sa o news g) (hS : SrcO o)
    (hq : ∀ C (s₃ : Shared) m₃ E' o' j tj, s₃.heap.Ns C m₃ → m₃ x = some (.int j tj) → 0 ≤ j → j < 100 → SrcO o' → s₃.heap.get? sa = some o' → KeptBut [sa] s₁.heap s₃.heap →
        wpAny (model prog w) A (eval elt (compEnvC scope cl C env)) (fun y s₄ => V y ∧ ∃ h' tk, s₄ = { s₃ with heap := h', toks := tk } ∧ KeptBut [sa] s₃.heap h' ∧ Holds1 SrcO sa h') E' s₃)
    (hQ : ∀ D h' tk (ys : Array Value) o', h'.IsList D ys → (ys.size : Int) = b₀ → (∀ y ∈ ys, V y) → SrcO o' → Fr h₀ L h' m → News h₀ L h' (g o') → Q (.ref D) { s₁ with heap := h', toks := tk }) :
    CompSrc prog w A env elt scope cl x sa L h₀ V Q (.ref r) s₁ := ⟨r, b₀, t₀, u₀, v₀, m, news, o, g, rfl, hr, h0, h1, F, N, U, hS, hq, hQ⟩
section
variable {prog : Program} {w : World} {A : Around} {E : Value → Shared → Prop} {s : Shared} {env : Env} {R : Result → Shared → Prop}
theorem loop_mut {elt iter : Expr} {x : Str} {px : Pos} {scope : Scope} {pos : Pos} {I D sa : Addr} {fp wr : List Addr} {n : Nat} {P : Nat → Value → Prop} {St : Nat → Heap → Prop}
    {cenv : Env} {m : Str → Option Value} (S : Obj → Prop) (V : Value → Prop) (W : Walks prog w A I fp wr n P St) (hz : n ≤ 1000)
    (hx : cenv.kindOf x = some .local) (hp : (cenv.scope.kind == .class || (cenv.scope.kind == .module && cenv.locals != cenv.globals)) = false)
    (hDC : D ≠ cenv.locals) (hDf : D ∉ fp) (hCf : cenv.locals ∉ fp) (hsf : sa ∉ fp) (hsD : sa ≠ D) (hsC : sa ≠ cenv.locals)
    (hst : St 0 s.heap) (hacc : s.heap.PlainList D #[]) (hn : s.heap.Ns cenv.locals m) (hS : Holds1 S sa s.heap)
    (helt : ∀ i v (s₂ : Shared) m₂ E', i < n → P i v → s₂.heap.Ns cenv.locals m₂ → m₂ x = some v → Holds1 S sa s₂.heap → KeptBut (cenv.locals :: D :: sa :: wr) s.heap s₂.heap →
      wpAny (model prog w) A (eval elt cenv) (fun y s₃ => V y ∧ ∃ h' tk, s₃ = { s₂ with heap := h', toks := tk } ∧ KeptBut [sa] s₂.heap h' ∧ Holds1 S sa h') E' s₂)
    (hR : ∀ h' tk m' (ys : Array Value), h'.Ns cenv.locals m' → h'.IsList D ys → ys.size = n → (∀ y ∈ ys, V y) → Holds1 S sa h' →
      KeptBut (cenv.locals :: D :: sa :: wr) s.heap h' → R (.ok .next) { s with heap := h', toks := tk }) :
    codeAny (model prog w) A (.compLoop (.ListComp elt [⟨.Name x px, iter, [], 0⟩] scope pos) 0 (.ref I) (.ref D) cenv) R s := by
  refine codeAny_compLoop_tests (fun k s' => ∃ h' tk m', ∃ ys : Array Value, s' = { s with heap := h', toks := tk } ∧ St ys.size h' ∧ h'.PlainList D ys ∧ h'.Ns cenv.locals m' ∧ (∀ y ∈ ys, V y) ∧ ys.size ≤ n ∧ k = n + 1 - ys.size ∧
      Holds1 S sa h' ∧ KeptBut (cenv.locals :: D :: sa :: wr) s.heap h') ?_ (n + 1)
    ⟨s.heap, s.toks, m, #[], rfl, hst, hacc, hn, by simp, Nat.zero_le _, rfl, hS, fun _ _ _ e => e⟩
  rintro k s' ⟨H, tk, m', ys, rfl, hst', hacc', hn', hV, hi, rfl, hS', hk⟩
  have hCw : cenv.locals ∉ wr := fun h => hCf (W.sub _ h)
  have hDw : D ∉ wr := fun h => hDf (W.sub _ h)
  have hsw : sa ∉ wr := fun h => hsf (W.sub _ h)
  by_cases hlt : ys.size < n
  · refine W.item ys.size _ _ _ hlt hst' fun v h₁ tk₁ hPv hst₁ hk₁ => ?_
    refine wpAny_assign_Name (wpAny_storeName_local hx (hn'.at' fun o e => hk₁ _ o hCw e) (fun h₂ hn₂ hs₂ => ?_) hp)
    have up₂ : ∀ b o, b ≠ cenv.locals → b ∉ wr → H.get? b = some o → h₂.get? b = some o := fun b o hbC hbf e => hs₂.extBut b o hbC (hk₁ b o hbf e)
    have hst₂ : St (ys.size + 1) h₂ := W.frame _ _ _ hst₁ fun b hb o e => hs₂.extBut b o (fun h => hCf (h ▸ hb)) e
    refine wpAny_tests_nil ?_
    rw [if_pos rfl]
    refine wpAny_mono (helt ys.size v _ _ _ hlt hPv hn₂ (by simp) (hS'.at fun o e => up₂ sa o hsC hsw e) fun b o hb e => up₂ b o (fun q => hb (by rw [q]; exact .head _)) (fun q => hb (.tail _ (.tail _ (.tail _ q)))) (hk b o hb e)) (fun y s₄ h₄ => ?_) fun _ _ e => e
    obtain ⟨hy, h₄, tk₄, rfl, hk₄, hS₄⟩ := h₄
    refine wpAny_list_append_plain (hsz := by rw [sizeLine_eq]; omega) (hacc'.at fun o e => hk₄ _ o (fun q => hsD (List.mem_singleton.mp q).symm) (up₂ D o hDC hDw e)) fun h₅ hl₅ hs₅ => ?_
    refine ⟨n + 1 - (ys.size + 1), by omega, h₅, tk₄, _, ys.push y, rfl, ?_, hl₅, (hn₂.at' fun o e => hk₄ _ o (fun q => hsC (List.mem_singleton.mp q).symm) e).sameBut hs₅ (Ne.symm hDC), fun z hz => ?_, by rw [Array.size_push]; exact hlt, by rw [Array.size_push], hS₄.at fun o e => hs₅.extBut _ o hsD e, fun b o hb e => ?_⟩
    · rw [Array.size_push]
      exact W.frame _ _ h₅ hst₂ fun b hb o e => hs₅.extBut b o (fun h => hDf (h ▸ hb)) (hk₄ b o (fun q => hsf (List.mem_singleton.mp q ▸ hb)) e)
    · rcases Array.mem_push.mp hz with hz | rfl
      · exact hV z hz
      · exact hy
    · refine hs₅.extBut b o (fun q => hb (by rw [q]; exact .tail _ (.head _))) (hk₄ b o (fun q => hb (by rw [List.mem_singleton.mp q]; exact .tail _ (.tail _ (.head _)))) (up₂ b o (fun q => hb (by rw [q]; exact .head _)) (fun q => hb (.tail _ (.tail _ (.tail _ q)))) (hk b o hb e)))
  · have hin : ys.size = n := by omega
    refine W.done _ _ _ (hin ▸ hst') fun h₁ tk₁ hk₁ => ?_
    exact hR h₁ tk₁ m' ys (hn'.at' fun o e => hk₁ _ o hCw e) (hacc'.at fun o e => hk₁ _ o hDw e).isList hin hV (hS'.at fun o e => hk₁ _ o hsw e) fun b o hb e => hk₁ b o (fun q => hb (.tail _ (.tail _ (.tail _ q)))) (hk b o hb e)

/-- a comprehension whose element may change one object -/
theorem comp_mut {elt iter : Expr} {x : Str} {px pos : Pos} {scope : Scope} {cl : List (Str × Addr)} {sa : Addr} {Q : Value → Shared → Prop} (S : Obj → Prop) (V : Value → Prop)
    (hclos : closureFor scope env = pure cl) (hcell : ∀ y ∈ scope.names, y.2 ≠ .cell) (hkind : scope.kind = .function)
    (hnames : ∀ y ∈ scope.names, y.2 = .local → scope.names.lookup y.1 = some .local) (hx : scope.names.lookup x = some .local)
    (h : wpAny (model prog w) A (eval iter env) (fun xv s₁ => wpAny (model prog w) A (pyIter xv) (fun it s₂ => ∃ I fp wr n P St, it = .ref I ∧ Walks prog w A I fp wr n P St ∧ n ≤ 1000 ∧ St 0 s₂.heap ∧ (∀ b ∈ fp, b < s₂.heap.objs.size) ∧
      sa ∉ fp ∧ Holds1 S sa s₂.heap ∧
      (∀ C i v (s₃ : Shared) m₃ E', i < n → P i v → s₃.heap.Ns C m₃ → m₃ x = some v → Holds1 S sa s₃.heap → KeptBut (sa :: wr) s₂.heap s₃.heap →
        wpAny (model prog w) A (eval elt (compEnvC scope cl C env)) (fun y s₄ => V y ∧ ∃ h' tk, s₄ = { s₃ with heap := h', toks := tk } ∧ KeptBut [sa] s₃.heap h' ∧ Holds1 S sa h') E' s₃) ∧
      (∀ D h' tk (ys : Array Value), s₂.heap.get? D = none → h'.IsList D ys → ys.size = n → (∀ y ∈ ys, V y) → Holds1 S sa h' → KeptBut (sa :: wr) s₂.heap h' → Q (.ref D) { s₂ with heap := h', toks := tk })) E s₁) E s)
    (hs : ∀ x, foldedSetIterable iter env x = pure x := by intro _; rfl) :
    wpAny (model prog w) A (eval (.ListComp elt [⟨.Name x px, iter, [], 0⟩] scope pos) env) Q E s := by
  rw [eval_ListComp]
  refine wpAny_comprehension_free (use := none) rfl hs hclos hkind hnames (wpAny_mono h (fun xv s₁ h₁ => wpAny_mono h₁ (fun it s₂ h₂ => ?_) fun _ _ e => e) fun _ _ e => e)
  obtain ⟨I, fp, wr, n, P, St, rfl, W, hsz, hst, hfp, hsf, hS, hq, hQ⟩ := h₂
  have hsl : sa < s₂.heap.objs.size := let ⟨_, ho, _⟩ := hS; Heap.lt_size ho
  refine wpAny_newObj_type (wpAny_newFunctionEnv hcell (by intro y hy; simp at hy) (fun h₁ hns₁ hsb₁ => ?_) hkind)
  dsimp only at hns₁ hsb₁ ⊢
  generalize hH2 : s₂.heap.push { cls := .type "list", dict := none, data := .seq ([] : List Value).toArray } = H2 at hns₁ hsb₁ ⊢
  have hC : H2.objs.size = s₂.heap.objs.size + 1 := by rw [← hH2, Heap.size_push]
  have hDC : s₂.heap.objs.size ≠ H2.objs.size := by rw [hC]; exact Nat.ne_of_lt (Nat.lt_succ_self _)
  have below : ∀ b, b < s₂.heap.objs.size → b ≠ H2.objs.size ∧ b ≠ s₂.heap.objs.size := fun b hb => ⟨by rw [hC]; exact Nat.ne_of_lt (Nat.lt_succ_of_lt hb), Nat.ne_of_lt hb⟩
  have hDf : s₂.heap.objs.size ∉ fp := fun hm => Nat.lt_irrefl _ (hfp _ hm)
  have hCf : H2.objs.size ∉ fp := fun hm => by have := hfp _ hm; rw [hC] at this; exact Nat.lt_irrefl _ (Nat.lt_of_succ_lt this)
  have old : ∀ b o, s₂.heap.get? b = some o → h₁.get? b = some o := fun b o e => hsb₁.extBut b o (below b (Heap.lt_size e)).1 (Heap.get?_push_of_some _ (hH2 ▸ Heap.get?_push_of_some _ e))
  have hacc : h₁.PlainList s₂.heap.objs.size #[] := ⟨_, hsb₁.extBut _ _ hDC (Heap.get?_push_of_some _ (hH2 ▸ Heap.get?_push_size _ rfl))⟩
  have hst₁ : St 0 h₁ := W.frame _ _ _ hst fun b _ o e => old b o e
  have fresh : ∀ a, s₂.heap.objs.size ≤ a → s₂.heap.get? a = none := fun a ha => by
    cases e : s₂.heap.get? a with
    | none => rfl
    | some o' => exact absurd (Heap.lt_size e) (Nat.not_lt.mpr ha)
  have kb : ∀ {h'' : Heap}, KeptBut (H2.objs.size :: s₂.heap.objs.size :: sa :: wr) h₁ h'' → KeptBut (sa :: wr) s₂.heap h'' := fun k b o hb e => k b o (fun q => by
    rcases List.mem_cons.mp q with q | q
    · exact (below b (Heap.lt_size e)).1 q
    rcases List.mem_cons.mp q with q | q
    · exact (below b (Heap.lt_size e)).2 q
    · exact hb q) (old b o e)
  have loop : ∀ s₃ : Shared, s₃ = { s₂ with heap := h₁, toks := s₂.toks + ([] : List (Str × Value)).length } →
      codeAny (model prog w) A (.compLoop (.ListComp elt [⟨.Name x px, iter, [], 0⟩] scope pos) 0 (.ref I) (.ref s₂.heap.objs.size) (compEnvC scope cl H2.objs.size env))
        (fun r s' => compPost (model prog w) A E none Q (.ref s₂.heap.objs.size) H2.objs.size r s') s₃ := by
    rintro s₃ rfl
    refine loop_mut (cenv := compEnvC scope cl H2.objs.size env) S V W hsz (lookup_relabel_local hx) (by simp [compEnvC, relabel, hkind]) hDC hDf hCf hsf (below _ hsl).2 (below _ hsl).1 hst₁ hacc hns₁ (hS.at fun o e => old _ o e)
      (fun i v s₃ m₃ E' hi hP hn hv hS₃ hk => hq _ i v s₃ m₃ E' hi hP hn hv hS₃ (kb hk)) fun h' tk m' ys hn ha hlen hV hS' hk => ?_
    refine ⟨m', hn, fun h'' hs'' => hQ _ h'' tk ys (fresh _ (Nat.le_refl _)) (ha.extBut hs''.extBut hDC) hlen hV (hS'.at fun o e => hs''.extBut _ o (below _ hsl).1 e) fun b o hb e => hs''.extBut b o (below b (Heap.lt_size e)).1 (kb hk b o hb e)⟩
  exact codeAny_compStart_list (loop _ rfl) (W.self 0 _ _ _ hst₁ (loop _ rfl))

/-- the same over a range, in a frame with a ledger -/
theorem comp_rangeM {elt iter : Expr} {x : Str} {px pos : Pos} {scope : Scope} {cl : List (Str × Addr)} {sa L : Addr} {h₀ : Heap} {Q : Value → Shared → Prop} (V : Value → Prop) (hh : A.handled = none)
    (hclos : closureFor scope env = pure cl) (hcell : ∀ y ∈ scope.names, y.2 ≠ .cell) (hkind : scope.kind = .function)
    (hnames : ∀ y ∈ scope.names, y.2 = .local → scope.names.lookup y.1 = some .local) (hx : scope.names.lookup x = some .local)
    (h : wpAny (model prog w) A (eval iter env) (fun xv s₁ => CompSrc prog w A env elt scope cl x sa L h₀ V Q xv s₁) E s)
    (hs : ∀ x, foldedSetIterable iter env x = pure x := by intro _; rfl) :
    wpAny (model prog w) A (eval (.ListComp elt [⟨.Name x px, iter, [], 0⟩] scope pos) env) Q E s := by
  refine comp_mut (sa := sa) SrcO V hclos hcell hkind hnames hx (wpAny_mono h (fun xv s₁ h₁ => ?_) fun _ _ e => e) hs
  obtain ⟨r, b₀, t₀, u₀, v₀, m, news, o, g, rfl, hr, hb0, hb1, F, N, U, hS, hq, hQ⟩ := h₁
  obtain ⟨ho, hno⟩ := updAt N U
  obtain ⟨k, rfl⟩ : ∃ k : Nat, b₀ = (k : Int) := ⟨b₀.toNat, by omega⟩
  have hsl := Heap.lt_size ho
  have hk : Builtin.Range.rangeSize 0 (k : Int) 1 = (k : Int) := by rw [PyProof.Rows.rangeSize_nat]; omega
  have kp : ∀ {h' : Heap} {oi : Obj}, KeptBut (sa :: [s₁.heap.objs.size]) (s₁.heap.push oi) h' → KeptBut [sa] s₁.heap h' := fun q b o hb e => q b o (fun z => by
    rcases List.mem_cons.mp z with z | z
    · exact hb (by rw [z]; exact .head _)
    · exact absurd (Heap.lt_size e) (by rw [List.mem_singleton.mp z]; exact Nat.lt_irrefl _)) (Heap.get?_push_of_some _ e)
  refine wpAny_pyIter_range hr (range_small (by omega) (by omega) (by omega)) ?_
  refine ⟨_, _, _, _, _, _, rfl, Walks.range hh s₁.heap.objs.size 0 1 k, by omega, by show IsRangeIter _ _ _ _ _; rw [hk]; simpa using Heap.get?_push_size _ rfl, fun b hb => ?_, fun hm => ?_, ⟨o, Heap.get?_push_of_some _ ho, hS⟩, ?_, ?_⟩
  · rw [List.mem_singleton.mp hb]; show _ < (s₁.heap.push _).objs.size; rw [Heap.size_push]; exact Nat.lt_succ_self _
  · exact absurd hsl (by rw [List.mem_singleton.mp hm]; exact Nat.lt_irrefl _)
  · rintro C i v s₃ m₃ E' hi ⟨t, rfl⟩ hn hv ⟨o', ho', hS'⟩ hkb
    exact hq C s₃ m₃ E' o' _ _ hn hv (by omega) (by omega) hS' ho' (kp hkb)
  · rintro D h' tk ys hD hl hlen hV ⟨o', ho', hS'⟩ hkb
    obtain ⟨F', N'⟩ := newsUpd F N U ho' (kp hkb)
    exact hQ D h' tk ys o' hl (by rw [hlen]) hV hS' F' N'
end

/-- entering a def that has cells, with objects hidden; its body never raises -/
theorem enterHC {prog : Program} {w : World} {A : Around} {s : Shared} {p : Program} {loose : List Str} {mg mb : Str → Option Value} {K : Frag} (hid : List (Addr × Obj))
    {R : Result → Shared → Prop} {name qual : Str} {params : Arguments} {body : List Stmt} {scope : Scope} {dV kV doc pm cdv ct oc : Value} {an od : Option Addr} {osl : Array (Option Value)} {f : Addr} {args : Args} (binds : List (Str × Value))
    (X : K.In s.heap) (T : TopRead p loose mg mb s.heap)
    (ho : K.lookup f = some ⟨oc, od, .func (fnOf name qual params body scope dV kV doc pm an cdv ct), osl⟩) (hcd : codeIn K cdv qual = true) (hroom : A.depth < recursionLimit)
    (hbind : bindArgs (fnOf name qual params body scope dV kV doc pm an cdv ct) args = pure binds)
    (hkind : ∀ n, ∀ x ∈ binds, scope.names.lookup x.1 = some .local ∨ (scope.names.lookup x.1 = some .cell ∧ ((cellsFrom n scope.names []).lookup x.1).isSome = true))
    (hnd : ((cellsFrom 0 scope.names []).map (·.1)).Nodup)
    (hh : ∀ p ∈ hid, s.heap.get? p.1 = some p.2)
    (h : ∀ h₁ tk cells, Fr (hideAll s.heap (hid.map (·.1))) s.heap.objs.size h₁ (bindL (envOfC qual scope s.heap.objs.size f cdv).kindOf binds fun _ => none) → News (hideAll s.heap (hid.map (·.1))) s.heap.objs.size h₁ (cells ++ hid) →
      CellsAre (bindC (envOfC qual scope s.heap.objs.size f cdv).kindOf binds fun _ => none) (cellsFrom (s.heap.objs.size + 1) scope.names []) cells → (∀ p ∈ hid, p.1 < s.heap.objs.size) →
      wpAny (model prog w) (A.deeper (envOfC qual scope s.heap.objs.size f cdv)) (execs body (envOfC qual scope s.heap.objs.size f cdv))
        (fun fl s' => R (.ok (.ret (match fl with | .ret v => v | _ => .none))) s') (fun _ _ => False)
        { s with heap := h₁, toks := tk })
    (hco : scope.isCoroutine = false := by rfl) (hgen : scope.isGenerator = false := by rfl) (hk : scope.kind = .function := by rfl) : codeAny (model prog w) A (.call (.ref f) args) R s := by
  refine codeAny_call_function hroom (X _ _ ho) rfl hco hgen rfl (codeRec_of X hcd) (BindsTo.of_eq hbind _ _ _ _ ?_)
  refine wpAny_newFunctionEnv_cells hk (hkind _) fun env' he s' x => ?_
  subst he
  refine ⟨T.nolimit.keeps x.toInCall.keep, codeAny_func ?_⟩
  obtain ⟨h₁, tk, rfl, _⟩ := x.done
  have hk₁ := x.toInCall.keep
  obtain ⟨cells, NC, Y⟩ := Cl.news (h₀ := s.heap) (Nat.le_refl _) fun n c hm => ⟨x.cell n c (lookup_of_mem_nodup (cellsFrom_names scope.names 0 (s.heap.objs.size + 1) [] [] rfl ▸ hnd) hm), x.above n c hm⟩
  refine wpAny_mono (h h₁ tk cells ⟨x.toInCall.ns, fun b o e => hk₁ b o (of_hideAll _ e), Nat.le_of_eq (hideAll_size _ _)⟩ (fun p hp => ?_) Y fun p hp => Heap.lt_size (hh p hp)) (fun fl s' hl => hl) fun _ _ y => y.elim
  rcases List.mem_append.mp hp with hp | hp
  · refine ⟨(NC p hp).1, (NC p hp).2.1, ?_⟩
    cases q : (hideAll s.heap (hid.map (·.1))).get? p.1 with
    | none => rfl
    | some o => have := of_hideAll _ q; rw [(NC p hp).2.2] at this; cases this
  · exact ⟨hk₁ _ _ (hh p hp), Nat.ne_of_lt (Heap.lt_size (hh p hp)), hideAll_none _ (List.mem_map_of_mem hp)⟩
theorem For_F {prog : Program} {w : World} {A : Around} {s : Shared} {env : Env} {h₀ h : Heap} {L : Addr} {m : Str → Option Value} {E : Value → Shared → Prop} {Q : Flow → Shared → Prop} {x : Str} {px pos : Pos} {iter : Expr} {body : List Stmt} (F : Fr h₀ L h m) (hx : env.kindOf x = some .local)
    (hp : (env.scope.kind == .class || (env.scope.kind == .module && env.locals != env.globals)) = false)
    (h : wpAny (model prog w) A (eval iter env) (fun xv s₁ => wpAny (model prog w) A (pyIter xv) (fun it s₂ => LoopAtV prog w A h₀ env x body Q E it s₂) E s₁) E s)
    (hs : ∀ x, foldedSetIterable iter env x = pure x)
    (hE : PassesOwn (model prog w) A env E) :
    wpAny (model prog w) A (exec (.For (.Name x px) iter body [] pos) env) Q E s := For_invV h₀ hx hp h hs hE
noncomputable def CellAt (h : Heap) (c : Addr) (v : Value) : Prop := ∃ o, h.get? c = some o ∧ o.data = .cell (some v)
theorem nm_free {prog : Program} {w : World} {A : Around} {E : Value → Shared → Prop} {s : Shared} {env : Env} {x : Str} {pos : Pos} {v : Value} {Q : Value → Shared → Prop} {c : Addr} (hk : env.scope.kind = .function) (hx : env.kindOf x = some .free) (hc : env.cells.lookup x = some c) (hv : CellAt s.heap c v) (h : Q v s)
    (hb : (x == ("__debug__" : Str)) = false := by decide) (hn : (x == ("__classdict__" : Str)) = false := by decide) :
    wpAny (model prog w) A (eval (.Name x pos) env) Q E s := wpAny_Name (wpAny_loadName_free hk hx hc hv h hn) hb
theorem pick5 {a b c e f : Tok} {k : Nat} {v : Value} (h : [Value.int 0 a, .int 1 b, .int 4 c, .int 6 e, .int 15 f][k]? = some v) : ∃ z t, v = .int z t ∧ 0 ≤ z ∧ z ≤ 15 := by
  have := List.mem_of_getElem? h
  simp only [List.mem_cons, List.not_mem_nil, or_false] at this
  rcases this with rfl | rfl | rfl | rfl | rfl <;> exact ⟨_, _, rfl, by decide, by decide⟩
theorem pick2 {a b : Tok} {k : Nat} {v : Value} (h : [Value.int 12 a, .int 18 b][k]? = some v) : ∃ z t, v = .int z t ∧ 12 ≤ z ∧ z ≤ 18 := by
  have := List.mem_of_getElem? h
  simp only [List.mem_cons, List.not_mem_nil, or_false] at this
  rcases this with rfl | rfl <;> exact ⟨_, _, rfl, by decide, by decide⟩
theorem slice4 (a b c e : Value) {k : Int} (h0 : 0 ≤ k) (h4 : k < 4) : ∃ n, 1 ≤ n ∧ n ≤ 4 ∧ slicePick #[a, b, c, e] none (some (1 + k)) none = ([a, b, c, e].take n).toArray := by
  have : k = 0 ∨ k = 1 ∨ k = 2 ∨ k = 3 := by omega
  rcases this with rfl | rfl | rfl | rfl
  · exact ⟨1, by decide, by decide, rfl⟩
  · exact ⟨2, by decide, by decide, rfl⟩
  · exact ⟨3, by decide, by decide, rfl⟩
  · exact ⟨4, by decide, by decide, rfl⟩
theorem ints_of {ys : Array Value} (h : ∀ y ∈ ys, ∃ c t, y = Value.int c t ∧ 0 ≤ c ∧ c < 256) : ∃ ns, IntsAre ys.toList ns ∧ (∀ n ∈ ns, 0 ≤ n ∧ n < 256) ∧ ns.length = ys.size := by
  have key : ∀ l : List Value, (∀ y ∈ l, ∃ c t, y = Value.int c t ∧ 0 ≤ c ∧ c < 256) → ∃ ns, IntsAre l ns ∧ (∀ n ∈ ns, 0 ≤ n ∧ n < 256) ∧ ns.length = l.length := by
    intro l
    induction l with
    | nil => exact fun _ => ⟨[], .nil, fun _ h => (nomatch h), rfl⟩
    | cons y r ih =>
      intro h
      obtain ⟨c, t, rfl, a, b⟩ := h y (.head _)
      obtain ⟨ns, h1, h2, h3⟩ := ih fun z hz => h z (.tail _ hz)
      refine ⟨c :: ns, .cons _ _ h1, fun n hn => ?_, by rw [List.length_cons, List.length_cons, h3]⟩
      rcases List.mem_cons.mp hn with rfl | hn
      · exact ⟨a, b⟩
      · exact h2 n hn
  obtain ⟨ns, h1, h2, h3⟩ := key ys.toList fun y hy => h y (Array.mem_toList_iff.mp hy)
  exact ⟨ns, h1, h2, by rw [h3, Array.length_toList]⟩
noncomputable def tags4 : List Str := [Str.ofString "abcd", Str.ofString "OS/2", Str.ofString "cvt ", Str.ofString "zz"]
theorem StrsAre.take {vs : List Value} {ss : List Str} (h : StrsAre vs ss) : ∀ n, StrsAre (vs.take n) (ss.take n) := by
  induction h with
  | nil => intro n; rw [List.take_nil, List.take_nil]; exact .nil
  | cons y u _ ih => intro n; cases n with
    | zero => exact .nil
    | succ n => exact .cons _ _ (ih n)
theorem newsSlice {h₀ h : Heap} {L x : Addr} {r : List (Addr × Obj)} {a b c e : Tok} {k : Int} (N : News h₀ L h ((x, listOf (slicePick #[.str (Str.ofString "abcd") a, .str (Str.ofString "OS/2") b, .str (Str.ofString "cvt ") c, .str (Str.ofString "zz") e] none (some (1 + k)) none) 0) :: r)) (h0 : 0 ≤ k) (h4 : k < 4) :
    ∃ n vs, 1 ≤ n ∧ n ≤ 4 ∧ StrsAre vs (tags4.take n) ∧ News h₀ L h ((x, listOf vs.toArray 0) :: r) := by
  obtain ⟨n, h1, h2, hs⟩ := slice4 (.str (Str.ofString "abcd") a) (.str (Str.ofString "OS/2") b) (.str (Str.ofString "cvt ") c) (.str (Str.ofString "zz") e) h0 h4
  rw [hs] at N
  exact ⟨n, _, h1, h2, StrsAre.take (.cons (Str.ofString "abcd") _ (.cons (Str.ofString "OS/2") _ (.cons (Str.ofString "cvt ") _ (.cons (Str.ofString "zz") _ .nil)))) n, N⟩
section
variable {w : World} {A : Around} {E : Value → Shared → Prop} {s : Shared} {h₀ : Heap} {L : Addr} {m : Str → Option Value} {news : List (Addr × Obj)} {g : Obj → List (Addr × Obj)} {Q : Unit → Shared → Prop}
theorem d_setU {d : Addr} {o : Obj} {kvs : List (Str × Value)} {tag : Str} {tt : Tok} {v : Value} (F : Fr h₀ L s.heap m) (N : News h₀ L s.heap news) (U : UpdF d o news g) (hd : o.IsDictOf (PySem.strKind PySem.Challenge.rw_nu0014_01.row.prog w) kvs) (hz : kvs.length ≤ 1000)
    (h : ∀ h' o' tk, Fr h₀ L h' m → News h₀ L h' (g o') → o'.IsDictOf (PySem.strKind PySem.Challenge.rw_nu0014_01.row.prog w) (stored kvs tag v) → Q () { s with heap := h', toks := tk }) :
    wpAny (model PySem.Challenge.rw_nu0014_01.row.prog w) A (setItem (.ref d) (.str tag tt) v) Q E s := by
  obtain ⟨ho, hn⟩ := updAt N U
  have hD : s.heap.DictOf (PySem.strKind PySem.Challenge.rw_nu0014_01.row.prog w) d kvs := Heap.dictOf_iff.mpr ⟨o, ho, hd⟩
  refine wpAny_setItem_pairs (hsz := by rw [sizeLine_eq]; omega) (PySem.strKind_is _ _ _ _) hD fun h' hd' hs => ?_
  obtain ⟨o', ho', hd''⟩ := Heap.dictOf_iff.mp hd'
  obtain ⟨F', N'⟩ := newsUpd F N U ho' fun b o hb e => (hs.2 b fun q => hb (by rw [q]; exact .head _)).trans e
  exact h h' o' _ F' N' hd''
end
theorem words_25_1 : True := by
  (k_with "setItem ref str" => ((k_here; k_dflt (refine' d_setU (by k_asm) (by k_asm) (by k_updF) (by assumption) (by k_extra "mside") ?_); (intro hzq ozq nzq Fzq Nzq hdzq; (try dsimp only at Nzq); (try k_sweep)))))
  (k_with "eval Name" => ((k_here; (with_reducible show wpAny _ _ (eval _ (compEnvC _ _ _ _)) _ _ _); k_dflt (refine' nm_free (by rfl) (by rfl) (by rfl) (by with_reducible assumption) ?_; k_whole))))
  (k_with "exec For" => ((k_here; (with_reducible show wpAny _ _ (exec (Stmt.For (Expr.Name _ _) (Expr.Subscript _ _ _) _ [] _) _) _ _ _); k_dflt (refine' For_F (by k_asm) (by rfl) (by rfl) ?_ (by intro _; rfl) (by first | exact PassesOwn.never | passes_own)))))
  (k_with "call ref" => ((k_here; (with_reducible show wpAny _ _ (call (Value.ref 247) _) _ _ _); k_dflt (refine' one_use (by k_asm) (by k_asm) (by k_updF) (by assumption) (by k_mem) (by k_ne) (by k_asm) (by k_asm) (by k_extra "mroom") (by k_extra "mside") (by k_extra "mside") ?_); intro kzq vzq ozq hzq nzq q1zq hszq Fzq Nzq; (try dsimp only at Nzq); (try (have hzzq := pick5 q1zq; obtain ⟨zzq, tzq, ezq, b1zq, b2zq⟩ := hzzq; subst ezq; clear q1zq)); (try (have hzzq := pick2 q1zq; obtain ⟨zzq, tzq, ezq, b1zq, b2zq⟩ := hzzq; subst ezq; clear q1zq)); (try k_sweep))))
  trivial

theorem nm_cell {prog : Program} {w : World} {A : Around} {E : Value → Shared → Prop} {s : Shared} {env : Env} {x : Str} {pos : Pos} {v : Value} {Q : Value → Shared → Prop} {c : Addr} (hk : env.scope.kind = .function) (hx : env.kindOf x = some .cell) (hc : env.cells.lookup x = some c) (hv : CellAt s.heap c v) (h : Q v s)
    (hb : (x == ("__debug__" : Str)) = false := by decide) :
    wpAny (model prog w) A (eval (.Name x pos) env) Q E s := wpAny_Name (wpAny_loadName_cell hk hx hc hv h) hb
section
variable {w : World} {d u : Nat} {fr : Option (List Env)} {gs : Option (List Code)} {p : Program} {loose : List Str} {mg mb : Str → Option Value} {s : Shared} {E' : Value → Shared → Prop} {c sa : Addr} {m : Str → Option Value} {cenv : Env} {o' : Obj}
theorem elt_first {A : Around} {p1 p2 p3 p4 p5 p6 p7 : Pos} {k j : Int} {t tj : Tok}
    (hk : cenv.scope.kind = .function) (hf : cenv.kindOf (Str.ofString "first") = some .cell) (hc : cenv.cells.lookup (Str.ofString "first") = some c) (hcv : CellAt s.heap c (.int k t))
    (ha : cenv.kindOf (Str.ofString "at") = some .local) (hn : s.heap.Ns cenv.locals m) (hm : m (Str.ofString "at") = some (.int j tj)) (hS : SrcO o') (ho : s.heap.get? sa = some o') :
    wpAny (model PySem.Challenge.rw_nu0014_01.row.prog w) A (eval (.BinOp (.BinOp (.Name (Str.ofString "first") p1) .Add (.BinOp (.Constant (.int 37) 0 p2) .Mult (.Name (Str.ofString "at") p3) p4) p5) .Mod (.Constant (.int 256) 0 p6) p7) cenv)
      (fun y s₄ => (∃ c t, y = Value.int c t ∧ 0 ≤ c ∧ c < 256) ∧ ∃ h' tk, s₄ = { s with heap := h', toks := tk } ∧ KeptBut [sa] s.heap h' ∧ Holds1 SrcO sa h') E' s := by
  obtain ⟨h₃, g₃, d₃, t₃, o₃⟩ := s
  walk_at "eval BinOp"
  walk_at "eval BinOp"
  refine nm_cell hk hf hc hcv ?_
  walk_at "eval BinOp"
  refine wpAny_Constant_int ?_
  refine nm_local hk ha hn hm ?_
  refine i_mul_l (by omega) (by omega) ?_
  refine PyProof.Rows.add_int ?_
  refine wpAny_Constant_int ?_
  refine i_mod (by omega) ?_
  exact ⟨⟨_, _, rfl, Int.emod_nonneg _ (by decide), Int.emod_lt_of_pos _ (by decide)⟩, _, _, rfl, fun _ _ _ e => e, o', ho, hS⟩
theorem elt_take {p1 p2 p3 p4 : Pos}
    (hk : cenv.scope.kind = .function) (hg : cenv.globals = mainGlobals) (hx : cenv.kindOf (Str.ofString "_law_take") = some .globalImplicit) (hf : cenv.kindOf (Str.ofString "source") = some .cell) (hc : cenv.cells.lookup (Str.ofString "source") = some c) (hcv : CellAt s.heap c (.ref sa))
    (X : (hd.heap_1 w.params).In (hideAll s.heap [sa])) (T : TopRead p loose mg mb (hideAll s.heap [sa])) (hroom : d + 10 < recursionLimit) (hS : SrcO o') (ho : s.heap.get? sa = some o') :
    wpAny (model PySem.Challenge.rw_nu0014_01.row.prog w) ⟨none, d, fr, gs, u⟩ (eval (.Call (.Name (Str.ofString "_law_take") p1) [.Name (Str.ofString "source") p2, .Constant (.int 256) 0 p3] [] p4) cenv)
      (fun y s₄ => (∃ c t, y = Value.int c t ∧ 0 ≤ c ∧ c < 256) ∧ ∃ h' tk, s₄ = { s with heap := h', toks := tk } ∧ KeptBut [sa] s.heap h' ∧ Holds1 SrcO sa h') E' s := by
  have X' : (hd.heap_1 w.params).In s.heap := Frag.In.keeps X fun b o q => of_hideAll _ q
  have T' : TopRead p loose mg mb s.heap := T.keeps fun b o q => of_hideAll _ q
  refine Call_ ?_
  refine nm_glob hg hk hx X' T' (v := .ref 240) (by k_is) ?_
  walk1
  refine spliced_more ?_
  refine nm_cell hk hf hc hcv ?_
  refine spliced_more ?_
  refine wpAny_Constant_int ?_
  refine spliced_none ?_
  refine ⟨X', take_core (s := { s with toks := s.toks + 1 }) hS ho (by decide) (by decide) X T hroom fun k u o₂ h' n h0 h1 h2 h3 h4 => ?_⟩
  exact ⟨⟨k, u, rfl, h0, h1⟩, h', n, rfl, h4, o₂, h3, h2⟩
end

/-- what _law_tables may make -/
noncomputable def TbOk (tb : Tb) : Prop := (∃ n, 1 ≤ n ∧ n ≤ 4 ∧ keysT tb = tags4.take n ∨
    1 ≤ n ∧ n ≤ 4 ∧ keysT tb = tags4.take n ++ [Str.ofString "head"]) ∧
  (∀ q ∈ tb, q.2.length ≤ 18) ∧ (∀ q ∈ tb, q.1 = Str.ofString "head" → 12 ≤ q.2.length)

theorem newsDrop {h₀ h : Heap} {L : Addr} {p q1 q2 q3 q4 : Addr × Obj} {own : List (Addr × Obj)} (N : News h₀ L h (p :: q1 :: q2 :: q3 :: q4 :: own)) : News h₀ L h ([q1, q2, q3, q4] ++ own) := fun x hx => N x (.tail _ hx)
theorem keysT_snoc (tb : Tb) (tag : Str) (l : List UInt8) : keysT (tb ++ [(tag, l)]) = keysT tb ++ [tag] := by unfold keysT; rw [List.map_append]; rfl
theorem hid3 {h h₁ h₃ : Heap} {L sa : Addr} {m : Str → Option Value} (F : Fr (hideAll h [sa]) L h₁ m) (k : KeptBut [sa] h₁ h₃) : ∀ b o, (hideAll h [sa]).get? b = some o → (hideAll h₃ [sa]).get? b = some o := fun b o e => by
  have hb : b ∉ [sa] := fun q => by rw [hideAll_none [sa] q] at e; cases e
  exact hideAll_get _ (k b o hb (F.keep b o e)) hb
theorem head_new (n : Nat) : Str.ofString "head" ∉ tags4.take n := fun h => absurd (List.mem_of_mem_take h) (by decide)
theorem okNo {tb : Tb} {n : Nat} (h1 : 1 ≤ n) (h4 : n ≤ 4) (hk : keysT tb = tags4.take n) (hl : ∀ q ∈ tb, q.2.length ≤ 15) : TbOk tb :=
  ⟨⟨n, .inl ⟨h1, h4, hk⟩⟩, fun q hq => by have := hl q hq; omega, fun q hq e => absurd (show Str.ofString "head" ∈ keysT tb from e ▸ List.mem_map_of_mem hq) (by rw [hk]; exact head_new n)⟩
theorem okHead {tb : Tb} {n : Nat} {l : List UInt8} (h1 : 1 ≤ n) (h4 : n ≤ 4) (hk : keysT tb = tags4.take n) (hl : ∀ q ∈ tb, q.2.length ≤ 15) (l1 : l.length ≤ 18) (l2 : 12 ≤ l.length) : TbOk (tb ++ [(Str.ofString "head", l)]) := by
  refine ⟨⟨n, .inr ⟨h1, h4, by rw [keysT_snoc, hk]⟩⟩, fun q hq => ?_, fun q hq e => ?_⟩
  · rcases List.mem_append.mp hq with hq | hq
    · have := hl q hq; omega
    · rw [List.mem_singleton.mp hq]; exact l1
  · rcases List.mem_append.mp hq with hq | hq
    · exact absurd (show Str.ofString "head" ∈ keysT tb from e ▸ List.mem_map_of_mem hq) (by rw [hk]; exact head_new n)
    · rw [List.mem_singleton.mp hq]; exact l2
theorem tablesEnd {w : World} {s : Shared} {Q : Value → Shared → Prop} {sa dd L : Addr} {od o' : Obj} {kvs : List (Str × Value)} {tb : Tb} {h' : Heap} {tk : Nat} {m : Str → Option Value} {news : List (Addr × Obj)}
    (hQ : ∀ dd od kvs tb o' h' n, (dd == sysModules) = false → od.IsDictOf (PySem.strKind PySem.Challenge.rw_nu0014_01.row.prog w) kvs → KV kvs tb → TbOk tb → h'.get? dd = some od → s.heap.get? dd = none → SrcO o' → h'.get? sa = some o' → KeptBut [sa] s.heap h' → Q (.ref dd) { s with heap := h', toks := n })
    (F : Fr (hideAll s.heap [sa]) L h' m) (m1 : (dd, od) ∈ news) (m2 : (sa, o') ∈ news) (N : News (hideAll s.heap [sa]) L h' news) (lo : (dd == sysModules) = false) (hd : od.IsDictOf (PySem.strKind PySem.Challenge.rw_nu0014_01.row.prog w) kvs) (hK : KV kvs tb) (hT : TbOk tb) (hS : SrcO o') (hne : dd ≠ sa) :
    Q (.ref dd) { s with heap := h', toks := tk } := by
  refine hQ dd od kvs tb o' h' tk lo hd hK hT (N.get m1) ?_ hS (N.get m2) (hidKeep F)
  cases q : s.heap.get? dd with
  | none => rfl
  | some o => have := hideAll_get [sa] q (fun e => hne (List.mem_singleton.mp e)); rw [(N _ m1).2.2] at this; cases this
theorem tags_new {n i : Nat} {tag : Str} (h : (tags4.take n)[i]? = some tag) : tag ∉ tags4.take i := by
  have h' : tags4[i]? = some tag := by
    rw [List.getElem?_take] at h
    split at h
    · exact h
    · cases h
  exact not_in_take (by decide) h'
theorem take_succ_of {n i : Nat} {tag : Str} (h : (tags4.take n)[i]? = some tag) : tags4.take i ++ [tag] = tags4.take (i + 1) := by
  have h' : tags4[i]? = some tag := by
    rw [List.getElem?_take] at h
    split at h
    · exact h
    · cases h
  rw [List.take_add_one, h']; rfl
theorem len_snoc {tb : Tb} {tag : Str} {l : List UInt8} {k : Nat} (h : ∀ q ∈ tb, q.2.length ≤ k) (hl : l.length ≤ k) : ∀ q ∈ tb ++ [(tag, l)], q.2.length ≤ k := fun q hq => by
  rcases List.mem_append.mp hq with hq | hq
  · exact h q hq
  · rw [List.mem_singleton.mp hq]; exact hl
theorem turn4 {a b c e : Addr} {x y z v : Obj} {fp : List Addr} (ha : a ∉ fp) (hb : b ∉ fp) (hc : c ∉ fp) (he : e ∉ fp) : ∀ p ∈ [(a, x), (b, y), (c, z), (e, v)], p.1 ∉ fp := fun p hp => by
  rcases List.mem_cons.mp hp with rfl | hp
  · exact ha
  rcases List.mem_cons.mp hp with rfl | hp
  · exact hb
  rcases List.mem_cons.mp hp with rfl | hp
  · exact hc
  · rw [List.mem_singleton.mp hp]; exact he
section
variable {w : World} {d u : Nat} {fr : Option (List Env)} {gs : Option (List Code)} {s : Shared} {p : Program} {loose : List Str} {mg mb : Str → Option Value}
set_option maxHeartbeats 4000000 in
theorem tables_core {sa : Addr} {o : Obj} {E Q : Value → Shared → Prop} (hs : SrcO o) (ho : s.heap.get? sa = some o)
    (X : (hd.heap_1 w.params).In (hideAll s.heap [sa])) (T : TopRead p loose mg mb (hideAll s.heap [sa])) (hroom : d + 30 < recursionLimit)
    (hQ : ∀ dd od kvs tb o' h' n, (dd == sysModules) = false → od.IsDictOf (PySem.strKind PySem.Challenge.rw_nu0014_01.row.prog w) kvs → KV kvs tb → TbOk tb → h'.get? dd = some od → s.heap.get? dd = none → SrcO o' → h'.get? sa = some o' → KeptBut [sa] s.heap h' → Q (.ref dd) { s with heap := h', toks := n }) :
    wpAny (model PySem.Challenge.rw_nu0014_01.row.prog w) ⟨none, d, fr, gs, u⟩ (call (.ref 266) [.ref sa]) Q E s := by
  refine wpAny_call (enterHC [(sa, o)] [("source", .ref sa)] (Frag.In.keeps X fun b o q => of_hideAll _ q) (T.keeps fun b o q => of_hideAll _ q) rfl (by rfl) (by simp only; omega) rfl ?_ (by decide) (fun p hp => ?_) (fun h₁ tk cells F N Y hlt => ?_))
  · intro n x hx
    rw [List.mem_singleton.mp hx]
    exact .inr ⟨rfl, rfl⟩
  · rw [List.mem_singleton.mp hp]; exact ho
  simp only [List.map_cons, List.map_nil] at F N
  obtain ⟨c1, c2, hE, hc1, hc2⟩ := CellsAre.two Y
  subst hE
  clear Y
  have hsl : sa < s.heap.objs.size := hlt _ (.head _)
  k_lt2 hsl
  simp only [List.cons_append, List.nil_append] at N
  k_extra "go"
  rename (0 : Int) ≤ _ => hk0
  rename _ < (4 : Int) => hk4
  rename News _ _ _ _ => N2
  rename News _ _ _ [_, _, _, _, _] => N1
  rename (_ == sysModules) = false => lop
  rename Obj.IsDictOf (PySem.strKind _ _) _ [] => hd0
  obtain ⟨n, vs, hn1, hn4, hS, N3⟩ := newsSlice N2 hk0 hk4
  clear N2
  have hne := (N3 _ (.head _)).2.1
  refine forList rfl ⟨_, N3.get (.head _), rfl, _, rfl⟩ hne (by assumption) (news := [_, _, _, _]) (fun p hp => N3 p (.tail _ (.tail _ hp))) (fun p hp => ?_)
    (fun i m news => ∃ dd od kvs tb c1 vo o', m "found" = some (.ref dd) ∧ news = [(dd, od), (s.heap.objs.size + 1 + 1, c1), (s.heap.objs.size + 1, c2), (sa, o')] ∧ (dd == sysModules) = false ∧ od.IsDictOf (PySem.strKind PySem.Challenge.rw_nu0014_01.row.prog w) kvs ∧ KV kvs tb ∧
      keysT tb = tags4.take i ∧ (∀ q ∈ tb, q.2.length ≤ 15) ∧ c1.data = .cell vo ∧ SrcO o' ∧ s.heap.objs.size + 1 + 1 < dd) ⟨_, _, _, [], _, _, _, rfl, rfl, lop, hd0, .nil, rfl, (fun _ h => nomatch h), hc1, by assumption, ?_⟩ ?_ ?_
  · exact Nat.ne_of_lt (Nat.lt_succ_of_lt (Heap.lt_size (N1 p (.tail _ hp)).1))
  · omega
  · clear N1 N3
    rintro i v m₁ news₁ h tk own hv ⟨dd, od, kvs, tb, c1, vo, o', hfd, rfl, lop, hd1, hKV, hks, hlen, hc1, hs', hdd⟩ hnf hof hall F₁ N₁
    k_lt2 hdd
    obtain ⟨tag, tt, hti, rfl⟩ := strsAre_at hS hv
    simp only [List.cons_append, List.nil_append] at N₁
    have hownd : ∀ p ∈ own, p.1 ≠ dd := fun p hp e => hnf _ (.head _) (e ▸ hof p hp)
    have hownc : ∀ p ∈ own, p.1 ≠ s.heap.objs.size + 1 + 1 := fun p hp e => hnf _ (.tail _ (.head _)) (e ▸ hof p hp)
    have howns : ∀ p ∈ own, p.1 ≠ sa := fun p hp e => hnf _ (.tail _ (.tail _ (.tail _ (.head _)))) (e ▸ hof p hp)
    have hkz : kvs.length ≤ 1000 := by rw [hKV.len, ← List.length_map (f := (·.1)) (as := tb)]; show (keysT tb).length ≤ 1000; rw [hks, List.length_take]; show min i 4 ≤ 1000; omega
    k_sweep
    k_extra "go"
    rename Obj.data _ = .cell (some (.int _ _)) => hc1'
    rename (0 : Int) ≤ _ => hf0
    rename _ < (256 : Int) => hf1
    refine comp_rangeM (sa := sa) (L := s.heap.objs.size) (h₀ := hideAll s.heap [sa]) (cl := [(Str.ofString "first", s.heap.objs.size + 1 + 1)]) (fun y => ∃ c t, y = .int c t ∧ 0 ≤ c ∧ c < 256) rfl (by rfl) (by decide) rfl (by decide) rfl ?_
    k_extra "go"
    rename IsRange _ _ _ _ _ _ _ _ => hRg
    refine' CompSrc.intro hRg ?ca ?cb ?cF ?cN ?cU ?cS ?cq ?cQ
    (case ca => omega)
    (case cb => omega)
    (case cF => k_asm)
    (case cN => k_asm)
    (case cU => k_updF)
    (case cS => assumption)
    · intro C s₃ m₃ E' o₃ j tj hn hm hj0 hj1 hS₃ ho₃ hkb
      rename News _ _ _ _ => N9
      have hcl := N9 _ (.tail _ (.tail _ (.head _)))
      have hcv : CellAt s₃.heap (s.heap.objs.size + 1 + 1) _ := ⟨_, hkb _ _ (fun q => absurd (List.mem_singleton.mp q) (Nat.ne_of_gt (Nat.lt_succ_of_lt (Nat.lt_succ_of_lt hsl)))) hcl.1, hc1'⟩
      exact elt_first rfl rfl rfl hcv rfl hn hm hS₃ ho₃
    · intro D h' tk ys o₃ hl hlz hV hS₃ F₃ N₃
      obtain ⟨ns, hi1, hi2, hi3⟩ := ints_of hV
      rw [← Array.toArray_toList (xs := ys)] at hl
      k_sweep
      k_extra "go"
      all_goals (try exact Str.ofString "")
      all_goals (try exact (0 : Nat))
      all_goals (try exact Value.none)
      rename News _ _ _ _ => N9
      rename Obj.IsDictOf (PySem.strKind _ _) _ (stored _ _ _) => hd2
      rename Obj => o2
      have hnk : tag ∉ kvs.map (·.1) := by rw [hKV.keys, hks]; exact tags_new hti
      rw [stored_new' hnk] at hd2
      exact TurnEnd.intro _ (by assumption) (newsDrop N9) (turn4 (by exact hnf _ (.head _)) (by exact hnf _ (.tail _ (.head _))) (by exact hnf _ (.tail _ (.tail _ (.head _)))) (by exact hnf _ (.tail _ (.tail _ (.tail _ (.head _))))))
        ⟨dd, o2, _, tb ++ [(tag, bl ns)], _, _, o₃, by exact hfd, rfl, lop, hd2, Paired.snoc hKV ⟨rfl, _, rfl⟩, by rw [keysT_snoc, hks, take_succ_of hti], len_snoc hlen (by unfold bl; rw [List.length_map]; omega), hc1', hS₃, hdd⟩
  · rintro h tk m₁ news₁ ⟨dd, od, kvs, tb, c1, vo, o', hfd, rfl, lop, hd1, hKV, hks, hlen, hc1, hs', hdd⟩ F₁ N₁
    k_lt2 hdd
    have hvl := StrsAre.length hS
    have hkz : kvs.length ≤ 1000 := by rw [hKV.len, ← List.length_map (f := (·.1)) (as := tb)]; show (keysT tb).length ≤ 1000; rw [hks, List.length_take]; show min _ 4 ≤ 1000; omega
    k_sweep
    k_extra "go"
    all_goals (try exact Str.ofString "")
    all_goals (try exact (0 : Nat))
    all_goals (try exact Value.none)
    · refine comp_rangeM (sa := sa) (L := s.heap.objs.size) (h₀ := hideAll s.heap [sa]) (cl := [(Str.ofString "source", s.heap.objs.size + 1)]) (fun y => ∃ c t, y = .int c t ∧ 0 ≤ c ∧ c < 256) rfl (by rfl) (by decide) rfl (by decide) rfl ?_
      k_extra "go"
      rename IsRange _ _ _ _ _ _ _ _ => hRg
      refine' CompSrc.intro hRg ?dca ?dcb ?dcF ?dcN ?dcU ?dcS ?dcq ?dcQ
      (case dca => omega)
      (case dcb => omega)
      (case dcF => k_asm)
      (case dcN => k_asm)
      (case dcU => k_updF)
      (case dcS => assumption)
      · intro C s₃ m₃ E' o₃ j tj hn hm hj0 hj1 hS₃ ho₃ hkb
        rename News _ _ _ _ => N9
        rename Fr _ _ _ _ => F9
        have hcl := N9 _ (.tail _ (.tail _ (.tail _ (.head _))))
        have hcv : CellAt s₃.heap (s.heap.objs.size + 1) (.ref sa) := ⟨_, hkb _ _ (fun q => absurd (List.mem_singleton.mp q) (Nat.ne_of_gt (Nat.lt_succ_of_lt hsl))) hcl.1, hc2⟩
        exact elt_take rfl rfl rfl rfl rfl hcv (Frag.In.keeps X (hid3 F9 hkb)) (T.keeps (hid3 F9 hkb)) (by k_extra "mroom") hS₃ ho₃
      · intro D h' tk ys o₃ hl hlz hV hS₃ F₃ N₃
        obtain ⟨ns, hi1, hi2, hi3⟩ := ints_of hV
        rw [← Array.toArray_toList (xs := ys)] at hl
        k_sweep
        k_extra "go"
        all_goals (try exact Str.ofString "")
        all_goals (try exact (0 : Nat))
        all_goals (try exact Value.none)
        (try dsimp only)
        rename News _ _ _ _ => N9
        rename Fr _ _ _ _ => F9
        rename Obj.IsDictOf (PySem.strKind _ _) _ (stored _ _ _) => hd2
        have hnk : Str.ofString "head" ∉ kvs.map (·.1) := by rw [hKV.keys, hks]; exact head_new _
        rw [stored_new' hnk] at hd2
        have hz : (bl ns).length ≤ 18 ∧ 12 ≤ (bl ns).length := by unfold bl; rw [List.length_map]; omega
        exact tablesEnd hQ F9 (.tail _ (.head _)) (.tail _ (.tail _ (.tail _ (.tail _ (.head _))))) N9 lop hd2 (Paired.snoc hKV ⟨rfl, _, rfl⟩) (okHead (by rw [hvl, List.length_take]; show 1 ≤ min _ 4; omega) (by rw [hvl, List.length_take]; show min _ 4 ≤ 4; omega) hks hlen hz.1 hz.2) hS₃ (Nat.ne_of_gt (Nat.lt_trans hsl (Nat.lt_of_succ_lt (Nat.lt_of_succ_lt hdd))))
    · (try dsimp only)
      rename News _ _ _ _ => N9
      rename Fr _ _ _ _ => F9
      exact tablesEnd hQ F9 (.head _) (.tail _ (.tail _ (.tail _ (.head _)))) N9 lop hd1 hKV (okNo (by rw [hvl, List.length_take]; show 1 ≤ min _ 4; omega) (by rw [hvl, List.length_take]; show min _ 4 ≤ 4; omega) hks hlen) (by assumption) (Nat.ne_of_gt (Nat.lt_trans hsl (Nat.lt_of_succ_lt (Nat.lt_of_succ_lt hdd))))
end

abbrev faultMro : List Value := [.ref 31, .type "Exception", .type "BaseException", .type "object"]
abbrev faultRec (cls : Value) (t : Addr) : Obj := { cls := cls, data := .fields #[.ref t, .none, .none, .none, .bool false, .none] }
section
variable {prog : Program} {w : World} {A : Around} {R : Result → Shared → Prop} {E : Value → Shared → Prop} {h : Heap} {g : Array GenState} {d : Drawn} {t : Nat} {os : OsState}
variable {nm q : Str} {N : Addr} {bs : List Value} {hdct : Bool} {sn : List Str} {sub : List Value} {ab : Bool} {col : Option Bool} {dd : Option Addr} {k0 k1 k2 k3 k5 : Option Value}

theorem fm_exc : (Value.ref 44 :: faultMro).contains (.type "Exception") = true := by decide +kernel
theorem fm_base : (Value.ref 44 :: faultMro).contains (.type "BaseException") = true := by decide +kernel
theorem fm_attr : (Value.ref 44 :: faultMro).contains (.type "AttributeError") = false := by decide +kernel
theorem fm_name : (Value.ref 44 :: faultMro).contains (.type "NameError") = false := by decide +kernel
theorem fm_self : (Value.ref 44 :: faultMro).contains (.ref 44) = true := by decide +kernel

theorem fault_new_check {M : Model} {rest : List Value} {Q : Unit → Shared → Prop} (hC : h.get? 44 = some (excClassObj nm q 44 N bs faultMro hdct sn sub ab col dd k0 k1 k2 k3 k5 "Exception.__new__"))
    (hq : Q () ⟨h, g, d, t, os⟩) : wpAny M A (checkBuiltinCall "Exception.__new__" ⟨.ref 44 :: rest, []⟩) Q E ⟨h, g, d, t, os⟩ := by
  have F := PySem.F.excBase_Exception
  have hcont := fm_exc
  have hstar := F.noStar
  simp only [checkBuiltinCall, F.newKind, F.newSplit, F.newRow]
  repeat (first | refine wpAny_loadPart_at hC ?_ | (refine wpAny_isSubtype_exc hC ?_; rw [hcont]) | refine wpAny_staticBase_exc hC ?_ | refine wpAny_madeBy_exc hC ?_ | simp only [bne_self_eq_false, Bool.false_eq_true, if_false] | wp_step)
  exact hq

theorem fault_new {rest : List Value} (hC : h.get? 44 = some (excClassObj nm q 44 N bs faultMro hdct sn sub ab col dd k0 k1 k2 k3 k5 "Exception.__new__"))
    (hq : R (.ok (.ret (.ref (h.objs.size + 1)))) ⟨(h.push { cls := .type "tuple", data := .seq rest.toArray }).push (faultRec (.ref 44) h.objs.size), g, d, t, os⟩) (hrest : rest.length ≤ sizeLine := by size_fits) :
    codeAny (model prog w) A (.builtin "Exception.__new__" ⟨.ref 44 :: rest, []⟩) R ⟨h, g, d, t, os⟩ := by
  have F := PySem.F.excBase_Exception
  have hends := F.ends
  have hcB := fm_exc
  have hcA := fm_attr
  have hcN := fm_name
  refine codeAny_builtinAt F.entry ?_
  unfold Builtin.«BaseException.__new__»
  refine PySem.wpAt_bind ?_
  show PySem.wpAt _ _ _ (stack >>= _) _ _ _
  refine PySem.wpAt_bind (PySem.wpAt_stack fun p below => PySem.wpAt_of_wpAny ?_)
  wp_walk
  refine PySem.wpAt_of_wpAny ?_
  rw [F.owner]
  repeat (first | with_reducible refine wpAny_madeHere_exc F.canon hC ?_ | with_reducible refine wpAny_loadPart_at hC ?_ | (with_reducible refine wpAny_isSubtype_exc hC ?_; first | rw [hcB] | rw [hcA] | rw [hcN]) | wp_step)
  show R _ _
  rw [Heap.size_push]
  exact hq

theorem fault_type_call {rest : List Value} {Q : Fin → Shared → Prop} {K : Frag}
    (hC : h.get? 44 = some (excClassObj nm q 44 N bs faultMro hdct sn sub ab col dd k0 k1 k2 k3 k5 "Exception.__new__"))
    (X : K.In h) (hi : findIn K (.ref 44) "__init__" = some (some (.ref 28))) (hf : typeIn K (.ref 28) = some (.type "function"))
    (hq : wpAny (model prog w) A (call (.ref 28) (.ref (h.objs.size + 1) :: rest)) (fun v s' => v = .none ∧ Q (.done (.ret (.ref (h.objs.size + 1)))) s') E ⟨(h.push { cls := .type "tuple", data := .seq rest.toArray }).push (faultRec (.ref 44) h.objs.size), g, d, t, os⟩)
    (hrest : rest.length ≤ sizeLine := by size_fits) :
    wpAny (model prog w) A (Builtin.«type.__call__» ⟨.ref 44 :: rest, []⟩) Q E ⟨h, g, d, t, os⟩ := by
  have F := PySem.F.excBase_Exception
  repeat (first | with_reducible refine wpAny_loadPart_at hC ?_ | with_reducible refine wpAny_madeBy_exc hC ?_ | wp_step)
  refine codeAny_call_builtin_code (Code.quiet_builtin _ F.quiet) (fault_new_check hC ?_)
  refine fault_new hC ?_ hrest
  show wpAny _ _ _ _ _ _
  have hC₁ := Heap.get?_push_of_some (faultRec (.ref 44) h.objs.size) (Heap.get?_push_of_some { cls := .type "tuple", data := .seq rest.toArray } hC)
  have hget : ((h.push { cls := .type "tuple", data := .seq rest.toArray }).push (faultRec (.ref 44) h.objs.size)).get? (h.objs.size + 1) = some (faultRec (.ref 44) h.objs.size) := by heap_get
  have hcC := fm_self
  have X₁ : K.In ((h.push { cls := .type "tuple", data := .seq rest.toArray }).push (faultRec (.ref 44) h.objs.size)) := fun b o e => Heap.get?_push_of_some _ (Heap.get?_push_of_some _ (X b o e))
  unfold isInstance
  repeat (first | with_reducible refine wpAny_loadPart_at hget ?_ | (with_reducible refine wpAny_isSubtype_exc hC₁ ?_; rw [hcC]) | wp_step)
  show wpAny _ _ (typeLookup (.ref 44) _) _ _ _
  refine (looks_findIn X₁ hi _ _ _ _ (fun _ _ e => e) ?_)
  refine wpAny_holding (wpAny_bind (bind_fn X₁ _ hf _ _ _ _ (fun _ _ e => e) ?_))
  refine wpAny_bind (wpAny_mono hq (fun v s' z => ?_) fun _ _ z => z)
  obtain ⟨rfl, z⟩ := z
  repeat (any_goals (first | exact z | wp_step))

theorem fault_call {rest : List Value} {Q : Value → Shared → Prop} {K : Frag}
    (hC : h.get? 44 = some (excClassObj nm q 44 N bs faultMro hdct sn sub ab col dd k0 k1 k2 k3 k5 "Exception.__new__"))
    (X : K.In h) (hi : findIn K (.ref 44) "__init__" = some (some (.ref 28))) (hf : typeIn K (.ref 28) = some (.type "function"))
    (hq : ∀ A', A'.depth = A.depth + 1 → wpAny (model prog w) A' (call (.ref 28) (.ref (h.objs.size + 1) :: rest)) (fun v s' => v = .none ∧ Q (.ref (h.objs.size + 1)) s') E ⟨(h.push { cls := .type "tuple", data := .seq rest.toArray }).push (faultRec (.ref 44) h.objs.size), g, d, t, os⟩)
    (hrest : rest.length ≤ sizeLine := by size_fits) :
    wpAny (model prog w) A (call (.ref 44) rest) Q E ⟨h, g, d, t, os⟩ := by
  have f1 := tc_lookup
  have f2 := tc_bind (.ref 44)
  have hT : (⟨h, g, d, t, os⟩ : Shared).TypeIs (.ref 44) "type" := ⟨_, hC, rfl⟩
  refine wpAny_call (codeAny_of_tree ?_)
  show wpAny _ _ (callAny (.ref 44) _) _ _ _
  repeat (any_goals (first | assumption | with_reducible refine wpAny_loadPart_at hC ?_ | wp_step))
  refine ⟨rfl, ?_⟩
  refine codeAny_call_builtin_at (Code.quiet_builtin _ (by decide +kernel)) entry_typeCall (wpAny_check_type_call_sub hC (fault_type_call (hrest := hrest) hC X hi hf (wpAny_mono (hq _ rfl) (fun v s' z => ⟨z.1, z.2⟩) fun _ _ z => z)))
end

section
open Builtin Builtin.ObjectAttr
variable {prog : Program} {w : World} {A : Around} {E : Value → Shared → Prop} {h : Heap} {g : Array GenState} {d : Drawn} {t : Nat} {os : OsState} {K : Frag}
theorem fault_refuse (self : Value) : refuseLoop self "__setattr__" (.ref 44 :: faultMro) = pure () := by
  rw [refuseLoop_ref, refuseLoop_ref]
  exact PySem.F.store_Exception.passes self

theorem fault_store {x : Addr} {o : Obj} {v : Value} {tk : Tok} {vs : Array Value} {Q : Value → Shared → Prop} {cd : ClassData} (X : K.In h) (hc : clsIn K 44 = some cd) (hm : cd.mro = .ref 44 :: faultMro) (hd : cd.hasDict = true) (ha : findIn K (.ref 44) (Str.ofString "message") = some none)
    (hx : h.get? x = some o) (hcl : o.cls = .ref 44) (hod : o.dict = none) (hdt : o.data = .fields vs)
    (hq : ∀ h' tk' o₁, (∀ b ob, b ≠ x → h.get? b = some ob → h'.get? b = some ob) → h'.get? x = some o₁ → o₁.cls = .ref 44 → o₁.data = .fields vs → Q .none ⟨h', g, d, tk', os⟩) :
    codeAny (model prog w) A (.call (.builtin "object.__setattr__") ⟨[.ref x, .str (Str.ofString "message") tk, v], []⟩) (fun r s' => match r with | .ok (.ret v) => Q v s' | .ok _ => False | .error e => E e s') ⟨h, g, d, t, os⟩ := by
  have SF := PySem.F.store_object
  have I : InstAt h x o 44 none := ⟨hx, hcl, by unfold notCls; rw [hdt], by rw [hod]; trivial⟩
  have hmro : Looks (model prog w) h (mroOf (.ref 44)) (.ref 44 :: faultMro) := by rw [← hm]; exact (looks_clsIn X hc).andThen .now
  have sub : Looks (model prog w) h (isInstance (.ref x) (.type "object")) true := I.type.andThen (looks_mroIn X (by unfold mroIn; rw [hc, Option.bind_some, hm]; decide +kernel))
  refine codeAny_call_builtin SF.slot.plain SF.entry (@check_slot (model prog w) _ _ ⟨h, g, d, t, os⟩ "object.__setattr__" "object" "__setattr__" (.ref x) [.str (Str.ofString "message") tk, v] [] _ SF.kind SF.split sub (SF.args (.ref x) (.str (Str.ofString "message") tk) v) ?_)
  rw [osa_eq, refuse_eq]
  refine wpAny_bind (wpAny_bind (I.type _ _ _ _ (fun _ _ e => e) (wpAny_bind (hmro _ _ _ _ (fun _ _ e => e) ?_))))
  rw [fault_refuse]
  refine wpAny_pure (wpAny_bind (I.type _ _ _ _ (fun _ _ e => e) (wpAny_bind (looks_findIn X ha _ _ _ _ (fun _ _ e => e) (wpAny_bind (wpAny_pure ?_))))))
  dsimp only
  unfold storeInOwnDict
  refine wpAny_bind (wpAny_pure ?_)
  refine wpAny_bind ?_
  show wpAny _ _ (instanceDict x true) _ _ _
  unfold instanceDict
  refine wpAny_bind (wpAny_loadPart hx ?_)
  rw [hcl]
  refine wpAny_bind ((looks_clsIn X hc) _ _ _ _ (fun _ _ e => e) ?_)
  rw [hd, if_neg (by decide)]
  dsimp only
  rw [hod]
  dsimp only
  rw [if_neg (by simp [typeHasDict]), hdt]
  dsimp only
  have hx₁ : (h.push { cls := .type "dict", data := .dict #[] }).get? x = some o := Heap.get?_push_of_some _ hx
  have hxs : x ≠ h.objs.size := Nat.ne_of_lt (Heap.lt_size hx)
  refine wpAny_bind (wpAny_alloc ?_)
  refine wpAny_bind (wpAny_update' hx₁ ?_)
  refine wpAny_pure ?_
  have hgd : ((h.push { cls := .type "dict", data := .dict #[] }).update x fun o => { cls := o.cls, dict := some h.objs.size, data := o.data, slots := o.slots }).get? h.objs.size
      = some { cls := .type "dict", data := .dict #[] } := (Heap.get?_update_ne _ _ _ _ hxs.symm).trans (Heap.get?_push_at rfl rfl)
  have hnd : ((h.push { cls := .type "dict", data := .dict #[] }).update x fun o => { cls := o.cls, dict := some h.objs.size, data := o.data, slots := o.slots }).Ns h.objs.size (fun _ => none) :=
    ⟨_, #[], _, hgd, rfl, fun e he => absurd he (by simp), fun _ => rfl⟩
  show wpAny _ _ (storeInDict h.objs.size (.str (Str.ofString "message") tk) (Str.ofString "message") v) _ _ _
  unfold storeInDict newKeyGuard
  refine wpAny_bind (wpAny_pure (wpAny_bind (wpAny_nsSet1 (Heap.Ns1.of_empty hnd) fun h' hn' hs => ?_)))
  obtain ⟨oD, esD, epD, hoD, hdD, hcD⟩ := hn'.count (Within.cons (Str.ofString "message") v Within.nil)
  refine wpAny_bind (wpAny_lookBehind hoD (by rw [hdD]; exact pastItsLine_dict (Nat.le_trans hcD (by rw [List.length_cons, List.length_nil, sizeLine_eq]; omega))) ?_)
  refine wpAny_pure ?_
  have hx' : h'.get? x = some { cls := o.cls, dict := some h.objs.size, data := o.data, slots := o.slots } := by
    refine (hs.2 x hxs).trans (Heap.get?_update_self _ hx₁ ?_)
    have hfr := (Heap.get?_some_iff.mp hx).2
    obtain ⟨oc, od, odt, osl⟩ := o
    cases odt <;> first | rfl | exact hfr
  exact hq h' _ _ (fun b ob hbx hb => (hs.2 b (Nat.ne_of_lt (Heap.lt_size hb))).trans ((Heap.get?_update_ne _ _ _ _ hbx).trans (Heap.get?_push_of_some _ hb))) hx' hcl hdt

theorem fault_set {x : Addr} {o : Obj} {v : Value} {vs : Array Value} {Q : Unit → Shared → Prop} {cd : ClassData} (X : K.In h) (hc : clsIn K 44 = some cd) (hm : cd.mro = .ref 44 :: faultMro) (hd : cd.hasDict = true) (ha : findIn K (.ref 44) (Str.ofString "message") = some none)
    (hs : findIn K (.ref 44) "__setattr__" = some (some (.builtin "object.__setattr__")))
    (hx : h.get? x = some o) (hcl : o.cls = .ref 44) (hod : o.dict = none) (hdt : o.data = .fields vs)
    (hq : ∀ h' tk' o₁, (∀ b ob, b ≠ x → h.get? b = some ob → h'.get? b = some ob) → h'.get? x = some o₁ → o₁.cls = .ref 44 → o₁.data = .fields vs → Q () ⟨h', g, d, tk', os⟩) :
    wpAny (model prog w) A (setAttr (.ref x) (Str.ofString "message") v) Q E ⟨h, g, d, t, os⟩ := by
  have I : InstAt h x o 44 none := ⟨hx, hcl, by unfold notCls; rw [hdt], by rw [hod]; trivial⟩
  refine set_plain (s := ⟨h, g, d, t, os⟩) X I hs ?_
  refine codeAny_mono (fault_store (E := E) (Q := fun _ s' => Q () s') X hc hm hd ha hx hcl hod hdt hq) fun r s' z => ?_
  rcases r with e | (v | _ | _ | _) <;> exact z
end

/-- what a raised fault is -/
noncomputable def FaultIn (h h' : Heap) (e : Addr) : Prop := h.StaysIn h' ∧ h.get? e = none ∧ ∃ o a0 b c f, h'.get? e = some o ∧ o.cls = .ref 44 ∧ o.data = .fields #[.ref a0, .none, b, c, f, .none]
section
variable {w : World} {d u : Nat} {fr : Option (List Env)} {gs : Option (List Code)} {s : Shared} {p : Program} {loose : List Str} {mg mb : Str → Option Value}

set_option maxHeartbeats 2000000 in
theorem mk_fault {msg : Value} {Q E : Value → Shared → Prop} (X : (hd.heap_1 w.params).In s.heap) (T : TopRead p loose mg mb s.heap) (hroom : d + 10 < recursionLimit)
    (hQ : ∀ e h' tk, FaultIn s.heap h' e → Q (.ref e) { s with heap := h', toks := tk }) :
    wpAny (model PySem.Challenge.rw_nu0014_01.row.prog w) ⟨none, d, fr, gs, u⟩ (call (.ref 44) [msg]) Q E s := by
  have k2 : ∀ b o, s.heap.get? b = some o → ((s.heap.push { cls := .type "tuple", data := .seq #[msg] }).push (faultRec (.ref 44) s.heap.objs.size)).get? b = some o := fun b o e => Heap.get?_push_of_some _ (Heap.get?_push_of_some _ e)
  have hget : ((s.heap.push { cls := .type "tuple", data := .seq #[msg] }).push (faultRec (.ref 44) s.heap.objs.size)).get? (s.heap.objs.size + 1) = some (faultRec (.ref 44) s.heap.objs.size) := by heap_get
  have hfr : s.heap.get? (s.heap.objs.size + 1) = none := Heap.get?_none_of_le (Nat.le_succ _)
  obtain ⟨hh, g, dr, tk, os⟩ := s
  refine fault_call (X 44 _ rfl) X (by k_is) (by k_is) (fun A' hA => ?_)
  refine wpAny_call (enterHF [(hh.objs.size + 1, faultRec (.ref 44) hh.objs.size)] [("self", .ref (hh.objs.size + 1)), ("message", msg)] (Frag.In.keeps X k2) (T.keeps k2) rfl (by rfl) (by rw [hA]; dsimp only; omega) rfl (locs rfl) (fun q hq => ?_) (fun h₁ n F N => ?_))
  · rw [List.mem_singleton.mp hq]; exact hget
  simp only [List.map_cons, List.map_nil] at F N
  k_extra "go"
  have hk1 : ∀ b o, hh.get? b = some o → h₁.get? b = some o := fun b o e => F.keep b o (hideAll_get _ (k2 b o e) (fun q => by rw [List.mem_singleton.mp q] at e; rw [show hh.get? (hh.objs.size + 1) = none from hfr] at e; cases e))
  refine fault_set (K := hd.heap_1 w.params) (fun b o e => hk1 b o (X b o e)) (cd := { name := Str.ofString "FontFault", bases := [Value.ref 31], mro := .ref 44 :: faultMro, ns := 43, qualname := Str.ofString "FontFault" }) ?c1 rfl rfl ?c2 ?c3 (N _ (.head _)).1 rfl rfl rfl (fun h' tk' o₁ hb hx hc hd => ?_)
  (case c1 => k_is)
  (case c2 => k_is)
  (case c3 => k_is)
  refine wpAny_execs_nil ⟨rfl, ?_⟩
  refine hQ _ _ _ ⟨fun b o e => hb b o (fun q => by subst q; rw [show hh.get? (hh.objs.size + 1) = none from hfr] at e; cases e) (hk1 b o e), hfr, _, _, _, _, _, hx, hc, hd⟩

noncomputable def FaultCls (h : Heap) : Prop := ∃ (nm q : Str) (N : Addr) (bs : List Value) (hdct : Bool) (sn : List Str) (sub : List Value) (ab : Bool) (col : Option Bool) (dd : Option Addr) (k0 k1 k2 k3 k5 : Option Value),
  h.get? 44 = some (excClassObj nm q 44 N bs faultMro hdct sn sub ab col dd k0 k1 k2 k3 k5 "Exception.__new__")
theorem faultCls {h : Heap} (X : (hd.heap_1 w.params).In h) : FaultCls h := ⟨_, _, _, _, _, _, _, _, _, _, _, _, _, _, _, X 44 _ rfl⟩
theorem raise_made {M : Model} {A : Around} {env : Env}
    {E : Value → Shared → Prop} {s : Shared} {x : Sem Value} {Q : Flow → Shared → Prop} (hh : A.handled = none)
    (h : wpAny M A x (fun v s₁ => ∃ e o a0 b c f, v = .ref e ∧ FaultCls s₁.heap ∧
      s₁.heap.get? e = some o ∧ o.cls = .ref 44 ∧ o.data = .fields #[.ref a0, .none, b, c, f, .none] ∧ E (.ref e) s₁) E s) :
    wpAny M A (raiseStmt env (some x) none) Q E s := by
  have hcB := fm_base
  unfold raiseStmt
  refine wpAny_bind (wpAny_mono h (fun v s₁ h₁ => ?_) fun _ _ x => x)
  obtain ⟨e, o, a0, b, c, f, rfl, ⟨nm, q, N, bs, hdct, sn, sub, ab, col, dd, k0, k1, k2, k3, k5, hC⟩, he, hcl, hdt, hE⟩ := h₁
  obtain ⟨oc, od, oda, osl⟩ := o
  dsimp only at hcl hdt
  subst hcl hdt
  obtain ⟨hp, g, d, tk, os⟩ := s₁
  repeat (first | with_reducible refine wpAny_loadPart_at he ?_ | with_reducible refine wpAny_loadPart_at hC ?_ | (with_reducible refine wpAny_isSubtype_exc hC ?_; rw [hcB]) | wp_step)
  exact wpAny_raiseNew_none hh hE

theorem raise_fault {A : Around} {Q : Flow → Shared → Prop} {E : Value → Shared → Prop} {x : Str} {np cpos pos : Pos} {e₀ : Expr} {env : Env} (hh : A.handled = none)
    (h : wpAny (model PySem.Challenge.rw_nu0014_01.row.prog w) A (eval (.Name x np) env) (fun f s₁ => f = .ref 44 ∧ wpAny (model PySem.Challenge.rw_nu0014_01.row.prog w) A (evalArgs (.ref 44) true (backTo cpos (starEach [e₀] env)) [])
      (fun a s₂ => a.kw = [] ∧ (hd.heap_1 w.params).In s₂.heap ∧ wpAny (model PySem.Challenge.rw_nu0014_01.row.prog w) A (call (.ref 44) a.pos) (fun v s₃ => ∃ e h' tk, v = .ref e ∧ s₃ = { s₂ with heap := h', toks := tk } ∧ FaultIn s₂.heap h' e ∧ E (.ref e) s₃) E s₂) E s₁) E s)
    (hplain : (backTo cpos (starEach [e₀] env)).any (·.1) = false := by rfl) :
    wpAny (model PySem.Challenge.rw_nu0014_01.row.prog w) A (exec (.Raise (some (.Call (.Name x np) [e₀] [] cpos)) none pos) env) Q E s := by
  rw [arm_exec_Raise]
  refine wpAny_bind (wpAny_standAt (raise_made hh (wpAny_bind (wpAny_mono (wpAny_Call_ofName (wpAny_mono h (fun f s₁ h₁ => ?_) fun _ _ x => x)) (fun v s₃ h₃ => wpAny_bind (wpAny_standAt (wpAny_pure h₃))) fun _ _ x => x))))
  obtain ⟨rfl, h₁⟩ := h₁
  unfold callWith
  refine wpAny_bind (wpAny_holding (wpAny_mono h₁ (fun a s₂ h₂ => wpAny_bind (wpAny_standAt ?_)) fun _ _ x => x))
  obtain ⟨apos, akw⟩ := a
  obtain ⟨hkw, X, h₂⟩ := h₂
  obtain rfl : akw = [] := hkw
  obtain ⟨hp, g, d, tk, os⟩ := s₂
  simp only [hplain]
  refine wpAny_bind (wpAny_keeperOf_exc (X 44 _ rfl) ?_)
  refine wpAny_bind (wpAny_mono h₂ (fun v s₃ h₃ => ?_) fun _ _ z => z)
  obtain ⟨e, h', tk', rfl, rfl, ⟨k1, k2, o, a0, b, c, f, k3, k4, k5⟩, hE⟩ := h₃
  refine wpAny_bind (wpAny_holding (wpAny_point (wpAny_pure ?_)))
  exact ⟨e, o, a0, b, c, f, rfl, faultCls (fun b o q => k1 _ _ (X b o q)), k3, k4, k5, hE⟩

/-- an exception on its way, seen from below -/
noncomputable def Fly (base : Heap) (l : List Env) (e : Addr) (h : Heap) : Prop := ∃ a0, Heap.FlyingW base l e (.ref 44) a0 h

theorem leave_fault {M : Model} {A : Around} {E : Value → Shared → Prop} {s' : Shared} {base g h : Heap} {outer : List Env} {L a e : Addr} {m : Str → Option Value} {name : Str} {scope : Scope} {cd : Value} {Q : Unit → Shared → Prop}
    (K : Below A base outer g) (F : Fr g L h m) (hx : FaultIn h s'.heap e)
    (hQ : ∀ h', Fly base outer e h' → g.UpToSlots h' → Q () { s' with heap := h' }) (hk : scope.kind = .function := by rfl) :
    wpAny M (A.deeper (envOf name scope L a cd)) (leaving (envOf name scope L a cd) (.ref e)) Q E s' := by
  have K' := K.push (name := name) (a := a) (cd := cd) F hk
  obtain ⟨k1, k2, o, a0, b, c, f, k3, k4, k5⟩ := hx
  refine wpAny_leaving_firstW (a0 := .ref a0) K'.stack (K'.frames.of_keeps fun b o hb _ => ⟨o, k1 b o hb, rfl⟩) rfl k3 (fun b o hb => k1 b o (K'.stays b o hb)) (fresh_of_stays K'.stays k2) k5 rfl rfl fun h' hL => ?_
  obtain ⟨x1, ⟨_, _, x2⟩, x3, x4⟩ := hL
  rw [k4] at x3
  exact hQ h' ⟨_, x1, fresh_of_stays K'.stays k2, x2, x3⟩ ((Heap.UpToSlots.of_keeps F.keep).trans ((Heap.UpToSlots.of_keeps k1).trans x4))

theorem leave_fly {M : Model} {A : Around} {E : Value → Shared → Prop} {s' : Shared} {base g g₂ : Heap} {outer : List Env} {L a e : Addr} {m : Str → Option Value} {name : Str} {scope : Scope} {cd : Value} {Q : Unit → Shared → Prop}
    (K : Below A base outer g) (F : Fr g L g₂ m) (R : Fly base (envOf name scope L a cd :: outer) e s'.heap) (hsm : g₂.UpToSlots s'.heap)
    (hQ : ∀ h', Fly base outer e h' → g.UpToSlots h' → Q () { s' with heap := h' }) :
    wpAny M (A.deeper (envOf name scope L a cd)) (leaving (envOf name scope L a cd) (.ref e)) Q E s' := by
  obtain ⟨a0, hfl⟩ := R
  exact wpAny_leaves_onW (Around.frames_deeper K.stack) rfl hfl fun h' x1 x2 => hQ h' ⟨a0, x1⟩ ((Heap.UpToSlots.of_keeps F.keep).trans (hsm.trans x2))

noncomputable def FallE (base : Heap) (outer : List Env) (s : Shared) (E : Value → Shared → Prop) : Prop :=
  ∀ e h' n, Fly base outer e h' → s.heap.UpToSlots h' → E (.ref e) { s with heap := h', toks := n }
/-- a call that ends in a fault -/
noncomputable def Falls (w : World) (A : Around) (f : Addr) (args : List Value) (s : Shared) (base : Heap) (outer : List Env) : Prop :=
  ∀ (E Q : Value → Shared → Prop), FallE base outer s E → wpAny (model PySem.Challenge.rw_nu0014_01.row.prog w) A (call (.ref f) args) Q E s
theorem FallE.raise {M : Model} {A : Around} {s s₂ : Shared} {base : Heap} {outer : List Env} {E : Value → Shared → Prop} {L a : Addr} {name : Str} {scope : Scope} {cd : Value} {m : Str → Option Value} {vs : List Value} {v : Value}
    (hE : FallE base outer s E) (K : Below A base outer s.heap) (F : Fr s.heap L s₂.heap m) (hs : ∀ h' n, ({ s₂ with heap := h', toks := n } : Shared) = { s with heap := h', toks := n }) (hv : vs = [v]) (hk : scope.kind = .function := by rfl) :
    ∃ v, vs = [v] ∧ (∀ b o, s.heap.get? b = some o → s₂.heap.get? b = some o) ∧ ∀ e h' tk, FaultIn s₂.heap h' e →
      wpAny M (A.deeper (envOf name scope L a cd)) (leaving (envOf name scope L a cd) (.ref e)) (fun _ s'' => E (.ref e) s'') (fun e' s'' => E e' s'') { s₂ with heap := h', toks := tk } :=
  ⟨v, hv, F.keep, fun e h' tk hf => leave_fault K F hf (fun h'' fl up => by
    have := hs h'' tk
    dsimp only at this ⊢
    rw [this]
    exact hE e h'' tk fl up) hk⟩
theorem Falls.use {A : Around} {s s₂ : Shared} {base : Heap} {outer : List Env} {E : Value → Shared → Prop} {L a f : Addr} {name : Str} {scope : Scope} {cd : Value} {m : Str → Option Value} {args : List Value} {Q : Value → Shared → Prop}
    (G : Falls w (A.deeper (envOf name scope L a cd)) f args s₂ base (envOf name scope L a cd :: outer)) (hE : FallE base outer s E) (K : Below A base outer s.heap) (F : Fr s.heap L s₂.heap m)
    (hs : ∀ h' n, ({ s₂ with heap := h', toks := n } : Shared) = { s with heap := h', toks := n }) :
    wpAny (model PySem.Challenge.rw_nu0014_01.row.prog w) (A.deeper (envOf name scope L a cd)) (call (.ref f) args) Q
      (fun e s' => wpAny (model PySem.Challenge.rw_nu0014_01.row.prog w) (A.deeper (envOf name scope L a cd)) (leaving (envOf name scope L a cd) e) (fun _ s'' => E e s'') (fun e' s'' => E e' s'') s') s₂ :=
  G _ _ fun e h' n fl up => leave_fly K F fl up fun h'' fl' up' => by
    have := hs h'' n
    dsimp only at this ⊢
    rw [this]
    exact hE e h'' n fl' up'

theorem raise_faultS {Q : Flow → Shared → Prop} {E : Value → Shared → Prop} {np cpos pos : Pos} {e₀ : Expr} {name : Str} {scope : Scope} {L a : Addr} {cd : Value} {h₀ : Heap} {m : Str → Option Value} {A : Around}
    (F : Fr h₀ L s.heap m) (X : (hd.heap_1 w.params).In h₀) (T : TopRead p loose mg mb h₀) (hA : A = ⟨none, d, fr, gs, u⟩) (hroom : d + 10 < recursionLimit)
    (h : wpAny (model PySem.Challenge.rw_nu0014_01.row.prog w) A (spliced (backTo cpos (starEach [e₀] (envOf name scope L a cd)))) (fun vs s₂ => ∃ v, vs = [v] ∧ (∀ b o, h₀.get? b = some o → s₂.heap.get? b = some o) ∧ ∀ e h' tk, FaultIn s₂.heap h' e → E (.ref e) { s₂ with heap := h', toks := tk }) E s)
    (he : starEach [e₀] (envOf name scope L a cd) = (false, eval e₀ (envOf name scope L a cd)) :: starEach [] (envOf name scope L a cd) := by rfl)
    (hk : scope.kind = .function := by rfl) (hx : (envOf name scope L a cd).kindOf "FontFault" = some .globalImplicit := by rfl) :
    wpAny (model PySem.Challenge.rw_nu0014_01.row.prog w) A (exec (.Raise (some (.Call (.Name "FontFault" np) [e₀] [] cpos)) none pos) (envOf name scope L a cd)) Q E s := by
  subst hA
  refine raise_fault rfl (name_K F X T (x := "FontFault") (v := .ref 44) (by k_is) ⟨rfl, ?_⟩ hk hx) (by rw [he]; rfl)
  rw [he] at h ⊢
  refine Calls.evalArgs_plain (wpAny_mono h (fun vs s₂ h₂ => ?_) fun _ _ y => y)
  obtain ⟨v, rfl, hk2, h₂⟩ := h₂
  refine ⟨rfl, X.keeps hk2, mk_fault (X.keeps hk2) (T.keeps hk2) hroom fun e h' tk hf => ⟨e, h', tk, rfl, rfl, hf, h₂ e h' tk hf⟩⟩
end
theorem words_30_1 : True := by
  (k_with "exec Raise some none" => ((k_here; (with_reducible show wpAny _ _ (exec (Stmt.Raise (some (Expr.Call (Expr.Name _ _) (_ :: _) [] _)) none _) _) _ _ _); k_dflt (refine' raise_faultS (by k_asm) (by k_asm) (by k_asm) rfl (by k_extra "mroom") ?_))))
  trivial

section
variable {w : World} {d u : Nat} {gs : Option (List Code)} {s : Shared} {p : Program} {loose : List Str} {mg mb : Str → Option Value} {outer : List Env} {base : Heap}

set_option maxHeartbeats 4000000 in
theorem f_u16 {l : List UInt8} {t tk : Tok} {k : Int}
    (X : (hd.heap_1 w.params).In s.heap) (T : TopRead p loose mg mb s.heap) (hroom : d + 20 < recursionLimit) (hl : l.length ≤ 100000) (K : Below ⟨none, d, some outer, gs, u⟩ base outer s.heap)
    (h0 : 0 ≤ k) (h1 : (l.length : Int) < k + 2) :
    Falls w ⟨none, d, some outer, gs, u⟩ 53 [.bytes l.toArray t, .int k tk] s base outer := by
  intro E Q hE
  refine wpAny_call (enter X T rfl (by rfl) (by simp only; omega) rfl (locs rfl) (fun h₁ F N => ?_))
  k_extra "go"
  exact hE.raise K (by assumption) (fun _ _ => rfl) rfl

set_option maxHeartbeats 4000000 in
theorem f_part_of {l : List UInt8} {t tk tz : Tok} {k z : Int}
    (X : (hd.heap_1 w.params).In s.heap) (T : TopRead p loose mg mb s.heap) (hroom : d + 20 < recursionLimit) (hl : l.length ≤ 100000) (K : Below ⟨none, d, some outer, gs, u⟩ base outer s.heap)
    (h0 : 0 ≤ k) (h1 : 0 ≤ z) (h2 : (l.length : Int) < k + z) :
    Falls w ⟨none, d, some outer, gs, u⟩ 81 [.bytes l.toArray t, .int k tk, .int z tz] s base outer := by
  intro E Q hE
  refine wpAny_call (enter X T rfl (by rfl) (by simp only; omega) rfl (locs rfl) (fun h₁ F N => ?_))
  k_extra "go"
  exact hE.raise K (by assumption) (fun _ _ => rfl) rfl
end
theorem words_31_1 : True := by
  (k_with "mpush" => (((with_reducible rename Below _ _ _ _ => Kx); exact Below.push Kx (by assumption))))
  (k_with "call ref" => ((k_here; (with_reducible show wpAny _ _ (call (Value.ref 53) _) _ _ _); k_dflt (refine' Falls.use (f_u16 (by k_extra "mK") (by k_extra "mT") (by k_extra "mroom") (by k_extra "mside") (by k_extra "mpush") (by k_extra "mside") (by k_extra "mside")) (by assumption) (by assumption) (by k_asm) (by intro _ _; rfl)))))
  (k_with "call ref" => ((k_here; (with_reducible show wpAny _ _ (call (Value.ref 81) _) _ _ _); k_dflt (refine' Falls.use (f_part_of (by k_extra "mK") (by k_extra "mT") (by k_extra "mroom") (by k_extra "mside") (by k_extra "mpush") (by k_extra "mside") (by k_extra "mside") (by k_extra "mside")) (by assumption) (by assumption) (by k_asm) (by intro _ _; rfl)))))
  trivial
section
variable {w : World} {d u : Nat} {gs : Option (List Code)} {s : Shared} {p : Program} {loose : List Str} {mg mb : Str → Option Value} {outer : List Env} {base : Heap}

set_option maxHeartbeats 4000000 in
theorem f_u32 {l : List UInt8} {t tk : Tok} {k : Int}
    (X : (hd.heap_1 w.params).In s.heap) (T : TopRead p loose mg mb s.heap) (hroom : d + 40 < recursionLimit) (hl : l.length ≤ 100000) (K : Below ⟨none, d, some outer, gs, u⟩ base outer s.heap)
    (h0 : 0 ≤ k) (h1 : (l.length : Int) < k + 4) :
    Falls w ⟨none, d, some outer, gs, u⟩ 60 [.bytes l.toArray t, .int k tk] s base outer := by
  intro E Q hE
  by_cases hc : (l.length : Int) < k + 2
  · refine wpAny_call (enter X T rfl (by rfl) (by simp only; omega) rfl (locs rfl) (fun h₁ F N => ?_))
    k_extra "go"
  · refine wpAny_call (enter X T rfl (by rfl) (by simp only; omega) rfl (locs rfl) (fun h₁ F N => ?_))
    k_extra "go"

set_option maxHeartbeats 4000000 in
theorem f_tag_of {l : List UInt8} {t tk : Tok} {k : Int}
    (X : (hd.heap_1 w.params).In s.heap) (T : TopRead p loose mg mb s.heap) (hroom : d + 40 < recursionLimit) (hl : l.length ≤ 100000) (K : Below ⟨none, d, some outer, gs, u⟩ base outer s.heap)
    (h0 : 0 ≤ k) (h1 : (l.length : Int) < k + 4) :
    Falls w ⟨none, d, some outer, gs, u⟩ 102 [.bytes l.toArray t, .int k tk] s base outer := by
  intro E Q hE
  refine wpAny_call (enter X T rfl (by rfl) (by simp only; omega) rfl (locs rfl) (fun h₁ F N => ?_))
  k_extra "go"
end
theorem words_31_2 : True := by
  (k_with "call ref" => ((k_here; (with_reducible show wpAny _ _ (call (Value.ref 60) _) _ _ _); k_dflt (refine' Falls.use (f_u32 (by k_extra "mK") (by k_extra "mT") (by k_extra "mroom") (by k_extra "mside") (by k_extra "mpush") (by k_extra "mside") (by k_extra "mside")) (by assumption) (by assumption) (by k_asm) (by intro _ _; rfl)))))
  (k_with "call ref" => ((k_here; (with_reducible show wpAny _ _ (call (Value.ref 102) _) _ _ _); k_dflt (refine' Falls.use (f_tag_of (by k_extra "mK") (by k_extra "mT") (by k_extra "mroom") (by k_extra "mside") (by k_extra "mpush") (by k_extra "mside") (by k_extra "mside")) (by assumption) (by assumption) (by k_asm) (by intro _ _; rfl)))))
  trivial

noncomputable def verOk (l : List UInt8) : Bool := [65536, 1953658213].any fun x => x == rd32 l 0
/-- octets that read_directory refuses -/
noncomputable def BadDir (l : List UInt8) : Prop := l.length < 4 ∨ (4 ≤ l.length ∧ verOk l = false) ∨ (4 ≤ l.length ∧ l.length < 12 ∧ verOk l = true ∧ (6 ≤ l.length → 1 ≤ rd16 l 4 ∧ rd16 l 4 ≤ 8))
section
variable {w : World} {d u : Nat} {gs : Option (List Code)} {s : Shared} {p : Program} {loose : List Str} {mg mb : Str → Option Value} {outer : List Env} {base : Heap}

set_option maxHeartbeats 4000000 in
theorem f_read_directory {f : List UInt8} {t : Tok} (D : BadDir f)
    (X : (hd.heap_1 w.params).In s.heap) (T : TopRead p loose mg mb s.heap) (hroom : d + 60 < recursionLimit) (hlen : f.length ≤ 2000) (K : Below ⟨none, d, some outer, gs, u⟩ base outer s.heap) :
    Falls w ⟨none, d, some outer, gs, u⟩ 177 [.bytes f.toArray t] s base outer := by
  intro E Q hE
  rcases D with h4 | ⟨h4, hv⟩ | ⟨h4, h12, hv, h6⟩
  · refine wpAny_call (enter (binds := [("octets", .bytes f.toArray t)]) X T rfl (by rfl) (by simp only; omega) rfl (locs rfl) (fun h₁ F N => ?_))
    k_extra "go"
  · have hin : ([65536, 1953658213].any fun x => x == rd32 f (Int.toNat 0)) = false := hv
    refine wpAny_call (enter (binds := [("octets", .bytes f.toArray t)]) X T rfl (by rfl) (by simp only; omega) rfl (locs rfl) (fun h₁ F N => ?_))
    k_extra "go"
    exact hE.raise K (by assumption) (fun _ _ => rfl) rfl
  · have hin : ([65536, 1953658213].any fun x => x == rd32 f (Int.toNat 0)) = true := hv
    by_cases hc : f.length < 6
    · refine wpAny_call (enter (binds := [("octets", .bytes f.toArray t)]) X T rfl (by rfl) (by simp only; omega) rfl (locs rfl) (fun h₁ F N => ?_))
      k_extra "go"
    · obtain ⟨r1, r2⟩ := h6 (by omega)
      refine wpAny_call (enter (binds := [("octets", .bytes f.toArray t)]) X T rfl (by rfl) (by simp only; omega) rfl (locs rfl) (fun h₁ F N => ?_))
      k_extra "go"
      rename IsRange _ _ _ _ _ _ _ _ => hR
      rename IsRange _ _ _ _ _ _ _ _ => hR
      rename News _ _ _ ((_, listOf _ _) :: _ :: _) => N2
      have e4 : rd16 f (Int.toNat 4) = ((rd16 f 4).toNat : Int) := by show rd16 f 4 = _; omega
      refine forRange (n := (rd16 f 4).toNat) rfl hR ?_ ?_ (by assumption) (newsHd N2) (fun i m news => i = 0 ∧ m "octets" = some (.bytes f.toArray t) ∧ ∃ l vs e, m "found" = some (.ref l) ∧ news = [(l, listOf vs e)]) ⟨rfl, rfl, _, _, _, rfl, rfl⟩ ?_ ?_
      · rw [e4]; exact range_small (by omega) (by omega) (by omega)
      · rw [e4, PyProof.Rows.rangeSize_nat]; omega
      · rintro i t₁ m₁ news₁ h tk own hi ⟨hi0, hw, l, vs, e, hfd, rfl⟩ hnf hof ⟨oi, hoi⟩ F₁ N₁
        simp only [List.cons_append, List.nil_append] at N₁
        k_sweep
        k_extra "go"
      · rintro h tk m₁ news₁ ⟨hi0, _⟩ F₁ N₁
        omega
end

theorem words_33_1 : True := by
  (k_with "call ref" => ((k_here; (with_reducible show wpAny _ _ (call (Value.ref 177) _) _ _ _); k_dflt (refine' Falls.use (f_read_directory (by assumption) (by k_extra "mK") (by k_extra "mT") (by k_extra "mroom") (by k_extra "mside") (by k_extra "mpush")) (by assumption) (by assumption) (by k_asm) (by intro _ _; rfl)))))
  trivial
section
variable {w : World} {d u : Nat} {gs : Option (List Code)} {s : Shared} {p : Program} {loose : List Str} {mg mb : Str → Option Value} {outer : List Env} {base : Heap}

set_option maxHeartbeats 4000000 in
theorem f_read_tables {f : List UInt8} {t : Tok} (D : BadDir f)
    (X : (hd.heap_1 w.params).In s.heap) (T : TopRead p loose mg mb s.heap) (hroom : d + 80 < recursionLimit) (hlen : f.length ≤ 2000) (K : Below ⟨none, d, some outer, gs, u⟩ base outer s.heap) :
    Falls w ⟨none, d, some outer, gs, u⟩ 184 [.bytes f.toArray t] s base outer := by
  intro E Q hE
  refine wpAny_call (enter (binds := [("octets", .bytes f.toArray t)]) X T rfl (by rfl) (by simp only; omega) rfl (locs rfl) (fun h₁ F N => ?_))
  k_extra "go"

set_option maxHeartbeats 4000000 in
theorem f_read_tables2 {f : List UInt8} {t : Tok} (D : Dir f 2) (h2 : (rowAt f 1).1 = (rowAt f 0).1)
    (X : (hd.heap_1 w.params).In s.heap) (T : TopRead p loose mg mb s.heap) (hroom : d + 80 < recursionLimit) (K : Below ⟨none, d, some outer, gs, u⟩ base outer s.heap) :
    Falls w ⟨none, d, some outer, gs, u⟩ 184 [.bytes f.toArray t] s base outer := by
  intro E Q hE
  have hlen := D.len
  refine wpAny_call (enter (binds := [("octets", .bytes f.toArray t)]) X T rfl (by rfl) (by simp only; omega) rfl (locs rfl) (fun h₁ F N => ?_))
  k_extra "go"
  rename Obj.IsDictOf (PySem.strKind _ _) _ [] => hd0
  rename (_ == sysModules) = false => lop
  rename News _ _ _ (_ :: _) => N2
  rename RowsIn _ _ _ _ => hRows
  rename Off _ _ => hrl
  rename ∀ p ∈ _, Off _ _ => hoff
  rename List (Addr × Obj) => rs
  have hod := hoff _ (.head _)
  have hl := N2.get (.head _)
  have hne := (N2 _ (.head _)).2.1
  have hdl := dict_ne_list hl (N2.get (.tail _ (List.mem_append_right _ (.head _)))) hd0
  have hkl := hRows.length
  rw [rowsOf_len] at hkl
  refine forList rfl ⟨_, hl, rfl, _, rfl⟩ hne (by assumption) (news := (_, _) :: rs) (newsTurn N2) (fun p hp => ?_)
    (fun i m news => i ≤ 1 ∧ m "octets" = some (.bytes f.toArray t) ∧ (∃ dd o kvs, m "found" = some (.ref dd) ∧ news = (dd, o) :: rs ∧ (dd == sysModules) = false ∧ o.IsDictOf (PySem.strKind PySem.Challenge.rw_nu0014_01.row.prog w) kvs ∧ KV kvs (tbOf f i) ∧ Off rs dd)) ⟨Nat.zero_le _, rfl, ⟨_, _, _, rfl, rfl, lop, hd0, .nil, fun p hp => hod p (.tail _ hp)⟩⟩ ?_ ?_
  · rcases List.mem_cons.mp hp with rfl | hp
    · exact hdl
    · exact hrl p hp
  · rintro i v m₁ news₁ h tk own hv ⟨hi1, hw, ⟨dd, o, kvs, hfd, rfl, lop, hd1, hKV, hrd⟩⟩ hnf hof hall F₁ N₁
    obtain ⟨r, hr, x, dx, t1, t2, t3, t4, a1, a2, a3, a4, rfl, hx1, hx2⟩ := paired_at hRows hv
    obtain ⟨hi, rfl⟩ := rows_at hr
    have hx1' : (x, instObj 166 dx) ∈ rs ++ own := List.mem_append_left _ hx1
    have hx2' := List.mem_append_left own hx2
    have hrd2 : ∀ p ∈ rs ++ own, p.1 ≠ dd := fun p hp => (List.mem_append.mp hp).elim (hrd p) fun hq e => hnf _ (.head _) (e ▸ hof p hq)
    have hz : kvs.length ≤ 1000 := by rw [hKV.len]; unfold tbOf; rw [List.length_map, rowsOf_len]; omega
    have hb1 : 0 ≤ (rowAt f i).2.2.1 := (rd32_b _ _).1
    have hb2 : 0 ≤ (rowAt f i).2.2.2 := (rd32_b _ _).1
    have hb3 : (rowAt f i).2.2.1 + (rowAt f i).2.2.2 ≤ f.length := D.fits i hi
    have hsu := tbOf_succ f i
    have hcase : (i = 0 ∧ (valueAt kvs (rowAt f i).1).isSome = false ∧ (rowAt f i).1 ∉ kvs.map (·.1)) ∨ (valueAt kvs (rowAt f i).1).isSome = true := by
      rcases Nat.eq_zero_or_pos i with rfl | hp
      · have : (rowAt f 0).1 ∉ keysT (tbOf f 0) := fun h => nomatch h
        exact .inl ⟨rfl, by rw [hKV.none this]; rfl, by rw [hKV.keys]; exact this⟩
      · obtain rfl : i = 1 := by omega
        have e : keysT (tbOf f 1) = [(rowAt f 0).1] := rfl
        obtain ⟨t, ht⟩ := hKV.at (tag := (rowAt f 1).1) (by rw [e, h2]; exact .head _)
        rw [ht]; exact .inr rfl
    have htl : (Str.ofString "two tables ").cps.size + (rowAt f i).1.cps.size ≤ 100000 := by
      have : (rowAt f i).1.cps.size ≤ f.length := by unfold rowAt strOf part; simp only [List.size_toArray, List.length_map, List.length_drop, List.length_take]; omega
      have h11 : (Str.ofString "two tables ").cps.size = 11 := by decide
      omega
    generalize rowAt f i = r at hx2 hx2' hb1 hb2 hb3 hsu hcase htl
    obtain ⟨tg, sm, pl, sz⟩ := r
    dsimp only [cellOf] at hx2 hx2' hb1 hb2 hb3 hsu hcase htl
    simp only [List.cons_append] at N₁
    rcases hcase with ⟨rfl, hne, hnk⟩ | hne
    · k_sweep
      k_extra "go"
      rename Obj.IsDictOf (PySem.strKind _ _) _ (stored _ _ _) => hd2
      rename News _ _ _ _ => N9
      rename Obj => o2
      refine' TurnEnd.intro ((dd, o2) :: rs) ?_ ?_ ?_ ?_
      rotate_left
      · assumption
      · exact N9
      · exact fun p hp => (List.mem_cons.mp hp).elim (fun e => by rw [e]; exact hnf (dd, o) (.head _)) fun h => hnf p (.tail _ h)
      · refine ⟨by omega, hw, dd, o2, _, hfd, rfl, lop, hd2, ?_, hrd⟩
        rw [stored_new' hnk, hsu]
        exact Paired.snoc hKV ⟨rfl, _, rfl⟩
    · k_sweep
      k_extra "go"
      exact hE.raise K (by assumption) (fun _ _ => rfl) rfl
  · rintro h tk m₁ news₁ ⟨hi1, _⟩ F₁ N₁
    omega
end

section
variable {w : World} {d u : Nat} {gs : Option (List Code)} {s : Shared} {p : Program} {loose : List Str} {mg mb : Str → Option Value} {outer : List Env} {base : Heap}

theorem caught_fault {A₀ : Around} {E : Value → Shared → Prop} {s' : Shared} {g h : Heap} {L a e : Addr} {m : Str → Option Value} {name : Str} {scope : Scope} {cd : Value} {b₀ : Stmt} {suite : List Stmt} {pos np : Pos} {rest : List ExceptHandler} {Q : Flow → Shared → Prop}
    (K : Below A₀ base outer g) (F : Fr g L h m) (hb : base.objs.size ≤ L) (hsm : h.UpToSlots s'.heap) (R : Fly base (envOf name scope L a cd :: outer) e s'.heap)
    (X : (hd.heap_1 w.params).In base) (T : TopRead p loose mg mb base)
    (k : ∀ h', Fr base L h' m → g.UpToSlots h' → base.StaysIn h' → wpAny (model PySem.Challenge.rw_nu0014_01.row.prog w) ((A₀.deeper (envOf name scope L a cd)).mark (some (.ref e))) (execs (b₀ :: suite) (envOf name scope L a cd)) Q E { s' with heap := h' })
    (hk : scope.kind = .function := by rfl) (hx : (envOf name scope L a cd).kindOf "FontFault" = some .globalImplicit := by rfl)
    (hE : PassesOwnAt (model PySem.Challenge.rw_nu0014_01.row.prog w) ((A₀.deeper (envOf name scope L a cd)).mark (some (.ref e))) (A₀.deeper (envOf name scope L a cd)) (envOf name scope L a cd) E := by passes_own) :
    wpAny (model PySem.Challenge.rw_nu0014_01.row.prog w) (A₀.deeper (envOf name scope L a cd)) (noteFrame (.ref e) (envOf name scope L a cd))
      (fun _ s₂ => wpAny (model PySem.Challenge.rw_nu0014_01.row.prog w) (A₀.deeper (envOf name scope L a cd)) (setFlight (.ref e) none) (fun _ s₃ =>
        wpAny (model PySem.Challenge.rw_nu0014_01.row.prog w) (A₀.deeper (envOf name scope L a cd)) (handleBy (.ref e) (envOf name scope L a cd) (.ExceptHandler (some (.Name "FontFault" np)) none (b₀ :: suite) pos :: rest)) Q E s₃) E s₂) E s' := by
  obtain ⟨a0, hfl⟩ := R
  refine wpAny_looks_onW (Around.frames_deeper K.stack) rfl hfl fun h₄ hheld₄ hsm₄ => ?_
  refine wpAny_landsW hheld₄ fun h₅ hheld hsm₅' => ?_
  have hsm₅ := hsm₄.trans hsm₅'
  have Fb : Fr base L h m := ⟨F.ns, fun b o e => F.keep b o (K.stays b o e), hb⟩
  have F₅ := Fb.of_stays hheld.1 (hsm.trans hsm₅)
  obtain ⟨ob, hob, hobc⟩ := hheld.there
  refine wpAny_handleBy_cons (codeAny_handlers_test (name_K F₅ X T (x := "FontFault") (v := .ref 44) (by k_is) ?_ hk hx)) (by intro q; cases q)
  obtain ⟨nm, q, N, bs, hdct, sn, sub, ab, col, dd, k0, k1, k2, k3, k5, hC⟩ := faultCls (X.keeps F₅.keep)
  refine wpAny_excMatches_sub_self hC hob hobc (by decide +kernel) (codeAny_handlers_suite ?_)
  refine lands_againW hheld fun h₆ hfl₆ hsm₆ => ?_
  have F₆ := Fb.of_stays hfl₆.1 ((hsm.trans hsm₅).trans hsm₆)
  exact wpAny_passesOwnAt hE (k h₆ F₆ ((Heap.UpToSlots.of_keeps F.keep).trans ((hsm.trans hsm₅).trans hsm₆)) hfl₆.1)

/-- what makes read_tables raise -/
noncomputable def BadFont (f : List UInt8) : Prop := f.length ≤ 2000 ∧ (BadDir f ∨ Dir f 2 ∧ (rowAt f 1).1 = (rowAt f 0).1)

theorem f_read_tablesB {f : List UInt8} {t : Tok} (D : BadDir f ∨ Dir f 2 ∧ (rowAt f 1).1 = (rowAt f 0).1)
    (X : (hd.heap_1 w.params).In s.heap) (T : TopRead p loose mg mb s.heap) (hroom : d + 80 < recursionLimit) (hlen : f.length ≤ 2000) (K : Below ⟨none, d, some outer, gs, u⟩ base outer s.heap) :
    Falls w ⟨none, d, some outer, gs, u⟩ 184 [.bytes f.toArray t] s base outer := by
  rcases D with D | ⟨D, h2⟩
  · exact f_read_tables D X T hroom hlen K
  · exact f_read_tables2 D h2 X T hroom K

set_option maxHeartbeats 4000000 in
theorem g_law_fell {f : List UInt8} {t : Tok} (D : BadFont f)
    (X : (hd.heap_1 w.params).In base) (T : TopRead p loose mg mb base) (hroom : d + 100 < recursionLimit) (hb : base.objs.size ≤ s.heap.objs.size) (K : Below ⟨none, d, some outer, gs, u⟩ base outer s.heap)
    {E Q : Value → Shared → Prop} (hQ : ∀ h' n, base.StaysIn h' → s.heap.UpToSlots h' → Q (.bool true) { s with heap := h', toks := n }) :
    wpAny (model PySem.Challenge.rw_nu0014_01.row.prog w) ⟨none, d, some outer, gs, u⟩ (call (.ref 273) [.bytes f.toArray t]) Q E s := by
  have X' : (hd.heap_1 w.params).In s.heap := X.keeps K.stays
  have T' : TopRead p loose mg mb s.heap := T.keeps K.stays
  obtain ⟨hlen, D⟩ := D
  refine wpAny_call (enter (binds := [("octets", .bytes f.toArray t)]) X' T' rfl (by rfl) (by simp only; omega) rfl (locs rfl) (fun h₁ F N => ?_))
  k_extra "go"
  refine (f_read_tablesB D (X'.keeps F.keep) (T'.keeps F.keep) (by dsimp only; omega) hlen (K.push F)) _ _ (fun e h' n fl up => ?_)
  refine caught_fault K F hb up fl X T (fun h'' F' up' st => ?_)
  k_extra "go"
  exact hQ _ _ st up'
end

section
variable {prog : Program} {w : World} {A : Around} {E : Value → Shared → Prop} {s : Shared} {env : Env} {h₀ : Heap} {x : Str} {body : List Stmt} {Q : Flow → Shared → Prop}
/-- as loopV; the ledger may hold what the loop only reads -/
theorem loopW {I : Addr} {fp : List Addr} {n : Nat} {P : Nat → Value → Prop} {St : Nat → Heap → Prop} {m₀ : Str → Option Value} {news : List (Addr × Obj)} (W : Walks prog w A I fp [I] n P St)
    (hst : St 0 s.heap) (hLf : env.locals ∉ fp) (hI : h₀.get? I = none) (hnw : ∀ p ∈ news, p.1 ∉ [I])
    (F : Fr h₀ env.locals s.heap m₀) (N : News h₀ env.locals s.heap news) (J : Nat → (Str → Option Value) → List (Addr × Obj) → Prop) (hJ : J 0 m₀ news)
    (turn : ∀ i v m₁ news₁ h tk own, i < n → P i v → J i m₁ news₁ → (∀ p ∈ news₁, p.1 ∉ [I]) → (∀ q ∈ own, q.1 ∈ fp) → St (i + 1) h → Fr h₀ env.locals h (fun y => if y = x then some v else m₁ y) → News h₀ env.locals h (news₁ ++ own) →
      wpAny (model prog w) A (execs body env) (TurnEnd h₀ env.locals own [I] (J (i + 1)) { s with heap := h, toks := tk } Q) E { s with heap := h, toks := tk })
    (done : ∀ h tk m₁ news₁, J n m₁ news₁ → Fr h₀ env.locals h m₁ → News h₀ env.locals h news₁ → Q .next { s with heap := h, toks := tk }) :
    LoopAtV prog w A h₀ env x body Q E (.ref I) s := by
  refine ⟨I, fp, [I], n, P, St, m₀, news, J, rfl, W, hLf, (fun b hb => by rw [List.mem_singleton.mp hb]; exact hI), hnw, hst, F, N, hJ, ?_, ?_⟩
  · rintro i v m₁ news₁ s₁ own ⟨h, tk, rfl⟩ hi hP hJ₁ hnw₁ hown _ _ hst₁ F₁ N₁
    refine wpAny_mono (turn i v m₁ news₁ h tk own hi hP hJ₁ hnw₁ hown hst₁ F₁ (news_app N₁)) (fun f s₂ hf => ?_) fun _ _ e => e
    have fin : (∃ h' tk' m' news', s₂ = { ({ s with heap := h, toks := tk } : Shared) with heap := h', toks := tk' } ∧ Fr h₀ env.locals h' m' ∧ News h₀ env.locals h' (news' ++ own) ∧ (∀ p ∈ news', p.1 ∉ [I]) ∧ J (i + 1) m' news') →
        LoopStepU h₀ env.locals [I] own (J (i + 1)) { s with heap := h, toks := tk } .next s₂ := by
      rintro ⟨h', tk', m', news', e, F', N', hf', hJ'⟩
      exact ⟨rfl, h', tk', m', news', e, F', news_app N', hf', hJ'⟩
    cases f with
    | ret v => exact .ret hf
    | brk => exact .brk hf
    | next => exact .next (fin hf)
    | cont => exact .cont (fin hf)
  · rintro h' tk m' news' F' N' _ hJ'
    exact done h' tk m' news' hJ' F' N'

/-- a loop over a dict's keys -/
theorem forDict {d : Addr} {kvs : List (Str × Value)} {m₀ : Str → Option Value} {news : List (Addr × Obj)} (hh : A.handled = none) (lo : (d == sysModules) = false) (hd : s.heap.DictOf (PySem.strKind prog w) d kvs) (hdL : d ≠ env.locals)
    (F : Fr h₀ env.locals s.heap m₀) (N : News h₀ env.locals s.heap news) (J : Nat → (Str → Option Value) → List (Addr × Obj) → Prop) (hJ : J 0 m₀ news)
    (turn : ∀ (i : Nat) tag tt y m₁ news₁ h tk own, kvs[i]? = some (tag, y) → J i m₁ news₁ → (∀ p ∈ news₁, p.1 ∉ [s.heap.objs.size]) → (∀ q ∈ own, q.1 ∈ [s.heap.objs.size, d]) → h.DictOf (PySem.strKind prog w) d kvs → s.heap.objs.size < h.objs.size → Fr h₀ env.locals h (fun y => if y = x then some (.str tag tt) else m₁ y) → News h₀ env.locals h (news₁ ++ own) →
      wpAny (model prog w) A (execs body env) (TurnEnd h₀ env.locals own [s.heap.objs.size] (J (i + 1)) { s with heap := h, toks := tk } Q) E { s with heap := h, toks := tk })
    (done : ∀ h tk m₁ news₁, J kvs.length m₁ news₁ → Fr h₀ env.locals h m₁ → News h₀ env.locals h news₁ → Q .next { s with heap := h, toks := tk }) :
    wpAny (model prog w) A (pyIter (.ref d)) (fun it s₂ => LoopAtV prog w A h₀ env x body Q E it s₂) E s := by
  obtain ⟨ep, hat⟩ := hd.dictAt
  refine wpAny_pyIter_dict lo hat ?_
  have hlt := hat.lt_size
  have hne : d ≠ s.heap.objs.size := Nat.ne_of_lt hlt
  refine loopW (Walks.dictKeys (knd := PySem.strKind prog w) hh s.heap.objs.size d hne kvs ep) ⟨⟨_, Heap.get?_push_size _ rfl, rfl, rfl⟩, hat.push _⟩ (fun hm => ?_) (fresh_next F)
    (fun p hp hI => absurd (Heap.lt_size (N p hp).1) ((List.mem_singleton.mp hI) ▸ Nat.lt_irrefl _)) (F.push _) (N.pushKeep _) J hJ ?_ done
  · rcases List.mem_cons.mp hm with e | hm
    · exact absurd F.ns.lt (e ▸ Nat.lt_irrefl _)
    · exact hdL (List.mem_singleton.mp hm).symm
  rintro i v m₁ news₁ h tk own hi ⟨k, y, hk, hkv⟩ hJ₁ hf ho hst F₁ N₁
  obtain ⟨t, rfl⟩ := Value.isStrOf_shape hkv
  exact turn i k t y m₁ news₁ h tk own hk hJ₁ hf ho hst.2.dictOf (let ⟨_, ho', _⟩ := hst.1; Heap.lt_size ho') F₁ N₁

theorem paired_strs {f : Value → Str} {vs ys : List Value} (h : Paired (fun v y => ∃ t, y = .str (f v) t) vs ys) : StrsAre ys (vs.map f) := by
  induction h with
  | nil => exact .nil
  | cons h _ ih => obtain ⟨t, rfl⟩ := h; exact .cons _ _ ih
noncomputable def strV (v : Value) : Str := match v with | .str z _ => z | _ => Str.ofString ""
/-- a list of texts out of a dict's keys -/
theorem comp_dict {elt iter : Expr} {px pos : Pos} {scope : Scope} {cl : List (Str × Addr)} {Q : Value → Shared → Prop} (f : Str → Str) (hh : A.handled = none)
    (hclos : closureFor scope env = pure cl) (hcell : ∀ y ∈ scope.names, y.2 ≠ .cell) (hkind : scope.kind = .function)
    (hnames : ∀ y ∈ scope.names, y.2 = .local → scope.names.lookup y.1 = some .local) (hx : scope.names.lookup x = some .local)
    (h : wpAny (model prog w) A (eval iter env) (fun xv s₁ => ∃ d kvs, xv = .ref d ∧ (d == sysModules) = false ∧ s₁.heap.DictOf (PySem.strKind prog w) d kvs ∧ kvs.length ≤ 1000 ∧
      (∀ C k u (s₃ : Shared) m₃ E', k ∈ kvs.map (·.1) → s₃.heap.Ns C m₃ → m₃ x = some (.str k u) → s₁.heap.StaysIn s₃.heap →
        wpAny (model prog w) A (eval elt (compEnvC scope cl C env)) (fun y s₄ => (∃ t, y = .str (f k) t) ∧ Keeps s₃ s₄) E' s₃) ∧
      (∀ D h' tk ys, s₁.heap.get? D = none → h'.IsList D (List.toArray ys) → StrsAre ys ((kvs.map (·.1)).map f) → s₁.heap.StaysIn h' → Q (.ref D) { s₁ with heap := h', toks := tk })) E s)
    (hs : ∀ x, foldedSetIterable iter env x = pure x := by intro _; rfl) :
    wpAny (model prog w) A (eval (.ListComp elt [⟨.Name x px, iter, [], 0⟩] scope pos) env) Q E s := by
  refine wpAny_ListComp_free (fun _ => true) (fun v y => ∃ t, y = .str (f (strV v)) t) hclos hcell hkind hnames hx (wpAny_mono h (fun xv s₁ h₁ => ?_) fun _ _ e => e) hs
  obtain ⟨d, kvs, rfl, lo, hd, hz, hq, hQ⟩ := h₁
  obtain ⟨ep, hat⟩ := hd.dictAt
  refine wpAny_pyIter_dict lo hat ?_
  have hlt := hat.lt_size
  have hne : d ≠ s₁.heap.objs.size := Nat.ne_of_lt hlt
  refine ⟨_, _, _, _, _, _, rfl, Walks.dictKeys (knd := PySem.strKind prog w) hh s₁.heap.objs.size d hne kvs ep, by rw [sizeLine_eq]; omega, ⟨⟨_, Heap.get?_push_size _ rfl, rfl, rfl⟩, hat.push _⟩, fun b hb => ?_, ⟨?_, ?_⟩, ?_⟩
  · dsimp only
    rw [Heap.size_push]
    rcases List.mem_cons.mp hb with rfl | hb
    · exact Nat.lt_succ_self _
    · rw [List.mem_singleton.mp hb]; exact Nat.lt_succ_of_lt hlt
  · intro C i v s₃ m₃ E' _ hP hn hm hk _
    exact wpAny_tests_nil ⟨rfl, s₃.heap, s₃.toks, rfl, fun _ _ e => e⟩
  · rintro C i v s₃ m₃ E' _ ⟨k, y, hk', hkv⟩ _ hn hm hk _
    obtain ⟨t, rfl⟩ := Value.isStrOf_shape hkv
    refine wpAny_mono (hq C k t s₃ m₃ E' (List.mem_map.mpr ⟨_, List.mem_of_getElem? hk', rfl⟩) hn hm fun b o' e => hk b o' (fun hb => ?_) (Heap.get?_push_of_some _ e)) (fun y s₄ hy => hy) fun _ _ e => e
    exact absurd (Heap.lt_size e) (by rw [List.mem_singleton.mp hb]; exact Nat.lt_irrefl _)
  · intro D h' tk ys vs hD hl _ hlen hP hF hk
    have hys : ys = ys.toList.toArray := (Array.toArray_toList).symm
    rw [hys] at hl
    have hF' : Paired (fun v y => ∃ t, y = .str (f (strV v)) t) vs ys.toList := by rwa [show vs.filter (fun _ => true) = vs from List.filter_eq_self.mpr (fun _ _ => rfl)] at hF
    have e : vs.map (fun v => f (strV v)) = (kvs.map (·.1)).map f := by
      apply List.ext_getElem?
      intro j
      rw [List.getElem?_map, List.getElem?_map, List.getElem?_map]
      cases hv : vs[j]? with
      | none =>
        have : kvs.length ≤ j := by rw [← hlen]; simpa using hv
        rw [List.getElem?_eq_none this]; rfl
      | some v =>
        obtain ⟨k, y, hk', hkv⟩ := hP j v hv
        obtain ⟨t, rfl⟩ := Value.isStrOf_shape hkv
        rw [hk']; rfl
    have hi := paired_strs (f := fun v => f (strV v)) hF'
    rw [e] at hi
    refine hQ D h' tk ys.toList ?_ hl hi fun b o' e' => hk b o' (fun hb => ?_) (Heap.get?_push_of_some _ e')
    · cases q : s₁.heap.get? D with
      | none => rfl
      | some o' => cases (Heap.get?_push_of_some _ q).symm.trans hD
    · exact absurd (Heap.lt_size e') (by rw [List.mem_singleton.mp hb]; exact Nat.lt_irrefl _)
end
section
variable {prog : Program} {w : World} {A : Around} {E : Value → Shared → Prop} {s : Shared} {h₀ : Heap} {L l : Addr} {m : Str → Option Value} {news : List (Addr × Obj)} {Q : Value → Shared → Prop}
theorem sorted_list {vs : List Value} {ss : List Str} (F : Fr h₀ L s.heap m) (N : News h₀ L s.heap news) (hl : s.heap.IsList l vs.toArray) (hS : StrsAre vs ss) (h64 : vs.length < 64)
    (h : ∀ D h' (vs : List Value) e, StrsAre vs (sortS ss) → Fr h₀ L h' m → News h₀ L h' ((D, listOf vs.toArray e) :: news) → (∀ p ∈ news, p.1 < D) → Q (.ref D) { s with heap := h' }) :
    wpAny (model prog w) A (call (.builtin "sorted") [.ref l]) Q E s := by
  refine sorted_N_str F N hl hS h64 fun h' vs' ss' e F' N' a1 a2 a3 => ?_
  rw [eq_sortS a2 a3] at a1
  exact h _ h' vs' e a1 F' N' fun p hp => Nat.lt_succ_of_lt (Heap.lt_size (N p hp).1)
end

theorem strOf_size (x y : Str) : (x ++ y).cps.size = x.cps.size + y.cps.size := Array.size_append
noncomputable def ToldIn (ts : List (Addr × Obj)) (kp : List (Str × Value)) (l : Tb) : Prop := Paired (fun (q : Str × Value) (r : Str × List UInt8) => q.1 = Txt.slice (r.1 ++ Str.ofString "    ") none (some 4) ∧ ∃ a n t1 t2, q.2 = .ref a ∧ (a, (seqObj "tuple" #[.str r.1 t1, .bytes r.2.toArray t2] n)) ∈ ts) kp l
noncomputable def padK (k : Str) : Str := Txt.slice (k ++ Str.ofString "    ") none (some 4)
section
variable {prog : Program} {w : World} {A : Around} {E : Value → Shared → Prop} {s : Shared} {value slice : PySem.Expr} {x : Str} {t ui : Tok} {j : Int} {h₀ : Heap} {L : Addr} {m : PySem.Str → Option Value} {news : List (Addr × Obj)} {Q : Value → Shared → Prop}
theorem s_slice_n (hz : x.cps.size ≤ 100000) (h : ∀ h' t' k, s.heap.StaysIn h' → Q (.str (Txt.slice x none (some j)) t') { s with heap := h', toks := k })
    (hs : subscripted slice false (.str x t) (.ref s.heap.objs.size) = operate [.ref s.heap.objs.size, .str x t] (getItem (.str x t) (.ref s.heap.objs.size)) := by with_unfolding_all rfl) :
    wpAny (model prog w) A (subscriptTail value slice (.str x t) (.ref s.heap.objs.size)) Q E { s with heap := s.heap.push { cls := .type "slice", data := .fields #[.none, .int j ui, .none] } } := by
  obtain ⟨T, id, h1, h2, h3⟩ := SBH.sliceItem_ns (prog := prog) (w := w) (A := A) (E := E) (P := fun h' => s.heap.StaysIn h') (s := s) (x := x) (t := t) (j := j) (uj := ui) (Q := Q) (fun h' ob k b o e => Heap.get?_push_of_some _ (k b o e)) (fun _ _ e => e) (fun h' t' k st => h h' t' k st) (by show x.cps.size ≤ _; rw [sizeLine_eq]; omega)
  exact tail_any h2 h1 h3 hs
theorem s_slice_F (F : Fr h₀ L s.heap m) (N : News h₀ L s.heap news) (hz : x.cps.size ≤ 100000) (h : ∀ h' t' k, Fr h₀ L h' m → News h₀ L h' news → Q (.str (Txt.slice x none (some j)) t') { s with heap := h', toks := k })
    (hs : subscripted slice false (.str x t) (.ref s.heap.objs.size) = operate [.ref s.heap.objs.size, .str x t] (getItem (.str x t) (.ref s.heap.objs.size)) := by with_unfolding_all rfl) :
    wpAny (model prog w) A (subscriptTail value slice (.str x t) (.ref s.heap.objs.size)) Q E { s with heap := s.heap.push { cls := .type "slice", data := .fields #[.none, .int j ui, .none] } } :=
  s_slice_n hz (fun h' t' k st => h h' t' k (F.keeps st) (N.grown st)) hs
theorem l_len_n {b : Addr} {vs : List Value} {e : Nat} (N : News h₀ L s.heap news) (hm : (b, listOf vs.toArray e) ∈ news) (hv : vs.length ≤ 1000000) (h : ∀ t k, Q (.int vs.length t) { s with toks := k }) :
    wpAny (model prog w) A (call (.builtin "len") [.ref b]) Q E s :=
  call_len_list (l := b) (items := vs.toArray) ⟨_, N.get hm, rfl, _, rfl⟩ (by rw [List.size_toArray]; omega) (by rw [List.size_toArray]; exact h _ _)
theorem l_item_n {b : Addr} {vs : List Value} {e : Nat} {i : Int} {u : Tok} {v : Value} (N : News h₀ L s.heap news) (hm : (b, listOf vs.toArray e) ∈ news) (hx : vs[i.toNat]? = some v) (h0 : 0 ≤ i) (hi : i < 1000000) (h : Q v s)
    (hs : subscripted slice false (.ref b) (.int i u) = operate [.ref b, .int i u] (getItem (.ref b) (.int i u)) := by with_unfolding_all rfl) :
    wpAny (model prog w) A (subscriptTail value slice (.ref b) (.int i u)) Q E s := by
  have hl' : s.heap.IsList b vs.toArray := ⟨_, N.get hm, rfl, _, rfl⟩
  exact tail_any hl'.typeIs slot_list_getitem.lookup (wpAny_getItem_list hl' h0 (by omega) (by simpa using hx) h) hs
theorem ToldIn.keys {ts : List (Addr × Obj)} {kp : List (Str × Value)} {l : Tb} (h : ToldIn ts kp l) : kp.map (·.1) = (keysT l).map padK := by
  induction h with
  | nil => rfl
  | @cons a b l₁ l₂ h _ ih => show a.1 :: l₁.map (·.1) = padK b.1 :: (keysT l₂).map padK; rw [h.1, ih]; rfl
theorem ToldIn.at {ts : List (Addr × Obj)} {kp : List (Str × Value)} {l : Tb} (h : ToldIn ts kp l) : ((keysT l).map padK).Nodup → ∀ {tag : Str}, tag ∈ keysT l → ∃ a n t1 t2, valueAt kp (padK tag) = some (.ref a) ∧ (a, (seqObj "tuple" #[.str tag t1, .bytes (lk l tag).toArray t2] n)) ∈ ts := by
  induction h with
  | nil => exact fun _ _ hm => nomatch hm
  | @cons q r l₁ l₂ h _ ih =>
    intro hn tag hm
    obtain ⟨h1, a, n, t1, t2, h2, h3⟩ := h
    have hn' := List.nodup_cons.mp (show (padK r.1 :: (keysT l₂).map padK).Nodup from hn)
    have h1' : q.1 = padK r.1 := h1
    by_cases e : r.1 = tag
    · subst e
      refine ⟨a, n, t1, t2, ?_, ?_⟩
      · unfold valueAt
        rw [List.find?_cons, h1', decide_eq_true rfl, h2.symm]; rfl
      · unfold lk
        rw [List.find?_cons, decide_eq_true rfl]; exact h3
    · have hm' : tag ∈ keysT l₂ := (List.mem_cons.mp hm).resolve_left fun q => e q.symm
      obtain ⟨a, n, t1, t2, h4, h5⟩ := ih hn'.2 hm'
      have hne : ¬ padK r.1 = padK tag := fun q => hn'.1 (q ▸ List.mem_map.mpr ⟨tag, hm', rfl⟩)
      refine ⟨a, n, t1, t2, ?_, ?_⟩
      · unfold valueAt at h4 ⊢
        rw [List.find?_cons, h1', decide_eq_false hne]; exact h4
      · unfold lk at h5 ⊢
        rw [List.find?_cons, decide_eq_false e]; exact h5
theorem key_uniq : ∀ {tb : Tb}, (keysT tb).Nodup → ∀ {k : Str} {a b : List UInt8}, (k, a) ∈ tb → (k, b) ∈ tb → a = b
  | [], _, _, _, _, h, _ => nomatch h
  | q :: r, hn, k, a, b, h1, h2 => by
    have hn' := List.nodup_cons.mp (show (q.1 :: keysT r).Nodup from hn)
    rcases List.mem_cons.mp h1 with e1 | h1
    · rcases List.mem_cons.mp h2 with e2 | h2
      · rw [← e1] at e2; exact (Prod.mk.inj e2).2.symm
      · exact absurd (show q.1 ∈ keysT r from List.mem_map.mpr ⟨_, h2, by rw [← e1]⟩) hn'.1
    · rcases List.mem_cons.mp h2 with e2 | h2
      · exact absurd (show q.1 ∈ keysT r from List.mem_map.mpr ⟨_, h1, by rw [← e2]⟩) hn'.1
      · exact key_uniq hn'.2 h1 h2
theorem kv_at {kvs : List (Str × Value)} {tb : Tb} (h : KV kvs tb) (hn : (keysT tb).Nodup) {i : Nat} {tag : Str} {y : Value} (e : kvs[i]? = some (tag, y)) : tb[i]? = some (tag, lk tb tag) := by
  obtain ⟨⟨k, l⟩, hr, hq, _⟩ := paired_at h e
  dsimp only at hq
  subst hq
  have hm := List.mem_of_getElem? hr
  rw [hr, key_uniq hn hm (lk_mem (List.mem_map.mpr ⟨_, hm, rfl⟩))]
theorem newsRot {h : Heap} {a b c : Addr × Obj} {ts own : List (Addr × Obj)} (N : News h₀ L h (a :: b :: c :: (ts ++ own))) : News h₀ L h ((b :: c :: a :: ts) ++ own) := fun p hp => N p (by
  rcases List.mem_append.mp hp with hp | hp
  · rcases List.mem_cons.mp hp with rfl | hp
    · exact .tail _ (.head _)
    rcases List.mem_cons.mp hp with rfl | hp
    · exact .tail _ (.tail _ (.head _))
    rcases List.mem_cons.mp hp with rfl | hp
    · exact .head _
    · exact .tail _ (.tail _ (.tail _ (List.mem_append_left _ hp)))
  · exact .tail _ (.tail _ (.tail _ (List.mem_append_right _ hp))))
theorem newsDrop2 {h : Heap} {a b : Addr × Obj} {c : List (Addr × Obj)} (N : News h₀ L h (a :: b :: c)) : News h₀ L h (a :: c) := fun p hp => (List.mem_cons.mp hp).elim (fun e => N p (e ▸ .head _)) fun q => N p (.tail _ (.tail _ q))
noncomputable def sel5 (a b c d e : Int) (i : Nat) : Int := if i = 0 then a else if i = 1 then b else if i = 2 then c else if i = 3 then d else e
theorem l_item5 {D : Addr} {o : Obj} {a b c d e : Int} {t1 t2 t3 t4 t5 : Tok} {i : Int} {u : Tok} (N : News h₀ L s.heap news) (hm : (D, o) ∈ news) (ho : o = listOf [Value.int a t1, Value.int b t2, Value.int c t3, Value.int d t4, Value.int e t5].toArray 0) (h0 : 0 ≤ i) (h5 : i < 5)
    (h : ∀ t, Q (.int (sel5 a b c d e i.toNat) t) s)
    (hs : subscripted slice false (.ref D) (.int i u) = operate [.ref D, .int i u] (getItem (.ref D) (.int i u)) := by with_unfolding_all rfl) :
    wpAny (model prog w) A (subscriptTail value slice (.ref D) (.int i u)) Q E s := by
  have key : ∃ t, [Value.int a t1, Value.int b t2, Value.int c t3, Value.int d t4, Value.int e t5][i.toNat]? = some (.int (sel5 a b c d e i.toNat) t) := by
    have h4 : i.toNat = 0 ∨ i.toNat = 1 ∨ i.toNat = 2 ∨ i.toNat = 3 ∨ i.toNat = 4 := by omega
    rcases h4 with h4 | h4 | h4 | h4 | h4 <;> rw [h4] <;> exact ⟨_, rfl⟩
  obtain ⟨t, e'⟩ := key
  subst ho
  exact l_item_n N hm e' h0 (by omega) (h t) hs
theorem d_len {d : Addr} {kvs : List (Str × Value)} (lo : (d == sysModules) = false) (hD : TabD w s.heap d kvs) (hz : kvs.length ≤ 1000) (h : ∀ t k, Q (.int kvs.length t) { s with toks := k }) :
    wpAny (model PySem.Challenge.rw_nu0014_01.row.prog w) A (call (.builtin "len") [.ref d]) Q E s := call_len_dict lo hD (by omega) (h _ _)
end
theorem words_36_1 : True := by
  (k_with "subscriptTail" => ((k_here; (with_reducible show wpAny _ _ (subscriptTail _ (Expr.Slice none _ none _) (Value.str _ _) (Value.ref _)) _ _ _); k_dflt (first
  | (refine' s_slice_F (s := ⟨_, _, _, _, _⟩) (by k_asm) (by k_asm) (by k_extra "msstr") ?_; intro _ _ _ _ _; (try k_sweep))
  | (refine' s_slice_n (s := ⟨_, _, _, _, _⟩) (by k_extra "msstr") ?_; intro _ _ _ _)))))
  (k_with "msstr" => ((rw [strOf_size]; assumption)))
  (k_with "call builtin:len" => ((k_here; (with_reducible show wpAny _ _ (call (Value.builtin "len") [Value.ref _]) _ _ _); k_dflt (refine' d_len (by assumption) (by k_extra "mdict") (by omega) ?_); intro _ _)))
  (k_with "call builtin:len" => ((k_here; (with_reducible show wpAny _ _ (call (Value.builtin "len") [Value.ref _]) _ _ _); k_dflt (refine' l_len_n (by k_asm) (by k_mem) (by k_extra "mside") ?_); intro _ _)))
  (k_with "subscriptTail" => ((k_here; (with_reducible show wpAny _ _ (subscriptTail _ _ (Value.ref _) (Value.int _ _)) _ _ _); k_dflt (refine' l_item_n (by k_asm) (by k_mem) (by assumption) (by k_extra "mside") (by k_extra "mside") ?_))))
  (k_with "subscriptTail" => ((k_here; (with_reducible show wpAny _ _ (subscriptTail _ _ (Value.ref _) (Value.int (_ - 1) _)) _ _ _); k_dflt (refine' l_item5 (by k_asm) (by k_mem) (by rfl) (by k_extra "mside") (by k_extra "mside") ?_); intro _)))
  (k_with "exec For" => ((k_here; (with_reducible show wpAny _ _ (exec (Stmt.For (Expr.Name _ _) (Expr.Name _ _) _ [] _) _) _ _ _); k_dflt (refine' For_F (by k_asm) (by rfl) (by rfl) ?_ (by intro _; rfl) (by first | exact PassesOwn.never | passes_own)))))
  (k_with "exec Assign" => ((k_here; (with_reducible show wpAny _ _ (exec (Stmt.Assign [Expr.Tuple _ _ _] (Expr.Subscript _ _ _ _) _) _) _ _ _); k_dflt (refine Assign_Tuple ?_))))
  (k_with "call ref" => ((k_here; (with_reducible show wpAny _ _ (call (Value.ref 261) _) _ _ _); k_dflt (refine' Gives.use (g_law_sum (by k_extra "mK") (by k_extra "mT") (by k_extra "mroom") (by k_extra "mside")) (by k_asm) (by k_asm) ?_); k_extra "mdone")))
  (k_with "call ref" => ((k_here; (with_reducible show wpAny _ _ (call (Value.ref 280) _) _ _ _); k_dflt (refine' Gives.use (g_law_plain (by k_extra "mK") (by k_extra "mT") (by k_extra "mroom") (by k_extra "mside")) (by k_asm) (by k_asm) ?_); k_extra "mdone")))
  trivial
noncomputable def headO (n : Nat) : List UInt8 := bl [0, 1, 0, 0, 0, (n : Int), 0, powS n * 16, 0, expS n, 0, 16 * n - powS n * 16]
/-- what the law asks of the octets -/
structure Right (f : List UInt8) (tb : Tb) : Prop where
  len : f.length ≤ 2000
  pnd : ((keysT tb).map padK).Nodup
  psz : ∀ k ∈ keysT tb, (padK k).cps.size ≤ 4 ∧ ∀ c ∈ (padK k).cps, c < 256
  psort : sortS ((keysT tb).map padK) = (srt tb).map padK
  tag : ∀ i tag, (srt tb)[i]? = some tag → (f.take (12 + 16 * i + 4)).drop (12 + 16 * i) = octS (padK tag)
  place : ∀ i tag, (srt tb)[i]? = some tag → rd32 f (12 + 16 * i + 8) = pos tb i
  size : ∀ i tag, (srt tb)[i]? = some tag → rd32 f (12 + 16 * i + 12) = (lk tb tag).length
  body : ∀ i tag, (srt tb)[i]? = some tag → plT tag ((f.take (pos tb i + (lk tb tag).length)).drop (pos tb i)) = plT tag (lk tb tag)
  sum : ∀ i tag, (srt tb)[i]? = some tag → rd32 f (12 + 16 * i + 4) = lsum (plT tag (lk tb tag)) (plT tag (lk tb tag)).length % w32
  pad : ∀ i tag, (srt tb)[i]? = some tag → (f.take (pos tb (i + 1))).drop (pos tb i + (lk tb tag).length) = List.replicate (pos tb (i + 1) - (pos tb i + (lk tb tag).length)) 0
  four : ∀ i, i ≤ tb.length → pos tb i % 4 = 0
  whole : pos tb tb.length = f.length
  head : f.take 12 = headO tb.length

section
variable {w : World} {d u : Nat} {fr : Option (List Env)} {gs : Option (List Code)} {s : Shared} {p : Program} {loose : List Str} {mg mb : Str → Option Value}

set_option maxHeartbeats 4000000 in
theorem g_law_directory_right {f : List UInt8} {dd : Addr} {kvs : List (Str × Value)} {tb : Tb} {t : Tok}
    (X : (hd.heap_1 w.params).In s.heap) (T : TopRead p loose mg mb s.heap) (hroom : d + 30 < recursionLimit) (lo : (dd == sysModules) = false) (hD : TabD w s.heap dd kvs)
    (hK : KV kvs tb) (g : Gd tb) (R : Right f tb) :
    Gives w ⟨none, d, fr, gs, u⟩ 285 [.bytes f.toArray t, .ref dd] s (fun v _ => v = .bool true) := by
  intro E Q hQ
  have hkl := hK.len
  have h1 := g.one
  have h5 := g.five
  have h4 : (Str.ofString "    ").cps.size = 4 := by decide
  have hts : ∀ k ∈ keysT tb, k.cps.size + (Str.ofString "    ").cps.size ≤ 100000 := fun k hk => by
    have := (g.tags _ (lk_mem hk)).2.1
    have : k.cps.size ≤ 4 := this
    omega
  refine wpAny_call (enterF [("font", .bytes f.toArray t), ("tables", .ref dd)] X T rfl (by rfl) (by simp only; omega) rfl (locs rfl) (fun h₁ n F N => ?_))
  k_extra "go"
  refine comp_dict (cl := []) padK rfl rfl (by decide) rfl (by decide) rfl ?_
  k_extra "go"
  rename Fr _ _ _ _ => F₁
  rename News _ _ _ _ => N₁
  refine ⟨_, kvs, rfl, lo, hD.keep F₁.keep, by omega, ?_, ?_⟩
  · intro C k u₂ s₃ m₃ E' hk hn hm hst
    have X₃ : (hd.heap_1 w.params).In s₃.heap := X.keeps fun b o e => hst b o (F₁.keep b o e)
    have T₃ : TopRead p loose mg mb s₃.heap := T.keeps fun b o e => hst b o (F₁.keep b o e)
    have hk5 := hts k (by rw [← hK.keys]; exact hk)
    obtain ⟨h₃, g₃, d₃, t₃, o₃⟩ := s₃
    k_extra "go"
    exact ⟨_, rfl⟩
    exact ⟨_, _, rfl, by assumption⟩
  · intro D h' tk ys hDn hl hi hst
    replace F₁ := F₁.keeps hst
    replace N₁ := N₁.grown hst
    k_extra "go"
    have hyl : ys.length < 64 := by rw [StrsAre.length hi, List.length_map, List.length_map]; omega
    refine sorted_list F₁ N₁ hl hi hyl fun D2 h2 vs2 e2 hS2 F2 N2 lt2 => ?_
    rw [hK.keys, R.psort] at hS2
    clear F₁ N₁ hl hDn hst
    k_extra "go"
    rename Obj.IsDictOf (PySem.strKind _ _) _ [] => hd0
    rename (_ == sysModules) = false => lop
    rename News _ _ _ (_ :: _ :: _) => N3
    rename (_ < _) ∧ (_ < _) => l9
    have hdlt : dd < s.heap.objs.size := let ⟨_, hat⟩ := hD.dictAt; hat.lt_size
    refine forDict rfl lo (hD.keep (Fr.keep (by assumption))) (Nat.ne_of_lt hdlt) (by assumption) (newsDrop2 N3)
      (fun i m news => m "font" = some (.bytes f.toArray t) ∧ m "tables" = some (.ref dd) ∧ m "tags" = some (.ref D2) ∧ (∃ te, m "end" = some (.int (12 + 16 * (kvs.length : Int)) te)) ∧ ∃ td o kp ts, m "told" = some (.ref td) ∧ news = (td, o) :: (D2, listOf vs2.toArray e2) :: ts ∧ (td == sysModules) = false ∧
        o.IsDictOf (PySem.strKind PySem.Challenge.rw_nu0014_01.row.prog w) kp ∧ ToldIn ts kp (tb.take i) ∧ Off ts td ∧ D2 < td) ⟨by rfl, by rfl, by rfl, ⟨_, by rfl⟩, _, _, _, [], by rfl, rfl, lop, hd0, .nil, (fun _ h => nomatch h), by exact l9.2⟩ ?_ ?_
    · rintro i tag tt y m₁ news₁ h tk own hv ⟨hm1, hm2, hm3, ⟨te, hm4⟩, td, o, kp, ts, hm5, rfl, lop, hd1, hTI, hoff, hlt⟩ hnf hof hD₁ hIl F₁ N₁
      k_lt2 hlt
      have hmem : tag ∈ keysT tb := by rw [← hK.keys]; exact List.mem_map.mpr ⟨_, List.mem_of_getElem? hv, rfl⟩
      have hk5 := hts tag hmem
      obtain ⟨t1, hv1⟩ := hK.at hmem
      have hki : ((keysT tb).map padK)[i]? = some (padK tag) := by rw [List.getElem?_map, ← hK.keys, List.getElem?_map, hv]; rfl
      have hpk : Txt.slice (tag ++ Str.ofString "    ") none (some 4) ∉ kp.map (·.1) := by rw [hTI.keys]; unfold keysT; rw [List.map_take, List.map_take]; exact not_in_take R.pnd hki
      have hown : ∀ p ∈ own, p.1 ≠ td := fun p hp e => by
        rcases List.mem_cons.mp (hof p hp) with q | q
        · exact hnf (td, o) (.head _) (by rw [← e, q]; exact .head _)
        · have hf := (N₁ _ (.head _)).2.2
          dsimp only at hf
          obtain ⟨o', _, _, ho', _⟩ := hD
          rw [← e, List.mem_singleton.mp q, ho'] at hf; cases hf
      have hownd : ∀ p ∈ ts ++ own, p.1 ≠ td := fun p hp => (List.mem_append.mp hp).elim (hoff p) (hown p)
      have hkz : kp.length ≤ 1000 := by rw [Paired.length hTI, List.length_take]; omega
      have htl : td < h.objs.size := Heap.lt_size (N₁ _ (.head _)).1
      k_lt2 htl
      simp only [List.cons_append] at N₁
      k_sweep
      k_extra "go"
      rename News _ _ _ _ => N9
      rename Obj.IsDictOf (PySem.strKind _ _) _ (stored _ _ _) => hd2
      rename Obj => o2
      rw [stored_new' hpk] at hd2
      refine' TurnEnd.intro _ (by assumption) (newsRot N9) (fun p hp => ?_) ⟨by exact hm1, by exact hm2, by exact hm3, ⟨te, by exact hm4⟩, td, o2, _, _, by exact hm5, rfl, lop, hd2, ?_, fun p hp => ?_, hlt⟩
      · rcases List.mem_cons.mp hp with rfl | hp
        · exact hnf (td, o) (.head _)
        rcases List.mem_cons.mp hp with rfl | hp
        · exact hnf _ (.tail _ (.head _))
        rcases List.mem_cons.mp hp with rfl | hp
        · exact fun q => absurd (List.mem_singleton.mp q) (Nat.ne_of_gt hIl)
        · exact hnf _ (.tail _ (.tail _ hp))
      · rw [List.take_add_one, kv_at hK g.nodup hv]
        exact Paired.snoc (Paired.mono (fun _ _ ⟨q1, a, n, t1, t2, q2, q3⟩ => ⟨q1, a, n, t1, t2, q2, .tail _ q3⟩) hTI) ⟨rfl, _, _, _, _, rfl, .head _⟩
      · rcases List.mem_cons.mp hp with rfl | hp
        · exact Nat.ne_of_gt htl
        · exact hoff _ hp
    · rintro h tk m₁ news₁ ⟨hm1, hm2, hm3, ⟨te, hm4⟩, td, o, kp, ts, hm5, rfl, lop, hd1, hTI, hoff, hlt⟩ F₁ N₁
      k_lt2 hlt
      have hvl := StrsAre.length hS2
      rw [List.length_map, srt_len] at hvl
      rw [hkl, List.take_length] at hTI
      k_sweep
      k_extra "go"
      rename IsRange _ _ _ _ _ _ _ _ => hRg
      rename News _ _ _ _ => N₁
      refine forRange (n := tb.length) rfl hRg ?_ ?_ (by assumption) N₁
        (fun i m news => m "font" = some (.bytes f.toArray t) ∧ m "tables" = some (.ref dd) ∧ m "tags" = some (.ref D2) ∧ m "told" = some (.ref td) ∧ (∃ te, m "end" = some (.int (pos tb i) te)) ∧ news = (td, o) :: (D2, listOf vs2.toArray e2) :: ts) ⟨hm1, hm2, hm3, hm5, exI hm4 ?_, rfl⟩ ?_ ?_
      · exact range_small (by omega) (by omega) (by omega)
      · rw [PyProof.Rows.rangeSize_nat]; omega
      · rw [hkl]; unfold pos; rw [List.take_zero, List.map_nil, List.sum_nil]; push_cast; omega
      · rintro i t₁ m₁ news₁ h tk own hi ⟨hm1, hm2, hm3, hm5, ⟨te, hm4⟩, rfl⟩ hnf hof ⟨oi, hoi⟩ F₁ N₁
        have hil : i < (srt tb).length := by rw [srt_len]; exact hi
        have hti : (srt tb)[i]? = some (srt tb)[i] := List.getElem?_eq_getElem hil
        generalize (srt tb)[i] = tag at hti
        have hmem : tag ∈ keysT tb := srt_mem.mp (List.mem_of_getElem? hti)
        have hk5 := hts tag hmem
        rw [show (0 : Int) + (i : Int) * 1 = (i : Int) by omega] at F₁
        have hxi : vs2[i]? = some (vs2[i]'(by rw [hvl]; exact hi)) := List.getElem?_eq_getElem _
        obtain ⟨x2, tt2, hx2, hx2'⟩ := strsAre_at hS2 hxi
        rw [List.getElem?_map, hti] at hx2
        cases hx2
        have ei : (i : Int).toNat = i := by omega
        have hxv : vs2[(i : Int).toNat]? = some (.str (padK tag) tt2) := by rw [ei, hxi, hx2']
        obtain ⟨ta, tn, t1, t2, hva, hta⟩ := hTI.at R.pnd hmem
        have hta' := List.mem_append_left own hta
        have hfl := R.len
        have hp1 := pos_le g i (Nat.le_of_lt hi)
        have hz1 := g.size _ (lk_mem hmem)
        dsimp only at hz1
        have hpd := R.tag i tag hti
        have hpl := R.place i tag hti
        have hsz := R.size i tag hti
        have hbo := R.body i tag hti
        have hsm := R.sum i tag hti
        have hpa := R.pad i tag hti
        have e4 : (12 + 16 * (i : Int) + 4).toNat = 12 + 16 * i + 4 := by omega
        have e8 : (12 + 16 * (i : Int) + 8).toNat = 12 + 16 * i + 8 := by omega
        have e12 : (12 + 16 * (i : Int) + 12).toNat = 12 + 16 * i + 12 := by omega
        have e0 : (12 + 16 * (i : Int)).toNat = 12 + 16 * i := by omega
        rw [← e4] at hsm
        rw [← e8] at hpl
        rw [← e12] at hsz
        have hpz := R.psz tag hmem
        obtain ⟨hpz1, hpz2⟩ := hpz
        have hrm : 12 + 16 * tb.length ≤ f.length := by rw [← R.whole]; unfold pos; omega
        have hps := pos_succ hti
        have hfl2 : flen tb tag = (lk tb tag).length + (4 - (lk tb tag).length % 4) % 4 := fil_len _
        have hb1 : (List.drop (12 + 16 * (i : Int)).toNat (List.take (12 + 16 * (i : Int) + 4).toNat f) != bl (List.map (fun c : Nat => (c : Int)) (padK tag).cps.toList)) = false := by
          rw [e0, e4, hpd]; exact bne_self_eq_false _
        have hb2 : (plT tag (List.drop (rd32 f (12 + 16 * (i : Int) + 8).toNat).toNat (List.take (rd32 f (12 + 16 * (i : Int) + 8).toNat + rd32 f (12 + 16 * (i : Int) + 12).toNat).toNat f)) != plT tag (lk tb tag)) = false := by
          rw [hpl, hsz, show ((pos tb i : Int) + ((lk tb tag).length : Int)).toNat = pos tb i + (lk tb tag).length by omega, Int.toNat_natCast, hbo]; exact bne_self_eq_false _
        have hb3 : (List.drop (rd32 f (12 + 16 * (i : Int) + 8).toNat + rd32 f (12 + 16 * (i : Int) + 12).toNat).toNat (List.take (rd32 f (12 + 16 * (i : Int) + 8).toNat + rd32 f (12 + 16 * (i : Int) + 12).toNat + (4 - rd32 f (12 + 16 * (i : Int) + 12).toNat % 4) % 4).toNat f) !=
            List.replicate (rd32 f (12 + 16 * (i : Int) + 8).toNat + rd32 f (12 + 16 * (i : Int) + 12).toNat + (4 - rd32 f (12 + 16 * (i : Int) + 12).toNat % 4) % 4 - rd32 f (12 + 16 * (i : Int) + 8).toNat - rd32 f (12 + 16 * (i : Int) + 12).toNat).toNat 0) = false := by
          rw [hpl, hsz, show ((pos tb i : Int) + ((lk tb tag).length : Int)).toNat = pos tb i + (lk tb tag).length by omega, show ((pos tb i : Int) + ((lk tb tag).length : Int) + (4 - ((lk tb tag).length : Int) % 4) % 4).toNat = pos tb (i + 1) by omega, hpa,
            show ((pos tb i : Int) + ((lk tb tag).length : Int) + (4 - ((lk tb tag).length : Int) % 4) % 4 - (pos tb i : Int) - ((lk tb tag).length : Int)).toNat = pos tb (i + 1) - (pos tb i + (lk tb tag).length) by omega]
          exact bne_self_eq_false _
        have h4p := R.four i (Nat.le_of_lt hi)
        have hpy : (plT tag (lk tb tag)).length ≤ 2000 := by have := plT_le tag (lk tb tag); omega
        have hpx : (plT tag (List.drop (rd32 f (12 + 16 * (i : Int) + 8).toNat).toNat (List.take (rd32 f (12 + 16 * (i : Int) + 8).toNat + rd32 f (12 + 16 * (i : Int) + 12).toNat).toNat f))).length ≤ 4000 := by
          have := plT_le tag (List.drop (rd32 f (12 + 16 * (i : Int) + 8).toNat).toNat (List.take (rd32 f (12 + 16 * (i : Int) + 8).toNat + rd32 f (12 + 16 * (i : Int) + 12).toNat).toNat f))
          rw [List.length_drop, List.length_take] at this; omega
        clear hpd hbo hpa
        simp only [List.cons_append] at N₁
        k_sweep
        k_extra "go"
        refine comp_str (cl := []) (fun c => (c : Int)) rfl rfl (by decide) rfl (by decide) rfl ?_
        k_extra "go"
        rename Fr _ _ _ _ => F₁
        rename News _ _ _ _ => N₁
        refine ⟨_, _, rfl, by omega, ?_, ?_⟩
        · intro C c u₂ s₃ m₃ E' hc' hn hm hst
          have X₃ : (hd.heap_1 w.params).In s₃.heap := X.keeps fun b o e => hst b o (F₁.keep b o e)
          have T₃ : TopRead p loose mg mb s₃.heap := T.keeps fun b o e => hst b o (F₁.keep b o e)
          obtain ⟨h₃, g₃, d₃, t₃, o₃⟩ := s₃
          k_extra "go"
          exact ⟨_, rfl⟩
          exact ⟨h₃, _, rfl, fun _ _ e => e⟩
        · intro D h' tk ys hD hl hi2 hst
          replace F₁ := F₁.keeps hst
          replace N₁ := N₁.grown hst
          k_sweep
          k_extra "go"
          refine' b_ints (by assumption) (by assumption) rfl hl hi2 ?_ ?_ ?_
          · intro n hn
            obtain ⟨c, hc1, rfl⟩ := List.mem_map.mp hn
            have := hpz2 c (Array.mem_toList_iff.mp hc1)
            exact ⟨by omega, by omega⟩
          · rw [List.length_map, Array.length_toList]; omega
          intro h2 t2 k2 F₂ N₂
          k_sweep
          k_extra "go"
          · exact absurd hpl (by assumption)
          · rename (_ % 4 ≠ 0) => hq
            rw [hpl] at hq
            exact absurd (show (pos tb i : Int) % 4 = 0 by omega) hq
          · exact absurd hsz (by assumption)
          · exact absurd hsm (by assumption)
          · rename News _ _ _ _ => N9
            refine' TurnEnd.intro ((td, o) :: (D2, listOf vs2.toArray e2) :: ts) ?_ ?_ ?_ ?_
            rotate_left
            · assumption
            · exact news1 N9
            · exact hnf
            · refine ⟨hm1, hm2, hm3, hm5, exI (by rfl) ?_, rfl⟩
              omega
      · rintro h tk m₁ news₁ ⟨hm1, hm2, hm3, hm5, ⟨te, hm4⟩, rfl⟩ F₁ N₁
        have hfl := R.len
        have hw := R.whole
        obtain ⟨hp1, hp2, hp3⟩ := powS_b h1
        have hn5 : tb.length = 1 ∨ tb.length = 2 ∨ tb.length = 3 ∨ tb.length = 4 ∨ tb.length = 5 := by omega
        have hg1 : sel5 16 32 32 64 64 ((kvs.length : Int) - 1).toNat = powS tb.length * 16 := by
          rw [hkl]; rcases hn5 with q | q | q | q | q <;> rw [q] <;> rfl
        have hg2 : sel5 0 1 1 2 2 ((kvs.length : Int) - 1).toNat = expS tb.length := by
          rw [hkl]; rcases hn5 with q | q | q | q | q <;> rw [q] <;> rfl
        have hp4 : expS tb.length ≤ 2 := by rcases hn5 with q | q | q | q | q <;> rw [q] <;> decide
        clear hn5
        k_sweep
        k_extra "go"
        · (try dsimp only)
          refine hQ _ _ _ ?_ (Fr.keep (by assumption))
          show Value.bool _ = Value.bool true
          rw [hg1, hg2, hkl, show List.take (Int.toNat 12) f = headO tb.length from R.head]
          exact congrArg Value.bool (beq_self_eq_true (headO tb.length))
        · exfalso; omega
end

/-! plain facts of the font's octets -/
theorem u8_of (n : Int) (h0 : 0 ≤ n) (h1 : n < 256) : ((n.toNat.toUInt8).toNat : Int) = n := by
  rw [show (n.toNat.toUInt8).toNat = n.toNat % 256 from UInt8.toNat_ofNat']; omega
theorem b8_app_l {A B : List UInt8} {k : Nat} (h : k < A.length) : b8 (A ++ B) k = b8 A k := by
  unfold b8; rw [List.getD_eq_getElem?_getD, List.getD_eq_getElem?_getD, List.getElem?_append_left h]
theorem b8_app_r {A B : List UInt8} {a k : Nat} (ha : A.length = a) : b8 (A ++ B) (a + k) = b8 B k := by
  subst ha
  unfold b8; rw [List.getD_eq_getElem?_getD, List.getD_eq_getElem?_getD, List.getElem?_append_right (by omega), show A.length + k - A.length = k by omega]
theorem rd16_app_l {A B : List UInt8} {k : Nat} (h : k + 2 ≤ A.length) : rd16 (A ++ B) k = rd16 A k := by
  unfold rd16; rw [b8_app_l (by omega), b8_app_l (by omega)]
theorem rd16_app_r {A B : List UInt8} {a k : Nat} (ha : A.length = a) : rd16 (A ++ B) (a + k) = rd16 B k := by
  unfold rd16; rw [b8_app_r ha, show a + k + 1 = a + (k + 1) by omega, b8_app_r ha]
theorem rd32_app_l {A B : List UInt8} {k : Nat} (h : k + 4 ≤ A.length) : rd32 (A ++ B) k = rd32 A k := by
  unfold rd32; rw [rd16_app_l (by omega), rd16_app_l (by omega)]
theorem rd32_app_r {A B : List UInt8} {a k : Nat} (ha : A.length = a) : rd32 (A ++ B) (a + k) = rd32 B k := by
  unfold rd32; rw [rd16_app_r ha, show a + k + 2 = a + (k + 2) by omega, rd16_app_r ha]
theorem rd16_be {n : Int} (h0 : 0 ≤ n) (h1 : n < 65536) : rd16 (be16 n) 0 = n := by
  show (((n / 256 % 256).toNat.toUInt8).toNat : Int) * 256 + (((n % 256).toNat.toUInt8).toNat : Int) = n
  rw [u8_of _ (by omega) (by omega), u8_of _ (by omega) (by omega)]; omega
theorem rd32_be {n : Int} (h0 : 0 ≤ n) (h1 : n < 4294967296) : rd32 (be32 n) 0 = n := by
  unfold rd32 be32
  rw [rd16_app_l (by rw [be16_len]; exact Nat.le_refl _), rd16_app_r (a := 2) (k := 0) (be16_len _)]
  have e1 := rd16_be (n := n / 65536) (by omega) (by omega)
  have e2 : rd16 (be16 n) 0 = n % 65536 := by
    show (((n / 256 % 256).toNat.toUInt8).toNat : Int) * 256 + (((n % 256).toNat.toUInt8).toNat : Int) = _
    rw [u8_of _ (by omega) (by omega), u8_of _ (by omega) (by omega)]; omega
  rw [e1, e2]; omega
theorem part_app {A x B : List UInt8} {a z : Nat} (ha : A.length = a) (hz : z ≤ x.length) : part (A ++ (x ++ B)) a z = x.take z := by
  subst ha
  unfold part
  rw [List.take_length_add_append, List.drop_left, List.take_append_of_le_length hz]
theorem flat_split {α : Type} {g : α → List UInt8} {L : List α} {i : Nat} {a : α} (h : L[i]? = some a) : L.flatMap g = (L.take i).flatMap g ++ (g a ++ (L.drop (i + 1)).flatMap g) := by
  obtain ⟨hi, e⟩ := List.getElem?_eq_some_iff.mp h
  conv => lhs; rw [← List.take_append_drop i L]
  rw [List.flatMap_append, List.drop_eq_getElem_cons hi, e, List.flatMap_cons]
theorem flat_congr {α : Type} {g g' : α → List UInt8} : ∀ {l : List α}, (∀ x ∈ l, g x = g' x) → l.flatMap g = l.flatMap g'
  | [], _ => rfl
  | x :: r, h => by rw [List.flatMap_cons, List.flatMap_cons, h x (.head _), flat_congr fun y hy => h y (.tail _ hy)]

/-! sums -/
noncomputable def ls (l : List UInt8) : Int := lsum l l.length
theorem pw4_add {a k : Nat} (h : a % 4 = 0) : pw4 (a + k) = pw4 k := by unfold pw4; rw [show (a + k) % 4 = k % 4 by omega]
theorem lsum_app_l {A B : List UInt8} : ∀ {k : Nat}, k ≤ A.length → lsum (A ++ B) k = lsum A k
  | 0, _ => rfl
  | k + 1, h => by unfold lsum; rw [lsum_app_l (by omega), b8_app_l (by omega)]
theorem lsum_app_r {A B : List UInt8} (h : A.length % 4 = 0) : ∀ k : Nat, lsum (A ++ B) (A.length + k) = lsum A A.length + lsum B k
  | 0 => by rw [Nat.add_zero, lsum_app_l (Nat.le_refl _)]; show _ = _ + 0; omega
  | k + 1 => by
    show lsum (A ++ B) (A.length + k) + b8 (A ++ B) (A.length + k) * pw4 (A.length + k) = lsum A A.length + (lsum B k + b8 B k * pw4 k)
    rw [lsum_app_r h k, b8_app_r rfl, pw4_add h]; omega
theorem ls_app {A B : List UInt8} (h : A.length % 4 = 0) : ls (A ++ B) = ls A + ls B := by
  unfold ls; rw [List.length_append, lsum_app_r h]
theorem b8_zeros (n k : Nat) : b8 (List.replicate n 0) k = 0 := by
  unfold b8; rw [List.getD_eq_getElem?_getD, List.getElem?_replicate]; split <;> rfl
theorem lsum_zeros (n : Nat) : ∀ k, lsum (List.replicate n 0) k = 0
  | 0 => rfl
  | k + 1 => by unfold lsum; rw [lsum_zeros n k, b8_zeros]; omega
theorem lsum_pad {A : List UInt8} {n : Nat} : ∀ k : Nat, lsum (A ++ List.replicate n 0) (A.length + k) = lsum A A.length
  | 0 => lsum_app_l (Nat.le_refl _)
  | k + 1 => by
    show lsum (A ++ List.replicate n 0) (A.length + k) + b8 (A ++ List.replicate n 0) (A.length + k) * pw4 (A.length + k) = lsum A A.length
    rw [lsum_pad k, b8_app_r rfl, b8_zeros]; omega
theorem ls_fil (l : List UInt8) : ls (fil l) = ls l := by
  unfold ls fil
  rw [List.length_append]; exact lsum_pad _
theorem wsum_ls (m : List UInt8) : ∀ k, lsum m (4 * k) = wsum m k
  | 0 => rfl
  | k + 1 => by
    show lsum m (4 * k) + b8 m (4 * k) * pw4 (4 * k) + b8 m (4 * k + 1) * pw4 (4 * k + 1) + b8 m (4 * k + 2) * pw4 (4 * k + 2) + b8 m (4 * k + 3) * pw4 (4 * k + 3) = wsum m k + rd32 m (4 * k)
    rw [wsum_ls m k, pw4_add (show (4 * k) % 4 = 0 by omega), pw4_add (show (4 * k) % 4 = 0 by omega), pw4_add (show (4 * k) % 4 = 0 by omega), show 4 * k = 4 * k + 0 from rfl, pw4_add (show (4 * k) % 4 = 0 by omega), show pw4 0 = 16777216 from rfl, show pw4 1 = 65536 from rfl, show pw4 2 = 256 from rfl, show pw4 3 = 1 from rfl]
    unfold rd32 rd16
    simp only [Nat.add_zero, Nat.add_assoc, Nat.reduceAdd]
    omega
theorem sumO_ls (l : List UInt8) : sumO l = ls l % w32 := by
  unfold sumO
  rw [← ls_fil, ← wsum_ls]
  unfold ls
  rw [show 4 * ((fil l).length / 4) = (fil l).length by have := fil_mod l; omega]
theorem b8_set {l : List UInt8} {o i : Nat} {b : UInt8} (h : o < l.length) : b8 (l.set o b) i = if o = i then (b.toNat : Int) else b8 l i := by
  unfold b8
  rw [List.getD_eq_getElem?_getD, List.getD_eq_getElem?_getD, List.getElem?_set]
  by_cases e : o = i
  · subst e; rw [if_pos rfl, if_pos h, if_pos rfl]; rfl
  · rw [if_neg e, if_neg e]
theorem lsum_set {l : List UInt8} {o : Nat} {b : UInt8} (h : o < l.length) : ∀ k, lsum (l.set o b) k = lsum l k + if o < k then ((b.toNat : Int) - b8 l o) * pw4 o else 0
  | 0 => rfl
  | k + 1 => by
    unfold lsum
    rw [lsum_set h k, b8_set h]
    by_cases e : o = k
    · subst e
      rw [if_neg (by omega), if_pos rfl, if_pos (by omega)]
      rw [Int.sub_mul]; omega
    · rw [if_neg e]
      by_cases e2 : o < k
      · rw [if_pos e2, if_pos (by omega)]; omega
      · rw [if_neg e2, if_neg (by omega)]; omega
theorem pw4_of (i : Nat) : pw4 i = 16777216 ∨ pw4 i = 65536 ∨ pw4 i = 256 ∨ pw4 i = 1 := by unfold pw4; (repeat' split) <;> omega
theorem sum_set {l : List UInt8} {o : Nat} {b : UInt8} (h : o < l.length) (hb : (b.toNat : Int) ≠ b8 l o) : sumO (l.set o b) ≠ sumO l := by
  rw [sumO_ls, sumO_ls]
  unfold ls w32
  rw [List.length_set, lsum_set h, if_pos h]
  have h1 := b8_0 l o
  have h2 : (b.toNat : Int) < 256 := by have := b.toNat_lt; omega
  generalize lsum l l.length = x
  rcases pw4_of o with e | e | e | e <;> rw [e] <;> omega
theorem plainH_set {l : List UInt8} {o : Nat} {b : UInt8} (h8 : o < 8) (h : 8 ≤ l.length) : plainH (l.set o b) = (plainH l).set o b := by
  unfold plainH
  have hl : (l.take 8).length = 8 := by rw [List.length_take]; omega
  rw [List.set_append_left _ _ (by rw [List.length_append, hl]; omega), List.set_append_left _ _ (by omega), List.take_set, List.drop_set_of_lt (by omega)]
theorem plainH_adj {l z : List UInt8} (h : 12 ≤ l.length) (hz : z.length = 4) : plainH (l.take 8 ++ z ++ l.drop 12) = plainH l := by
  unfold plainH
  have hl : (l.take 8).length = 8 := by rw [List.length_take]; omega
  have e1 : (l.take 8 ++ z ++ l.drop 12).take 8 = l.take 8 := by rw [List.append_assoc, List.take_append_of_le_length (by omega), List.take_of_length_le (by omega)]
  have e2 : (l.take 8 ++ z ++ l.drop 12).drop 12 = l.drop 12 := List.drop_left' (by rw [List.length_append, hl, hz])
  rw [e1, e2]
theorem plainH_len {l : List UInt8} (h : 12 ≤ l.length) : (plainH l).length = l.length := by
  unfold plainH; rw [List.length_append, List.length_append, List.length_take, List.length_replicate, List.length_drop]; omega

/-! the shapes that the tables may have -/
noncomputable def headS : Str := Str.ofString "head"
noncomputable def tags5 : List Str := tags4 ++ [headS]
noncomputable def shapes : List (List Str) := [1, 2, 3, 4].map tags4.take ++ [1, 2, 3, 4].map fun n => tags4.take n ++ [headS]
theorem TbOk.shape {tb : Tb} (h : TbOk tb) : keysT tb ∈ shapes := by
  obtain ⟨⟨n, h⟩, _⟩ := h
  rcases h with ⟨h1, h2, e⟩ | ⟨h1, h2, e⟩ <;> rw [e] <;> (have hn : n = 1 ∨ n = 2 ∨ n = 3 ∨ n = 4 := by omega) <;> rcases hn with rfl | rfl | rfl | rfl <;> decide +kernel
theorem sh_len : ∀ ks ∈ shapes, 1 ≤ ks.length ∧ ks.length ≤ 5 := by decide +kernel
theorem sh_nodup : ∀ ks ∈ shapes, ks.Nodup := by decide +kernel
theorem sh_tags : ∀ ks ∈ shapes, ∀ k ∈ ks, k ∈ tags5 := by decide +kernel
theorem sh_pnd : ∀ ks ∈ shapes, (ks.map padK).Nodup := by decide +kernel
theorem sh_sort : ∀ ks ∈ shapes, sortS (ks.map padK) = (sortS ks).map padK := by decide +kernel
theorem t_ok : ∀ k ∈ tags5, 1 ≤ k.length ∧ k.length ≤ 4 ∧ ∀ c ∈ k.cps, 32 ≤ c ∧ c ≤ 126 := by decide +kernel
theorem t_pad : ∀ k ∈ tags5, padK k = padS k := by decide +kernel
theorem t_psz : ∀ k ∈ tags5, (padK k).cps.size ≤ 4 ∧ ∀ c ∈ (padK k).cps, c < 256 := by decide +kernel
theorem t_str : ∀ k ∈ tags5, strOf (octS (padS k)) = padS k := by decide +kernel
theorem t_head : ∀ k ∈ tags5, (padS k == headS) = (k == headS) := by decide +kernel
theorem t_signs : ∀ k ∈ tags5, ∀ j, j < 4 → 32 ≤ b8 (octS (padS k)) j ∧ b8 (octS (padS k)) j ≤ 126 := by decide +kernel
theorem hdr_head : ∀ n, 1 ≤ n → n ≤ 5 → hdrO n = headO n := fun n h1 h5 => by
  have hn : n = 1 ∨ n = 2 ∨ n = 3 ∨ n = 4 ∨ n = 5 := by omega
  rcases hn with rfl | rfl | rfl | rfl | rfl <;> decide +kernel

/-- all that the plain facts need of the tables -/
structure Fine (tb : Tb) : Prop where
  g : Gd tb
  sh : keysT tb ∈ shapes
  sz : ∀ q ∈ tb, q.2.length ≤ 18
  hd : headS ∈ keysT tb → 12 ≤ (lk tb headS).length
theorem TbOk.fine {tb : Tb} (h : TbOk tb) : Fine tb := by
  have hs := h.shape
  obtain ⟨_, h2, h3⟩ := h
  have hl : (keysT tb).length = tb.length := List.length_map ..
  refine ⟨⟨by have := (sh_len _ hs).1; omega, by have := (sh_len _ hs).2; omega, fun q hq => t_ok _ (sh_tags _ hs _ (List.mem_map.mpr ⟨q, hq, rfl⟩)), fun q hq => by have := h2 q hq; omega, sh_nodup _ hs⟩, hs, h2, fun hm => h3 _ (lk_mem hm) rfl⟩
theorem Fine.t5 {tb : Tb} (F : Fine tb) {tag : Str} (h : tag ∈ keysT tb) : tag ∈ tags5 := sh_tags _ F.sh _ h
theorem Fine.at5 {tb : Tb} (F : Fine tb) {i : Nat} {tag : Str} (h : (srt tb)[i]? = some tag) : tag ∈ tags5 := F.t5 (srt_mem.mp (List.mem_of_getElem? h))
theorem plT_pad {tag : Str} (h : tag ∈ tags5) (l : List UInt8) : plT (padS tag) l = plT tag l := by
  have := t_head tag h
  unfold headS at this
  unfold plT; rw [this]
theorem at_lt {tb : Tb} {i : Nat} {tag : Str} (h : (srt tb)[i]? = some tag) : i < tb.length := by rw [← srt_len tb]; exact (List.getElem?_eq_some_iff.mp h).1

/-- octets that are the told directory, and tables of the told lengths behind it -/
structure Vw (f : List UInt8) (tb : Tb) (X : Str → List UInt8) : Prop where
  eq : f = dirO tb (plOf tb) ++ (srt tb).flatMap fun tag => fil (X tag)
  len : ∀ tag ∈ keysT tb, (X tag).length = (lk tb tag).length
theorem fil_len_eq {a b : List UInt8} (h : a.length = b.length) : (fil a).length = (fil b).length := by rw [fil_len, fil_len, h]
theorem fl_len {tb : Tb} {X : Str → List UInt8} : ∀ {L : List Str}, (∀ tag ∈ L, (X tag).length = (lk tb tag).length) → (L.flatMap fun tag => fil (X tag)).length = (L.map (flen tb)).sum
  | [], _ => rfl
  | x :: r, h => by
    rw [List.flatMap_cons, List.length_append, fl_len fun y hy => h y (.tail _ hy), List.map_cons, List.sum_cons, fil_len_eq (h x (.head _))]; rfl
section
variable {f : List UInt8} {tb : Tb} {X : Str → List UInt8}
theorem Vw.pre (V : Vw f tb X) (F : Fine tb) (i : Nat) : (dirO tb (plOf tb) ++ ((srt tb).take i).flatMap fun tag => fil (X tag)).length = pos tb i := by
  rw [List.length_append, fl_len fun tag ht => V.len tag (srt_mem.mp (List.mem_of_mem_take ht))]
  unfold dirO
  rw [dirN_len F.g _ (Nat.le_refl _)]; rfl
/-- the octets, split at a table -/
theorem Vw.cut (V : Vw f tb X) {i : Nat} {tag : Str} (h : (srt tb)[i]? = some tag) : f = (dirO tb (plOf tb) ++ ((srt tb).take i).flatMap fun tag => fil (X tag)) ++ (fil (X tag) ++ ((srt tb).drop (i + 1)).flatMap fun tag => fil (X tag)) := by
  rw [V.eq, flat_split h, List.append_assoc]
/-- the octets, split at a row of the directory -/
theorem Vw.row (V : Vw f tb X) (F : Fine tb) {i : Nat} {tag : Str} (h : (srt tb)[i]? = some tag) : ∃ A B, f = A ++ (rowO tb (plOf tb) tag ++ B) ∧ A.length = 12 + 16 * i := by
  refine ⟨hdrO tb.length ++ ((srt tb).take i).flatMap (rowO tb (plOf tb)), ((srt tb).drop (i + 1)).flatMap (rowO tb (plOf tb)) ++ (srt tb).flatMap fun tag => fil (X tag), ?_, dirN_len F.g (plOf tb) (Nat.le_of_lt (at_lt h))⟩
  rw [V.eq]
  unfold dirO dirN
  rw [show sortS (keysT tb) = srt tb from rfl, ← srt_len tb, List.take_length, flat_split h]
  simp only [List.append_assoc]
theorem Vw.length (V : Vw f tb X) (F : Fine tb) : f.length = pos tb tb.length := by
  rw [← V.pre F tb.length, ← srt_len tb, List.take_length, ← V.eq]
theorem Vw.le (V : Vw f tb X) (F : Fine tb) : f.length ≤ 1000 := by rw [V.length F]; exact pos_le F.g _ (Nat.le_refl _)
theorem Vw.head (V : Vw f tb X) (F : Fine tb) : ∃ B, f = hdrO tb.length ++ B := ⟨_, by rw [V.eq]; unfold dirO dirN; rw [List.append_assoc]⟩
theorem rowO_cut {tag : Str} (h4 : tag.length ≤ 4) {pl : Str → Int} (hp : 0 ≤ pl tag ∧ pl tag < 4294967296) (hl : (lk tb tag).length ≤ 100) :
    (rowO tb pl tag).take 4 = octS (padS tag) ∧ rd32 (rowO tb pl tag) 4 = sumT tag (lk tb tag) ∧ rd32 (rowO tb pl tag) 8 = pl tag ∧ rd32 (rowO tb pl tag) 12 = (lk tb tag).length := by
  have ho := octP_len h4
  have hs := sumT_b tag (lk tb tag)
  unfold rowO
  refine ⟨?_, ?_, ?_, ?_⟩
  · rw [List.append_assoc, List.append_assoc, List.take_left' ho]
  · rw [List.append_assoc, List.append_assoc, show (4 : Nat) = 4 + 0 from rfl, rd32_app_r ho, rd32_app_l (by rw [be32_len]; omega), rd32_be hs.1 hs.2]
  · rw [List.append_assoc, show (8 : Nat) = 8 + 0 from rfl, rd32_app_r (a := 8) (by rw [List.length_append, ho, be32_len]), rd32_app_l (by rw [be32_len]; omega), rd32_be hp.1 hp.2]
  · rw [show (12 : Nat) = 12 + 0 from rfl, rd32_app_r (a := 12) (by rw [List.length_append, List.length_append, ho, be32_len, be32_len]), rd32_be (by omega) (by omega)]
/-- what stands in a row -/
theorem Vw.told (V : Vw f tb X) (F : Fine tb) {i : Nat} {tag : Str} (h : (srt tb)[i]? = some tag) :
    part f (12 + 16 * i) 4 = octS (padS tag) ∧ rd32 f (12 + 16 * i + 4) = sumT tag (lk tb tag) ∧ rd32 f (12 + 16 * i + 8) = pos tb i ∧ rd32 f (12 + 16 * i + 12) = (lk tb tag).length := by
  obtain ⟨A, B, e, hA⟩ := V.row F h
  have hm := srt_mem.mp (List.mem_of_getElem? h)
  have h4 := (t_ok tag (F.t5 hm)).2.1
  have hp := pos_le F.g i (Nat.le_of_lt (at_lt h))
  have hr : (rowO tb (plOf tb) tag).length = 16 := rowO_len h4
  obtain ⟨c1, c2, c3, c4⟩ := rowO_cut (tb := tb) (pl := plOf tb) h4 (by rw [plOf_at F.g h]; omega) (F.g.size _ (lk_mem hm))
  rw [e]
  refine ⟨?_, ?_, ?_, ?_⟩
  · rw [part_app hA (by omega), c1]
  · rw [rd32_app_r hA, rd32_app_l (by omega), c2]
  · rw [rd32_app_r hA, rd32_app_l (by omega), c3, plOf_at F.g h]
  · rw [rd32_app_r hA, rd32_app_l (by omega), c4]
theorem Vw.body (V : Vw f tb X) (F : Fine tb) {i : Nat} {tag : Str} (h : (srt tb)[i]? = some tag) : part f (pos tb i) (lk tb tag).length = X tag := by
  have hl := V.len tag (srt_mem.mp (List.mem_of_getElem? h))
  conv => lhs; rw [V.cut h]
  rw [part_app (V.pre F i) (by rw [fil_len]; omega), ← hl]
  unfold fil
  rw [List.take_left' rfl]
theorem Vw.rowAt (V : Vw f tb X) (F : Fine tb) {i : Nat} {tag : Str} (h : (srt tb)[i]? = some tag) : rowAt f i = (padS tag, sumT tag (lk tb tag), (pos tb i : Int), ((lk tb tag).length : Int)) := by
  obtain ⟨c1, c2, c3, c4⟩ := V.told F h
  unfold Mine.rowAt
  rw [c1, c2, c3, c4, t_str _ (F.at5 h)]
theorem pos_mono (i : Nat) : pos tb i ≤ pos tb (i + 1) := by
  cases h : (srt tb)[i]? with
  | some tag => rw [pos_succ h]; omega
  | none =>
    have hl : (srt tb).length ≤ i := by simpa using h
    unfold pos; rw [List.take_of_length_le hl, List.take_of_length_le (by omega)]; omega
theorem pos_mono' {i j : Nat} (h : i ≤ j) : pos tb i ≤ pos tb j := by
  induction h with
  | refl => exact Nat.le_refl _
  | step _ ih => exact Nat.le_trans ih (pos_mono _)
theorem Vw.dir (V : Vw f tb X) (F : Fine tb) : Dir f tb.length := by
  have hle := V.le F
  have h1 := F.g.one
  have h5 := F.g.five
  obtain ⟨B, hB⟩ := V.head F
  have hat : ∀ i, i < tb.length → ∃ tag, (srt tb)[i]? = some tag := fun i hi => ⟨_, List.getElem?_eq_getElem (by rw [srt_len]; exact hi)⟩
  refine ⟨?_, ?_, by omega, by omega, ?_, ?_, ?_⟩
  · rw [hB, rd32_app_l (by rw [hdrO_len]; omega)]
    unfold hdrO
    simp only [List.append_assoc]
    rw [rd32_app_l (by rw [be32_len]; omega), rd32_be (by omega) (by omega)]
  · rw [hB, rd16_app_l (by rw [hdrO_len]; omega)]
    unfold hdrO
    simp only [List.append_assoc]
    rw [show (4 : Nat) = 4 + 0 from rfl, rd16_app_r (be32_len _), rd16_app_l (by rw [be16_len]; omega), rd16_be (by omega) (by omega)]
  · rw [V.length F]; unfold pos; omega
  · intro i hi j hj
    obtain ⟨tag, h⟩ := hat i hi
    rw [(V.told F h).1]
    exact t_signs _ (F.at5 h) j hj
  · intro i hi
    obtain ⟨tag, h⟩ := hat i hi
    rw [(V.told F h).2.2.1, (V.told F h).2.2.2]
    have e := pos_succ h
    have hm := pos_mono' (tb := tb) (show i + 1 ≤ tb.length from hi)
    unfold flen at e
    rw [fil_len] at e
    rw [V.length F]; omega
theorem pos_four (F : Fine tb) : ∀ i, i ≤ tb.length → pos tb i % 4 = 0
  | 0, _ => by unfold pos; rw [List.take_zero, List.map_nil, List.sum_nil]; omega
  | i + 1, h => by
    have hi : i < (srt tb).length := by rw [srt_len]; exact h
    rw [pos_succ (List.getElem?_eq_getElem hi)]
    have := pos_four F i (by omega)
    have := fil_mod (lk tb (srt tb)[i])
    unfold flen; omega
end

/-! the font is such octets -/
noncomputable def bd (tb : Tb) (tag : Str) : List UInt8 := if tag = headS then (lk tb tag).take 8 ++ be32 (adjO tb) ++ (lk tb tag).drop 12 else lk tb tag
noncomputable def padZ (l : List UInt8) : List UInt8 := List.replicate ((4 - l.length % 4) % 4) 0
theorem take8 {l : List UInt8} (h : 12 ≤ l.length) : (l.take 8).length = 8 := by rw [List.length_take]; omega
theorem bd_len {tb : Tb} (F : Fine tb) {tag : Str} (hm : tag ∈ keysT tb) : (bd tb tag).length = (lk tb tag).length := by
  unfold bd
  split
  · rename_i e; subst e
    have := F.hd hm
    rw [List.length_append, List.length_append, take8 this, be32_len, List.length_drop]; omega
  · rfl
theorem head_cut {A B l : List UInt8} {p : Nat} (hA : A.length = p) (hl : 12 ≤ l.length) :
    (A ++ (fil (plainH l) ++ B)).take (p + 8) = A ++ l.take 8 ∧ (A ++ (fil (plainH l) ++ B)).drop (p + 12) = l.drop 12 ++ (padZ l ++ B) ∧
    A ++ (fil (plainH l) ++ B) = (A ++ l.take 8) ++ (List.replicate 4 0 ++ (l.drop 12 ++ (padZ l ++ B))) := by
  have e : A ++ (fil (plainH l) ++ B) = (A ++ l.take 8) ++ (List.replicate 4 0 ++ (l.drop 12 ++ (padZ l ++ B))) := by
    unfold fil padZ
    rw [plainH_len hl]
    unfold plainH
    simp only [List.append_assoc]
  have h8 : (A ++ l.take 8).length = p + 8 := by rw [List.length_append, take8 hl, hA]
  refine ⟨?_, ?_, e⟩
  · rw [e, List.take_left' h8]
  · rw [e, ← List.append_assoc, List.drop_left' (by rw [List.length_append, h8, List.length_replicate])]
theorem fil_set {l : List UInt8} {o : Nat} {b : UInt8} (h : o < l.length) : (fil l).set o b = fil (l.set o b) := by
  unfold fil; rw [List.set_append_left _ _ h, List.length_set]
theorem not_in_drop {ts : List Str} (hn : ts.Nodup) {i : Nat} {tag : Str} (h : ts[i]? = some tag) : tag ∉ ts.drop (i + 1) := by
  obtain ⟨hi, e⟩ := List.getElem?_eq_some_iff.mp h
  have hd : (ts.drop i).Nodup := hn.sublist (List.drop_sublist ..)
  rw [List.drop_eq_getElem_cons hi, e] at hd
  exact (List.nodup_cons.mp hd).1
section
variable {tb : Tb}
noncomputable def bodyG (tb : Tb) (tag : Str) : List UInt8 := fil (plT tag (lk tb tag))
theorem bodyO_eq (tb : Tb) : bodyO tb = dirO tb (plOf tb) ++ (srt tb).flatMap (bodyG tb) := by
  unfold bodyO bodyN
  rw [← srt_len tb, List.take_length]; rfl
theorem bodyG_eq {tag : Str} (h : tag ≠ headS) : bodyG tb tag = fil (bd tb tag) := by
  unfold bodyG bd plT
  rw [if_neg h, if_neg (by rw [beq_iff_eq]; exact h)]
/-- where the head lies -/
theorem headAt (F : Fine tb) (hh : headS ∈ keysT tb) : ∃ A B j, (srt tb)[j]? = some headS ∧ A.length = pos tb j ∧ bodyO tb = A ++ (fil (plainH (lk tb headS)) ++ B) ∧
    dirO tb (plOf tb) ++ ((srt tb).flatMap fun tag => fil (bd tb tag)) = A ++ (fil (bd tb headS) ++ B) := by
  obtain ⟨j, h⟩ := List.getElem?_of_mem (srt_mem.mpr hh)
  have hn := srt_nodup F.g
  have e1 : ((srt tb).take j).flatMap (bodyG tb) = ((srt tb).take j).flatMap fun tag => fil (bd tb tag) := flat_congr fun t ht => bodyG_eq fun e => not_in_take hn h (e ▸ ht)
  have e2 : ((srt tb).drop (j + 1)).flatMap (bodyG tb) = ((srt tb).drop (j + 1)).flatMap fun tag => fil (bd tb tag) := flat_congr fun t ht => bodyG_eq fun e => not_in_drop hn h (e ▸ ht)
  refine ⟨dirO tb (plOf tb) ++ ((srt tb).take j).flatMap fun tag => fil (bd tb tag), ((srt tb).drop (j + 1)).flatMap fun tag => fil (bd tb tag), j, h, ?_, ?_, ?_⟩
  · rw [List.length_append, fl_len fun tag ht => bd_len F (srt_mem.mp (List.mem_of_mem_take ht))]
    unfold dirO
    rw [dirN_len F.g _ (Nat.le_refl _)]; rfl
  · rw [bodyO_eq, flat_split h, e1, e2, List.append_assoc]; rfl
  · rw [flat_split h, List.append_assoc]
theorem fontO_head (hh : headS ∈ keysT tb) : fontO tb = (bodyO tb).take ((plOf tb headS).toNat + 8) ++ be32 (adjO tb) ++ (bodyO tb).drop ((plOf tb headS).toNat + 12) := by
  unfold fontO; exact if_pos (List.contains_iff_mem.mpr hh)
theorem fontO_none (hh : headS ∉ keysT tb) : fontO tb = bodyO tb := by
  unfold fontO; exact if_neg fun q => hh (List.contains_iff_mem.mp q)
theorem font_vw (F : Fine tb) : Vw (fontO tb) tb (bd tb) := by
  refine ⟨?_, fun tag ht => bd_len F ht⟩
  by_cases hh : headS ∈ keysT tb
  · obtain ⟨A, B, j, h, hA, e1, e2⟩ := headAt F hh
    obtain ⟨c1, c2, _⟩ := head_cut (B := B) hA (F.hd hh)
    rw [fontO_head hh, e2, plOf_at F.g h, Int.toNat_natCast, e1, c1, c2]
    unfold bd
    rw [if_pos rfl]
    unfold fil padZ
    have := F.hd hh
    rw [show ((lk tb headS).take 8 ++ be32 (adjO tb) ++ (lk tb headS).drop 12).length = (lk tb headS).length by rw [List.length_append, List.length_append, take8 this, be32_len, List.length_drop]; omega]
    simp only [List.append_assoc]
  · rw [fontO_none hh, bodyO_eq]
    congr 1
    exact flat_congr fun t ht => bodyG_eq fun e => hh (e ▸ srt_mem.mp ht)
theorem ls_be32 {n : Int} (h0 : 0 ≤ n) (h1 : n < 4294967296) : ls (be32 n) = n := by
  have := rd32_be h0 h1
  unfold rd32 rd16 at this
  show 0 + b8 (be32 n) 0 * 16777216 + b8 (be32 n) 1 * 65536 + b8 (be32 n) 2 * 256 + b8 (be32 n) 3 * 1 = n
  simp only [Nat.reduceAdd] at this
  omega
/-- the sum of the whole font -/
theorem font_sum (F : Fine tb) (hh : headS ∈ keysT tb) : sumO (fontO tb) = 2981146554 := by
  obtain ⟨A, B, j, h, hA, e1, _⟩ := headAt F hh
  obtain ⟨c1, c2, c3⟩ := head_cut (B := B) hA (F.hd hh)
  have h8 : (A ++ (lk tb headS).take 8).length % 4 = 0 := by
    have := pos_four F j (Nat.le_of_lt (at_lt h))
    rw [List.length_append, take8 (F.hd hh), hA]; omega
  have ha : 0 ≤ adjO tb ∧ adjO tb < 4294967296 := by unfold adjO; omega
  have e : fontO tb = (A ++ (lk tb headS).take 8) ++ (be32 (adjO tb) ++ ((lk tb headS).drop 12 ++ (padZ (lk tb headS) ++ B))) := by
    rw [fontO_head hh, plOf_at F.g h, Int.toNat_natCast, e1, c1, c2]
    simp only [List.append_assoc]
  have s1 : ls (fontO tb) = ls (A ++ (lk tb headS).take 8) + (adjO tb + ls ((lk tb headS).drop 12 ++ (padZ (lk tb headS) ++ B))) := by
    rw [e, ls_app h8, ls_app (A := be32 (adjO tb)) (by rw [be32_len]), ls_be32 ha.1 ha.2]
  have s2 : ls (bodyO tb) = ls (A ++ (lk tb headS).take 8) + ls ((lk tb headS).drop 12 ++ (padZ (lk tb headS) ++ B)) := by
    rw [e1, c3, ls_app h8, ls_app (A := List.replicate 4 0) (by rw [List.length_replicate])]
    have : ls (List.replicate 4 0) = 0 := lsum_zeros 4 _
    rw [this]; omega
  have e3 : adjO tb = (2981146554 - ls (bodyO tb) % 4294967296) % 4294967296 := by unfold adjO; rw [sumO_ls]; rfl
  rw [sumO_ls, s1, e3, s2]
  unfold w32
  omega
theorem plT_bd (F : Fine tb) {tag : Str} (hm : tag ∈ keysT tb) : plT tag (bd tb tag) = plT tag (lk tb tag) := by
  unfold bd
  split
  · rename_i e; subst e
    show plainH _ = plainH _
    exact plainH_adj (F.hd hm) (be32_len _)
  · rfl
theorem sumT_bd (F : Fine tb) {tag : Str} (hm : tag ∈ keysT tb) : sumT tag (bd tb tag) = sumT tag (lk tb tag) := by unfold sumT; rw [plT_bd F hm]
/-- the law's questions of the directory, answered -/
theorem font_right (F : Fine tb) : Right (fontO tb) tb := by
  have V := font_vw F
  have hm : ∀ {i tag}, (srt tb)[i]? = some tag → tag ∈ keysT tb := fun h => srt_mem.mp (List.mem_of_getElem? h)
  refine ⟨by have := V.le F; omega, sh_pnd _ F.sh, fun k hk => t_psz _ (F.t5 hk), sh_sort _ F.sh, fun i tag h => ?_, fun i tag h => (V.told F h).2.2.1, fun i tag h => (V.told F h).2.2.2, fun i tag h => ?_, fun i tag h => ?_, fun i tag h => ?_, fun i hi => pos_four F i hi, (V.length F).symm, ?_⟩
  · rw [t_pad _ (F.at5 h)]; exact (V.told F h).1
  · have := V.body F h
    unfold part at this
    rw [this, plT_bd F (hm h)]
  · rw [(V.told F h).2.1]
    unfold sumT
    rw [sumO_ls]; rfl
  · have hl := V.len tag (hm h)
    have hp := pos_succ h
    unfold flen at hp
    have hA := V.pre F i
    rw [V.cut h, hp]
    generalize (dirO tb (plOf tb) ++ ((srt tb).take i).flatMap fun tag => fil (bd tb tag)) = A at hA
    generalize (((srt tb).drop (i + 1)).flatMap fun tag => fil (bd tb tag)) = B
    generalize bd tb tag = x at hl
    have e : A ++ (fil x ++ B) = ((A ++ x) ++ padZ x) ++ B := by unfold fil padZ; simp only [List.append_assoc]
    have hz : (padZ x).length = (4 - (lk tb tag).length % 4) % 4 := by unfold padZ; rw [List.length_replicate, hl]
    rw [e, fil_len, List.take_left' (by rw [List.length_append, List.length_append, hz]; omega), List.drop_left' (by rw [List.length_append]; omega)]
    unfold padZ
    rw [hl]
    congr 1
    omega
  · obtain ⟨B, hB⟩ := V.head F
    rw [hB, List.take_left' (hdrO_len _), hdr_head _ F.g.one F.g.five]
end

/-! what is read of the font -/
section
variable {f : List UInt8} {tb : Tb} {X : Str → List UInt8}
theorem sat {tb : Tb} {i : Nat} (hi : i < tb.length) : ∃ tag, (srt tb)[i]? = some tag := ⟨_, List.getElem?_eq_getElem (by rw [srt_len]; exact hi)⟩
noncomputable def rw4 (tb : Tb) (tag : Str) : Row4 := (padS tag, sumT tag (lk tb tag), plOf tb tag, ((lk tb tag).length : Int))
theorem Vw.rows (V : Vw f tb X) (F : Fine tb) : rowsOf f tb.length = (srt tb).map (rw4 tb) := by
  apply List.ext_getElem?
  intro i
  unfold rowsOf
  rw [List.getElem?_map, List.getElem?_map]
  by_cases hi : i < tb.length
  · obtain ⟨tag, h⟩ := sat hi
    rw [h, List.getElem?_range hi, Option.map_some, Option.map_some, V.rowAt F h]
    unfold rw4
    rw [plOf_at F.g h]
  · rw [List.getElem?_eq_none (by rw [List.length_range]; omega), List.getElem?_eq_none (by rw [srt_len]; omega)]; rfl
theorem Vw.part (V : Vw f tb X) (F : Fine tb) {tag : Str} (h : tag ∈ srt tb) : part f (plOf tb tag).toNat ((lk tb tag).length : Int).toNat = X tag := by
  obtain ⟨i, hi⟩ := List.getElem?_of_mem h
  rw [plOf_at F.g hi, Int.toNat_natCast, Int.toNat_natCast]
  exact V.body F hi
theorem Vw.tbOf (V : Vw f tb X) (F : Fine tb) : tbOf f tb.length = (srt tb).map fun tag => (padS tag, X tag) := by
  unfold Mine.tbOf
  rw [V.rows F, List.map_map]
  refine List.map_congr_left fun tag h => ?_
  show (padS tag, Mine.part f (plOf tb tag).toNat ((lk tb tag).length : Int).toNat) = _
  rw [V.part F h]
theorem pad_map (F : Fine tb) : (srt tb).map padS = sortS ((keysT tb).map padK) := by
  rw [sh_sort _ F.sh]
  exact (List.map_congr_left fun tag h => t_pad _ (F.t5 (srt_mem.mp h))).symm
theorem pad_nodup (F : Fine tb) : ((srt tb).map padS).Nodup := by
  rw [pad_map F]
  exact (sortS_perm _).nodup_iff.mpr (sh_pnd _ F.sh)
theorem Vw.nodup (V : Vw f tb X) (F : Fine tb) : (keysT (Mine.tbOf f tb.length)).Nodup := by
  rw [V.tbOf F]
  unfold keysT
  rw [List.map_map]
  exact pad_nodup F
theorem Vw.look (V : Vw f tb X) (F : Fine tb) {tag : Str} (h : tag ∈ keysT tb) : padS tag ∈ keysT (Mine.tbOf f tb.length) ∧ lk (Mine.tbOf f tb.length) (padS tag) = X tag := by
  have hn := V.nodup F
  have hm : (padS tag, X tag) ∈ Mine.tbOf f tb.length := by rw [V.tbOf F]; exact List.mem_map.mpr ⟨tag, srt_mem.mpr h, rfl⟩
  have hk : padS tag ∈ keysT (Mine.tbOf f tb.length) := List.mem_map.mpr ⟨_, hm, rfl⟩
  exact ⟨hk, key_uniq hn (lk_mem hk) hm⟩
theorem Vw.hasH (V : Vw f tb X) (F : Fine tb) : hasH f tb.length = (keysT tb).contains headS := by
  unfold Mine.hasH
  rw [V.rows F, List.any_map, Bool.eq_iff_iff, List.contains_iff_mem, List.any_eq_true]
  constructor
  · rintro ⟨t, ht, e⟩
    have e' : (padS t == headS) = true := e
    rw [t_head _ (F.t5 (srt_mem.mp ht)), beq_iff_eq] at e'
    rw [← e']; exact srt_mem.mp ht
  · intro h
    exact ⟨headS, srt_mem.mpr h, show (padS headS == Str.ofString "head") = true by decide +kernel⟩
theorem Vw.badS (V : Vw f tb X) (F : Fine tb) : badS f tb.length = ((srt tb).filter fun tag => !decide (sumT tag (X tag) = sumT tag (lk tb tag))).map padS := by
  unfold Mine.badS
  rw [V.rows F, List.filter_map, List.map_map]
  have e : (srt tb).filter (badR f ∘ rw4 tb) = (srt tb).filter fun tag => !decide (sumT tag (X tag) = sumT tag (lk tb tag)) := by
    refine List.filter_congr fun tag h => ?_
    show (!decide (sumT (padS tag) (Mine.part f (plOf tb tag).toNat ((lk tb tag).length : Int).toNat) = sumT tag (lk tb tag))) = _
    rw [V.part F h]
    unfold sumT
    rw [plT_pad (F.t5 (srt_mem.mp h))]
  rw [e]; rfl
theorem font_wrong (F : Fine tb) : wrongS (fontO tb) tb.length = [] := by
  have V := font_vw F
  have e : (srt tb).filter (fun tag => !decide (sumT tag (bd tb tag) = sumT tag (lk tb tag))) = [] := List.filter_eq_nil_iff.mpr fun tag h => by
    rw [decide_eq_true (sumT_bd F (srt_mem.mp h))]; decide
  unfold wrongS
  rw [V.badS F, e, V.hasH F]
  by_cases hh : headS ∈ keysT tb
  · rw [font_sum F hh, if_neg (by simp)]; rfl
  · rw [if_neg (by simp [hh])]; rfl

/-- one octet changed -/
theorem Vw.set (V : Vw f tb X) (F : Fine tb) {j o : Nat} {t : Str} {b : UInt8} (h : (srt tb)[j]? = some t) (ho : o < (lk tb t).length) : Vw (f.set (pos tb j + o) b) tb (fun tag => if tag = t then (X tag).set o b else X tag) := by
  have hn := srt_nodup F.g
  refine ⟨?_, fun tag ht => by
    split
    · rw [List.length_set]; exact V.len tag ht
    · exact V.len tag ht⟩
  have hA := V.pre F j
  have hx := V.len t (srt_mem.mp (List.mem_of_getElem? h))
  have e1 : (((srt tb).take j).flatMap fun tag => fil (if tag = t then (X tag).set o b else X tag)) = ((srt tb).take j).flatMap fun tag => fil (X tag) := flat_congr fun y hy => by rw [if_neg fun (e : y = t) => not_in_take hn h (e ▸ hy)]
  have e2 : (((srt tb).drop (j + 1)).flatMap fun tag => fil (if tag = t then (X tag).set o b else X tag)) = ((srt tb).drop (j + 1)).flatMap fun tag => fil (X tag) := flat_congr fun y hy => by rw [if_neg fun (e : y = t) => not_in_drop hn h (e ▸ hy)]
  rw [flat_split (g := fun tag => fil (if tag = t then (X tag).set o b else X tag)) h, e1, e2, if_pos rfl]
  rw [V.cut h, List.set_append_right _ _ (by rw [hA]; omega), hA, show pos tb j + o - pos tb j = o by omega, List.set_append_left _ _ (by rw [fil_len]; omega), fil_set (by omega), List.append_assoc]
theorem Vw.byte (V : Vw f tb X) (F : Fine tb) {j o : Nat} {t : Str} (h : (srt tb)[j]? = some t) (ho : o < (lk tb t).length) : b8 f (pos tb j + o) = b8 (X t) o := by
  have hx := V.len t (srt_mem.mp (List.mem_of_getElem? h))
  rw [V.cut h, b8_app_r (V.pre F j), b8_app_l (by rw [fil_len]; omega)]
  unfold fil
  rw [b8_app_l (by omega)]
theorem filter_one : ∀ {L : List Str}, L.Nodup → ∀ {t : Str}, t ∈ L → L.filter (fun x => decide (x = t)) = [t]
  | y :: r, hn, t, h => by
    rw [List.filter_cons]
    by_cases e : y = t
    · subst e
      have e : r.filter (fun x => decide (x = y)) = [] := List.filter_eq_nil_iff.mpr fun z hz q => (List.nodup_cons.mp hn).1 ((of_decide_eq_true q) ▸ hz)
      rw [if_pos (by simp), e]
    · rw [if_neg (by simp [e])]
      exact filter_one (List.nodup_cons.mp hn).2 ((List.mem_cons.mp h).resolve_left fun q => e q.symm)
/-- what wrong_sums tells of the changed font -/
theorem spoilt_wrong (F : Fine tb) {j o : Nat} {t : Str} {b : UInt8} (h : (srt tb)[j]? = some t) (ho : o < (lk tb t).length) (h8 : t = headS → o < 8) (hb : (b.toNat : Int) ≠ b8 (fontO tb) (pos tb j + o)) :
    wrongS ((fontO tb).set (pos tb j + o) b) tb.length = (if headS ∈ keysT tb then [Str.ofString ""] else []) ++ [padS t] := by
  have V := font_vw F
  have V' := V.set F (b := b) h ho
  have hm := srt_mem.mp (List.mem_of_getElem? h)
  have hbl := bd_len F hm
  have hlen : pos tb j + o < (fontO tb).length := by
    have e := pos_succ h
    have hm := pos_mono' (tb := tb) (show j + 1 ≤ tb.length from at_lt h)
    unfold flen at e
    rw [fil_len] at e
    rw [V.length F]; omega
  have hby := V.byte F h ho
  have hne : sumT t ((bd tb t).set o b) ≠ sumT t (lk tb t) := by
    rw [← sumT_bd F hm]
    unfold sumT plT
    by_cases e : t = headS
    · have h12 := F.hd (e ▸ hm)
      subst e
      show sumO (plainH _) ≠ sumO (plainH _)
      have h8' := h8 rfl
      rw [plainH_set h8' (by omega)]
      refine sum_set (by rw [plainH_len (by omega)]; omega) ?_
      have : b8 (plainH (bd tb headS)) o = b8 (bd tb headS) o := by
        unfold plainH
        rw [List.append_assoc, b8_app_l (by rw [List.length_take]; omega)]
        unfold b8
        rw [List.getD_eq_getElem?_getD, List.getD_eq_getElem?_getD, List.getElem?_take, if_pos h8']
      rw [this, ← hby]; exact hb
    · have e' : (t == Str.ofString "head") = false := beq_eq_false_iff_ne.mpr e
      rw [e', if_neg (by decide), if_neg (by decide)]
      exact sum_set (by omega) (by rw [← hby]; exact hb)
  have e : (srt tb).filter (fun tag => !decide (sumT tag (if tag = t then (bd tb tag).set o b else bd tb tag) = sumT tag (lk tb tag))) = [t] := by
    rw [← filter_one (srt_nodup F.g) (srt_mem.mpr hm)]
    refine List.filter_congr fun tag ht => ?_
    by_cases q : tag = t
    · subst q
      rw [if_pos rfl, decide_eq_false hne, decide_eq_true rfl]; rfl
    · rw [if_neg q, decide_eq_true (sumT_bd F (srt_mem.mp ht)), decide_eq_false q]; rfl
  unfold wrongS
  rw [V'.badS F, e, V'.hasH F]
  by_cases hh : headS ∈ keysT tb
  · rw [if_pos hh, if_pos]
    · rfl
    · rw [List.contains_iff_mem.mpr hh, decide_eq_false (fun q => sum_set hlen hb (q.trans (font_sum F hh).symm))]; rfl
  · rw [if_neg hh, if_neg (by simp [hh])]; rfl

/-! fonts that are no fonts -/
theorem Vw.start (V : Vw f tb X) (F : Fine tb) : rd32 f 0 = 65536 ∧ rd16 f 4 = tb.length := ⟨(V.dir F).ver, (V.dir F).cnt⟩
theorem b8_take {l : List UInt8} {k i : Nat} (h : i < k) : b8 (l.take k) i = b8 l i := by
  unfold b8; rw [List.getD_eq_getElem?_getD, List.getD_eq_getElem?_getD, List.getElem?_take, if_pos h]
theorem rd16_take {l : List UInt8} {k i : Nat} (h : i + 2 ≤ k) : rd16 (l.take k) i = rd16 l i := by unfold rd16; rw [b8_take (by omega), b8_take (by omega)]
theorem rd32_take {l : List UInt8} {k i : Nat} (h : i + 4 ≤ k) : rd32 (l.take k) i = rd32 l i := by unfold rd32; rw [rd16_take (by omega), rd16_take (by omega)]
theorem bad_short (V : Vw f tb X) (F : Fine tb) {k : Nat} (hk : k < 12) : BadFont (f.take k) := by
  have hle := V.le F
  have D := V.dir F
  have hr := D.room
  have h1 := F.g.one
  have h5 := F.g.five
  have hl : (f.take k).length = k := by rw [List.length_take]; omega
  refine ⟨by omega, .inl ?_⟩
  by_cases h4 : k < 4
  · exact .inl (by omega)
  · refine .inr (.inr ⟨by omega, by omega, ?_, fun h6 => ?_⟩)
    · unfold verOk
      rw [rd32_take (by omega), D.ver]; rfl
    · rw [rd16_take (by omega), D.cnt]; omega
theorem bad_nine (V : Vw f tb X) (F : Fine tb) : BadFont (bl [9] ++ f.drop 1) := by
  have hle := V.le F
  have D := V.dir F
  have hr := D.room
  have hl : (bl [9] ++ f.drop 1).length = f.length := by
    rw [List.length_append, List.length_drop]
    show 1 + (f.length - 1) = _
    omega
  refine ⟨by omega, .inl (.inr (.inl ⟨by omega, ?_⟩))⟩
  have e : rd32 (bl [9] ++ f.drop 1) 0 ≠ 65536 ∧ rd32 (bl [9] ++ f.drop 1) 0 ≠ 1953658213 := by
    have h0 : b8 (bl [9] ++ f.drop 1) 0 = 9 := rfl
    have b1 := b8_0 (bl [9] ++ f.drop 1) 1
    have b2 := b8_0 (bl [9] ++ f.drop 1) 2
    have b3 := b8_0 (bl [9] ++ f.drop 1) 3
    unfold rd32 rd16
    rw [h0]
    simp only [Nat.reduceAdd]
    omega
  unfold verOk
  simp only [List.any_cons, List.any_nil, Bool.or_false, Bool.or_eq_false_iff, beq_eq_false_iff_ne, ne_eq]
  exact ⟨fun q => e.1 q.symm, fun q => e.2 q.symm⟩
theorem bad_twice (V : Vw f tb X) (F : Fine tb) : BadFont (f.take 4 ++ bl [0, 2] ++ (f.take 28).drop 6 ++ (f.take 28).drop 12 ++ f.drop 28) := by
  have hle := V.le F
  have D := V.dir F
  have hr := D.room
  have h1 := F.g.one
  have h5 := F.g.five
  obtain ⟨tag, h0⟩ := sat (tb := tb) (i := 0) h1
  obtain ⟨t1, _, t3, t4⟩ := V.told F h0
  have hfit := D.fits 0 h1
  have t5 := F.at5 h0
  obtain ⟨H, f1, hf, hH⟩ : ∃ H f1, f = H ++ f1 ∧ H.length = 12 := ⟨f.take 12, f.drop 12, (List.take_append_drop 12 f).symm, by rw [List.length_take]; omega⟩
  obtain ⟨R, f2, hf1, hR⟩ : ∃ R f2, f1 = R ++ f2 ∧ R.length = 16 := ⟨f1.take 16, f1.drop 16, (List.take_append_drop 16 f1).symm, by rw [hf, List.length_append] at hr; rw [List.length_take]; omega⟩
  subst hf1
  have e1 : f.take 28 = H ++ R := by rw [hf, ← List.append_assoc]; exact List.take_left' (by rw [List.length_append]; omega)
  have e2 : f.drop 28 = f2 := by rw [hf, ← List.append_assoc]; exact List.drop_left' (by rw [List.length_append]; omega)
  have e3 : (H ++ R).drop 12 = R := List.drop_left' hH
  have e4 : (H ++ R).drop 6 = H.drop 6 ++ R := List.drop_append_of_le_length (by omega)
  have e5 : f.take 4 = H.take 4 := by rw [hf]; exact List.take_append_of_le_length (by omega)
  rw [e1, e2, e3, e4, e5]
  have e6 : H.take 4 ++ bl [0, 2] ++ (H.drop 6 ++ R) ++ R ++ f2 = (H.take 4 ++ (bl [0, 2] ++ H.drop 6)) ++ (R ++ (R ++ f2)) := by simp only [List.append_assoc]
  rw [e6]
  have hH4 : (H.take 4).length = 4 := by rw [List.length_take]; omega
  have hP : (H.take 4 ++ (bl [0, 2] ++ H.drop 6)).length = 12 := by
    rw [List.length_append, List.length_append, hH4, List.length_drop, hH]; rfl
  have hfl : f.length = 12 + (16 + f2.length) := by rw [hf, List.length_append, List.length_append, hH, hR]
  have r0 : ∀ k, k + 4 ≤ 16 → rd32 f (12 + k) = rd32 R k := fun k hk => by rw [hf, rd32_app_r hH, rd32_app_l (by omega)]
  have r1 : ∀ k, k + 4 ≤ 16 → rd32 ((H.take 4 ++ (bl [0, 2] ++ H.drop 6)) ++ (R ++ (R ++ f2))) (12 + k) = rd32 R k := fun k hk => by rw [rd32_app_r hP, rd32_app_l (by omega)]
  have r2 : ∀ k, k + 4 ≤ 16 → rd32 ((H.take 4 ++ (bl [0, 2] ++ H.drop 6)) ++ (R ++ (R ++ f2))) (28 + k) = rd32 R k := fun k hk => by
    rw [← List.append_assoc, rd32_app_r (a := 28) (by rw [List.length_append, hP, hR]), rd32_app_l (by omega)]
  have p0 : part f 12 4 = R.take 4 := by rw [hf, part_app hH (by omega)]
  have p1 : part ((H.take 4 ++ (bl [0, 2] ++ H.drop 6)) ++ (R ++ (R ++ f2))) 12 4 = R.take 4 := part_app hP (by omega)
  have p2 : part ((H.take 4 ++ (bl [0, 2] ++ H.drop 6)) ++ (R ++ (R ++ f2))) 28 4 = R.take 4 := by
    rw [← List.append_assoc]; exact part_app (by rw [List.length_append, hP, hR]) (by omega)
  have hv : rd32 ((H.take 4 ++ (bl [0, 2] ++ H.drop 6)) ++ (R ++ (R ++ f2))) 0 = 65536 := by
    rw [List.append_assoc, rd32_app_l (by omega), ← e5, rd32_take (by omega)]; exact D.ver
  have hc : rd16 ((H.take 4 ++ (bl [0, 2] ++ H.drop 6)) ++ (R ++ (R ++ f2))) 4 = 2 := by
    rw [List.append_assoc, List.append_assoc, show (4 : Nat) = 4 + 0 from rfl, rd16_app_r hH4]; rfl
  have hl : ((H.take 4 ++ (bl [0, 2] ++ H.drop 6)) ++ (R ++ (R ++ f2))).length = f.length + 16 := by
    rw [List.length_append, hP, List.length_append, List.length_append, hR]; omega
  generalize (H.take 4 ++ (bl [0, 2] ++ H.drop 6)) ++ (R ++ (R ++ f2)) = z at r1 r2 p1 p2 hv hc hl
  have t1' : part f 12 4 = octS (padS tag) := t1
  rw [p0] at t1'
  have q0 := r0 8 (by omega)
  have q1 := r0 12 (by omega)
  have hfit' : rd32 f (12 + 8) + rd32 f (12 + 12) ≤ f.length := hfit
  rw [q0, q1] at hfit'
  refine ⟨by omega, .inr ⟨⟨hv, hc, by omega, by omega, by omega, fun i hi j hj => ?_, fun i hi => ?_⟩, ?_⟩⟩
  · have : i = 0 ∨ i = 1 := by omega
    rcases this with rfl | rfl
    · show 32 ≤ b8 (part z 12 4) j ∧ b8 (part z 12 4) j ≤ 126
      rw [p1, t1']; exact t_signs _ t5 j hj
    · show 32 ≤ b8 (part z 28 4) j ∧ b8 (part z 28 4) j ≤ 126
      rw [p2, t1']; exact t_signs _ t5 j hj
  · have : i = 0 ∨ i = 1 := by omega
    rcases this with rfl | rfl
    · show rd32 z (12 + 8) + rd32 z (12 + 12) ≤ z.length
      rw [r1 _ (by omega), r1 _ (by omega)]; omega
    · show rd32 z (28 + 8) + rd32 z (28 + 12) ≤ z.length
      rw [r2 _ (by omega), r2 _ (by omega)]; omega
  · show strOf (part z 28 4) = strOf (part z 12 4)
    rw [p1, p2]
end

/-! rules for the law's own walk -/
/-- a mark at which the walk stops -/
noncomputable def Halt (P : Prop) : Prop := P
theorem Halt.of {P : Prop} (h : P) : Halt P := h
theorem Halt.elim {P : Prop} (h : Halt P) : P := h
theorem cut {M : Model} {A : Around} {E : Value → Shared → Prop} {s : Shared} {α : Type} {m : Sem α} {Q : α → Shared → Prop} (R : α → Shared → Prop) (h1 : wpAny M A m R E s) (h2 : ∀ a s', R a s' → Q a s') : wpAny M A m Q E s := wpAny_mono h1 h2 fun _ _ e => e
section
variable {prog : Program} {w : World} {A : Around} {E : Value → Shared → Prop} {s : Shared} {env : Env} {h₀ : Heap} {L : Addr} {m : Str → Option Value} {news : List (Addr × Obj)}
theorem isTab_n {x dx d : Addr} {t : Tok} {n : Nat} {h : Heap} (N : News h₀ L h news) (h1 : (x, instObj 145 dx) ∈ news) (h2 : (dx, tabD w t n (.ref d)) ∈ news) : IsTab w h x d := ⟨dx, n, t, N.get h1, N.get h2⟩
theorem dict_n {d : Addr} {o : Obj} {kvs : List (Str × Value)} {h : Heap} (N : News h₀ L h news) (hm : (d, o) ∈ news) (hd : o.IsDictOf (PySem.strKind PySem.Challenge.rw_nu0014_01.row.prog w) kvs) : TabD w h d kvs := Heap.dictOf_iff.mpr ⟨o, N.get hm, hd⟩

theorem strEq (x k : Str) (u t : Tok) : SeqAt.EqAt A s (.str x u) (.str k t) (isStrOf k (.str x u)) := (eq_isStrOf k t (StrsAre.cons x u .nil) (.str x u) (.head _)).at _ _
theorem strs_at : ∀ {vs : List Value} {ss : List Str}, StrsAre vs ss → ∀ {j : Nat} (h1 : j < vs.length) (h2 : j < ss.length), ∃ t, vs[j] = .str ss[j] t
  | _, _, .cons y t h, 0, _, _ => ⟨t, rfl⟩
  | _, _, .cons y t h, j + 1, h1, h2 => strs_at h (Nat.lt_of_succ_lt_succ h1) (Nat.lt_of_succ_lt_succ h2)
/-- two lists of texts compared -/
theorem l_ne_strs {a b : Addr} {vs vs2 : List Value} {ss ss2 : List Str} {e e2 : Nat} {Q : Value → Shared → Prop} (N : News h₀ L s.heap news) (ha : (a, listOf vs.toArray e) ∈ news) (hb : (b, listOf vs2.toArray e2) ∈ news)
    (hS : StrsAre vs ss) (hS2 : StrsAre vs2 ss2) (hu : A.units < cLine) (h : Q (.bool (!decide (ss = ss2))) s) : wpAny (model prog w) A (compareOp .NotEq (.ref a) (.ref b)) Q E s := by
  have la : s.heap.IsList a vs.toArray := ⟨_, N.get ha, rfl, _, rfl⟩
  have lb : s.heap.IsList b vs2.toArray := ⟨_, N.get hb, rfl, _, rfl⟩
  have l1 := StrsAre.length hS
  have l2 := StrsAre.length hS2
  by_cases hl : vs.length = vs2.length
  · refine SeqAt.RcNeAt.lists (e := fun j => ss.getD j (Str.ofString "") == ss2.getD j (Str.ofString "")) la lb (by rw [List.size_toArray, List.size_toArray, hl]) hu (fun j h1 h2 => ?_) prog w E Q ?_
    · have h1' : j < vs.length := by simpa using h1
      have h2' : j < vs2.length := by simpa using h2
      obtain ⟨t, e⟩ := strs_at hS h1' (by omega)
      obtain ⟨t2, e2⟩ := strs_at hS2 h2' (by omega)
      have := strEq (A := A.in1) (s := s) ss[j] ss2[j] t t2
      rw [show isStrOf ss2[j] (.str ss[j] t) = (ss.getD j (Str.ofString "") == ss2.getD j (Str.ofString "")) by
        rw [List.getD_eq_getElem?_getD, List.getD_eq_getElem?_getD, List.getElem?_eq_getElem (by omega), List.getElem?_eq_getElem (by omega)]; rfl] at this
      rw [← e, ← e2] at this
      exact this
    · have key : (List.range vs.toArray.size).all (fun j => ss.getD j (Str.ofString "") == ss2.getD j (Str.ofString "")) = decide (ss = ss2) := by
        rw [Bool.eq_iff_iff, List.all_eq_true, decide_eq_true_iff]
        constructor
        · intro q
          apply List.ext_getElem (by omega)
          intro j h1 h2
          have := beq_iff_eq.mp (q j (List.mem_range.mpr (by rw [List.size_toArray]; omega)))
          rwa [List.getD_eq_getElem?_getD, List.getD_eq_getElem?_getD, List.getElem?_eq_getElem h1, List.getElem?_eq_getElem h2] at this
        · rintro rfl j _
          exact beq_self_eq_true _
      rw [key]; exact h
  · refine SeqAt.RcNeAt.lists_lengths la lb (by rw [List.size_toArray, List.size_toArray]; exact bne_iff_ne.mpr hl) hu prog w E Q ?_
    have : ¬ ss = ss2 := fun q => hl (by rw [l1, l2, q])
    rwa [decide_eq_false this] at h
/-- where a text stands in a list of texts -/
theorem l_index_strs {D : Addr} {vs : List Value} {ss : List Str} {k : Str} {t : Tok} {e j : Nat} {Q : Value → Shared → Prop} (N : News h₀ L s.heap news) (hm : (D, listOf vs.toArray e) ∈ news) (hS : StrsAre vs ss) (hz : vs.length ≤ 1000) (hn : ss.Nodup) (hj : ss[j]? = some k)
    (h : Q (.int (j : Nat) s.toks) { s with toks := s.toks + 1 }) : wpAny (model prog w) A (call (.builtin "list.index") [.ref D, .str k t]) Q E s := by
  have ho := N.get hm
  have l1 := StrsAre.length hS
  obtain ⟨hj1, hj2⟩ := List.getElem?_eq_some_iff.mp hj
  refine call_meets PySem.F.slot_list_index ⟨_, ho, rfl⟩ PySem.F.entry_list_index (PySem.F.args_list_index_2 _ _)
    (SeqAt.list_indexAt D vs.toArray _ _ _ (.str k t) (isStrOf k) j (by rw [List.size_toArray]; omega) (by omega) ?_ ?_) ⟨ho, fun y hy => (eq_isStrOf k t hS y (by simpa using hy)).at _ _, h⟩
  · obtain ⟨u, e1⟩ := strs_at hS (j := j) (by omega) hj1
    show isStrOf k vs[j] = true
    rw [e1, hj2]; exact beq_self_eq_true _
  · intro i hi hij
    have hi' : i < vs.length := by simpa using hi
    obtain ⟨u, e1⟩ := strs_at hS hi' (by omega)
    show isStrOf k vs[i] = false
    rw [e1]
    refine beq_eq_false_iff_ne.mpr fun q => ?_
    have := List.pairwise_iff_getElem.mp hn i j (by omega) hj1 hij
    exact this (by rw [q, hj2])
/-- a list of texts taken some times -/
theorem l_mul_strs {a : Addr} {vs : List Value} {ss : List Str} {e : Nat} {x : Int} {u : Tok} {Q : Value → Shared → Prop} (Fm : Fr h₀ L s.heap m) (N : News h₀ L s.heap news) (ha : (a, listOf vs.toArray e) ∈ news) (hS : StrsAre vs ss) (h0 : 0 ≤ x) (h1 : x ≤ 1) (hz : vs.length ≤ 1000)
    (h : ∀ D h' vs' e', Fr h₀ L h' m → News h₀ L h' ((D, listOf vs'.toArray e') :: news) → StrsAre vs' (if x = 1 then ss else []) → (∀ p ∈ news, p.1 < D) → Q (.ref D) { s with heap := h' }) :
    wpAny (model prog w) A (binaryOp .Mult (.ref a) (.int x u)) Q E s := by
  have ho := N.get ha
  have hx1 : x.toNat ≤ 1 := by omega
  have hm2 : vs.length * x.toNat ≤ 1000 := Nat.le_trans (Nat.mul_le_mul hz hx1) (by decide)
  have hm1 : vs.toArray.size * x.toNat ≤ 1000 := by rw [List.size_toArray]; exact hm2
  refine wpAny_binaryOp_repeat_ref (T := "list") (U := "int") (by decide) ⟨_, ho, rfl⟩ (fun s' => typeIs_int s' x u) noFill_list_mul PySem.F.fills_int_mul PySem.F.slot_int_rmul repeat_list PySem.F.slot_int_index.lookup
    (call_meets PySem.F.slot_int_rmul (typeIs_int s x u) PySem.F.entry_int_rmul (PySem.F.args_int_rmul_2 _ _) (lm_int_rmul_list_any x u a vs.toArray _ _ _)
      ⟨ho, rfl, ⟨_, ho, rfl⟩, call_meets PySem.F.slot_list_mul ⟨_, ho, rfl⟩ PySem.F.entry_list_mul (PySem.F.args_list_mul_2 _ _)
        (lm_list_mul_any a vs.toArray _ _ _ x u (by simp [Builtin.List.listFitsIndex]; omega) (by omega) (by simp [Builtin.List.listTooLong, sizeLine]; omega))
        ⟨ho, ?_⟩⟩)
  have e : (List.foldl (fun x1 x2 => x1 ++ x2) #[] (List.replicate (if vs.toArray.isEmpty = true then 0 else x.toNat) vs.toArray)) = (if x = 1 then vs else []).toArray := by
    have : x = 0 ∨ x = 1 := by omega
    rcases this with rfl | rfl
    · rw [show (if (0 : Int) = 1 then vs else []) = [] from if_neg (by decide), show (0 : Int).toNat = 0 from rfl]; split <;> rfl
    · rw [show (if (1 : Int) = 1 then vs else []) = vs from if_pos rfl, show (1 : Int).toNat = 1 from rfl]
      cases vs with
      | nil => rfl
      | cons y r => simp
  rw [e]
  refine h _ _ (if x = 1 then vs else []) 0 (Fm.push _) (News.push Fm N _) ?_ fun p hp => Heap.lt_size (N p hp).1
  split
  · exact hS
  · exact .nil
theorem strs_filter {f : Str → Bool} : ∀ {vs : List Value} {ss : List Str}, StrsAre vs ss → StrsAre (vs.filter fun v => f (strV v)) (ss.filter f)
  | _, _, .nil => .nil
  | _, _, .cons y t h => by
    rw [List.filter_cons, List.filter_cons]
    show StrsAre (if f y = true then _ else _) _
    split
    · exact .cons y t (strs_filter h)
    · exact strs_filter h
theorem strs_same : ∀ {vs ys : List Value} {ss : List Str}, StrsAre vs ss → Paired (fun v y => ∃ t, y = .str (strV v) t) vs ys → StrsAre ys ss
  | _, _, _, .nil, .nil => .nil
  | _, _, _, .cons y t h, .cons hy r => by
    obtain ⟨t, rfl⟩ := hy
    exact .cons _ _ (strs_same h r)
/-- a name bound to the texts of a list that pass a test -/
theorem comp_test {elt iter test : Expr} {x y : Str} {px py pos spos : Pos} {scope : Scope} {cl : List (Str × Addr)} {Q : Flow → Shared → Prop} (f : Str → Bool) (hh : A.handled = none)
    (hsw : swapsWith (.ListComp elt [⟨.Name x px, iter, [test], 0⟩] scope pos) (some (.Name y py)) spos.line env = pure true)
    (hclos : closureFor scope env = pure cl) (hcell : ∀ z ∈ scope.names, z.2 ≠ .cell) (hkind : scope.kind = .function)
    (hnames : ∀ z ∈ scope.names, z.2 = .local → scope.names.lookup z.1 = some .local) (hx : scope.names.lookup x = some .local)
    (hy : env.kindOf y = some .local) (hp : (env.scope.kind == .class || (env.scope.kind == .module && env.locals != env.globals)) = false)
    (h : wpAny (model prog w) A (eval iter env) (fun xv s₁ => ∃ D vs ss news m e, xv = .ref D ∧ Fr h₀ env.locals s₁.heap m ∧ News h₀ env.locals s₁.heap ((D, listOf vs.toArray e) :: news) ∧ StrsAre vs ss ∧ ss.length ≤ 64 ∧
      (∀ C k u (s₃ : Shared) m₃ E', k ∈ ss → s₃.heap.Ns C m₃ → m₃ x = some (.str k u) → s₁.heap.StaysIn s₃.heap →
        wpAny (model prog w) A (isTrue test (compEnvC scope cl C env) (eval test (compEnvC scope cl C env))) (fun ok s₄ => ok = f k ∧ Keeps s₃ s₄) E' s₃) ∧
      (∀ C k u (s₃ : Shared) m₃ E', k ∈ ss → s₃.heap.Ns C m₃ → m₃ x = some (.str k u) → s₁.heap.StaysIn s₃.heap →
        wpAny (model prog w) A (eval elt (compEnvC scope cl C env)) (fun y s₄ => (∃ t, y = .str k t) ∧ Keeps s₃ s₄) E' s₃) ∧
      (∀ D' h' tk (ys : List Value) e', Fr h₀ env.locals h' (fun z => if z = y then some (.ref D') else m z) → News h₀ env.locals h' ((D', listOf ys.toArray e') :: (D, listOf vs.toArray e) :: news) → StrsAre ys (ss.filter f) → (∀ p ∈ news, p.1 ≠ D') →
        Q .next { s₁ with heap := h', toks := tk })) E s)
    (hs : ∀ x, foldedSetIterable iter env x = pure x := by intro _; rfl) :
    wpAny (model prog w) A (exec (.Assign [.Name y py] (.ListComp elt [⟨.Name x px, iter, [test], 0⟩] scope pos) spos) env) Q E s := by
  refine wpAny_Assign_ListComp_free (fun v => f (strV v)) (fun v y => ∃ t, y = .str (strV v) t) hsw hclos hcell hkind hnames hx hy hp (wpAny_mono h (fun xv s₁ h₁ => ?_) fun _ _ e => e) hs
  obtain ⟨D, vs, ss, news, m, e, rfl, F, N, hS, hz, ht, he, hQ⟩ := h₁
  have hl : s₁.heap.IsList D vs.toArray := ⟨_, N.get (.head _), rfl, _, rfl⟩
  have hlt : D < s₁.heap.objs.size := let ⟨_, ho, _⟩ := hl; Heap.lt_size ho
  have hne : D ≠ s₁.heap.objs.size := Nat.ne_of_lt hlt
  have hvl := StrsAre.length hS
  have old : ∀ {h' : Heap} {oi : Obj}, (∀ b o, b ∉ [s₁.heap.objs.size] → (s₁.heap.push oi).get? b = some o → h'.get? b = some o) → s₁.heap.StaysIn h' := fun k b o q => k b o (fun hb => absurd (Heap.lt_size q) (by rw [List.mem_singleton.mp hb]; exact Nat.lt_irrefl _)) (Heap.get?_push_of_some _ q)
  refine wpAny_pyIter_list hl ?_
  have W := Walks.list (prog := prog) (w := w) hh s₁.heap.objs.size D hne vs.toArray
  refine ⟨_, _, _, _, _, _, m, rfl, W, by rw [sizeLine_eq, List.size_toArray]; omega, ⟨⟨_, Heap.get?_push_size _ rfl, rfl, rfl⟩, hl.at fun o e => Heap.get?_push_of_some _ e⟩, fun b hb => ?_, fun hm => ?_, (F.push _).ns, ⟨?_, ?_⟩, ?_⟩
  · dsimp only
    rw [Heap.size_push]
    rcases List.mem_cons.mp hb with rfl | hb
    · exact Nat.lt_succ_self _
    · rw [List.mem_singleton.mp hb]; exact Nat.lt_succ_of_lt hlt
  · exact absurd F.ns.lt (by rw [List.mem_singleton.mp hm]; exact Nat.lt_irrefl _)
  · rintro C i v s₃ m₃ E' _ hP hn hm hk _
    have hv : vs[i]? = some v := by simpa using hP
    obtain ⟨k, u, hk1, rfl⟩ := strsAre_at hS hv
    exact wpAny_tests_one (ht C k u s₃ m₃ E' (List.mem_of_getElem? hk1) hn hm (old hk))
  · rintro C i v s₃ m₃ E' _ hP _ hn hm hk _
    have hv : vs[i]? = some v := by simpa using hP
    obtain ⟨k, u, hk1, rfl⟩ := strsAre_at hS hv
    exact he C k u s₃ m₃ E' (List.mem_of_getElem? hk1) hn hm (old hk)
  · intro D' h' tk ys vs' hD _ hpl hlen hP hF hns hk
    have ev : vs' = vs := by
      apply List.ext_getElem?
      intro j
      cases q : vs'[j]? with
      | some v => have := hP j v q; rw [← this]; simp
      | none =>
        have h1 : vs'.length ≤ j := by simpa using q
        rw [List.getElem?_eq_none]
        rw [List.size_toArray] at hlen; omega
    subst ev
    obtain ⟨e', he'⟩ := hpl
    have hD1 : s₁.heap.get? D' = none := by
      cases q : s₁.heap.get? D' with
      | none => rfl
      | some o' => cases (Heap.get?_push_of_some _ q).symm.trans hD
    have hst : ∀ b o, b ≠ env.locals → s₁.heap.get? b = some o → h'.get? b = some o := fun b o hb q => hk b o hb (fun hb => absurd (Heap.lt_size q) (by rw [List.mem_singleton.mp hb]; exact Nat.lt_irrefl _)) (Heap.get?_push_of_some _ q)
    have hL : h₀.get? env.locals = none := by
      cases q : h₀.get? env.locals with
      | none => rfl
      | some o => exact absurd (Nat.lt_of_lt_of_le (Heap.lt_size q) F.above) (Nat.lt_irrefl _)
    have F' : Fr h₀ env.locals h' (fun z => if z = y then some (.ref D') else m z) := ⟨hns, fun b o q => hst b o (fun hb => by rw [hb, hL] at q; cases q) (F.keep b o q), F.above⟩
    refine hQ D' h' tk ys.toList e' F' (fun p hp => ?_) (strs_same (strs_filter hS) hF) fun p hp q => ?_
    · rcases List.mem_cons.mp hp with rfl | hp
      · exact ⟨by rw [Array.toArray_toList]; exact he', fresh_ne F hD1, fresh_base F hD1⟩
      · have := N p hp
        exact ⟨hst _ _ this.2.1 this.1, this.2⟩
    · have := (N p (.tail _ hp)).1
      rw [q, hD1] at this; cases this
end
section
variable {w : World} {d u : Nat} {fr : Option (List Env)} {gs : Option (List Code)} {s : Shared} {p : Program} {loose : List Str} {mg mb : Str → Option Value}
theorem tables_use {h₀ : Heap} {L sa : Addr} {m : Str → Option Value} {news : List (Addr × Obj)} {o : Obj} {g : Obj → List (Addr × Obj)} {E Q : Value → Shared → Prop} (F : Fr h₀ L s.heap m) (N : News h₀ L s.heap news) (U : UpdF sa o news g) (hs : SrcO o) (X : (hd.heap_1 w.params).In h₀) (T : TopRead p loose mg mb h₀) (hroom : d + 30 < recursionLimit)
    (h : ∀ dd od kvs tb o' h' n, (dd == sysModules) = false → od.IsDictOf (PySem.strKind PySem.Challenge.rw_nu0014_01.row.prog w) kvs → KV kvs tb → TbOk tb → SrcO o' → Fr h₀ L h' m → News h₀ L h' ((dd, od) :: g o') → Off news dd → Q (.ref dd) { s with heap := h', toks := n }) :
    wpAny (model PySem.Challenge.rw_nu0014_01.row.prog w) ⟨none, d, fr, gs, u⟩ (call (.ref 266) [.ref sa]) Q E s := by
  obtain ⟨ho, hn⟩ := updAt N U
  have hb : ∀ a ∈ [sa], h₀.get? a = none := fun a ha => by rw [List.mem_singleton.mp ha]; exact hn
  refine tables_core hs ho (Frag.In.keeps X (staysHid F hb)) (T.keeps (staysHid F hb)) hroom fun dd od kvs tb o' h' n lo hd hK hT e1 e2 hS e3 kb => ?_
  obtain ⟨F', N'⟩ := newsUpd F N U e3 kb
  refine h dd od kvs tb o' h' n lo hd hK hT hS F' (fun q hq => ?_) fun q hq e => ?_
  · rcases List.mem_cons.mp hq with rfl | hq
    · exact ⟨e1, fresh_ne F e2, fresh_base F e2⟩
    · exact N' q hq
  · have := (N q hq).1
    rw [e, e2] at this; cases this
theorem fell_use {base : Heap} {f : List UInt8} {t : Tok} {A₀ : Around} {env : Env} {L : Addr} {m : Str → Option Value} {E Q : Value → Shared → Prop} (D : BadFont f) (X : (hd.heap_1 w.params).In base) (T : TopRead p loose mg mb base)
    (K : Below A₀ base [] base) (F : Fr base L s.heap m) (hf : env.frame = some L) (hk : env.scope.kind = .function) (hA : A₀.deeper env = ⟨none, d, some [env], gs, u⟩) (hroom : d + 100 < recursionLimit)
    (hQ : ∀ h' n, Fr base L h' m → Q (.bool true) { s with heap := h', toks := n }) :
    wpAny (model PySem.Challenge.rw_nu0014_01.row.prog w) (A₀.deeper env) (call (.ref 273) [.bytes f.toArray t]) Q E s := by
  have KB := pushX K F hf hk
  rw [hA] at KB ⊢
  exact g_law_fell D X T hroom (Nat.le_trans F.above (Nat.le_of_lt F.ns.lt)) KB fun h' n st up => hQ h' n (F.of_stays st up)
end
/-- on to the next statement, names and ledger as told -/
noncomputable def Goes (h₀ : Heap) (L : Addr) (m : Str → Option Value) (news : List (Addr × Obj)) (s : Shared) (f : Flow) (s' : Shared) : Prop := f = .next ∧ ∃ h' tk, s' = { s with heap := h', toks := tk } ∧ Fr h₀ L h' m ∧ News h₀ L h' news
theorem Goes.intro {h₀ h' : Heap} {L : Addr} {m : Str → Option Value} {news : List (Addr × Obj)} {s : Shared} {tk : Nat} (F : Fr h₀ L h' m) (N : News h₀ L h' news) : Goes h₀ L m news s .next { s with heap := h', toks := tk } := ⟨rfl, h', tk, rfl, F, N⟩
theorem newsSub {h₀ h : Heap} {L : Addr} {big small : List (Addr × Obj)} (N : News h₀ L h big) (hs : ∀ p ∈ small, p ∈ big) : News h₀ L h small := fun p hp => N p (hs p hp)
section
variable {prog : Program} {w : World} {A : Around} {E : Value → Shared → Prop} {s : Shared} {env : Env} {h₀ : Heap} {L : Addr} {m : Str → Option Value} {news : List (Addr × Obj)}
theorem join_if {test : Expr} {body orelse : List Stmt} {pos : Pos} {Q : Flow → Shared → Prop} (F : Fr h₀ L s.heap m) (N : News h₀ L s.heap news)
    (h1 : wpAny (model prog w) A (isTrue test env (eval test env)) (fun b s₂ => if b then wpAny (model prog w) A (execs body env) (Goes h₀ L m news s) E s₂ else wpAny (model prog w) A (execs orelse env) (Goes h₀ L m news s) E s₂) E s)
    (h2 : ∀ h' tk, Fr h₀ L h' m → News h₀ L h' news → Q .next { s with heap := h', toks := tk }) : wpAny (model prog w) A (exec (.If test body orelse pos) env) Q E s :=
  cut _ (wpAny_If h1) fun f s' ⟨hf, h', tk, hs, F', N'⟩ => by subst hf; subst hs; exact h2 h' tk F' N'
/-- what the block on the rows leaves -/
noncomputable def Left (h₀ : Heap) (L : Addr) (keep : List (Str × Value)) (pre post : List (Addr × Obj)) (sa : Addr) (s : Shared) (f : Flow) (s' : Shared) : Prop :=
  f = .next ∧ ∃ h' tk m' o', s' = { s with heap := h', toks := tk } ∧ (∀ p ∈ keep, m' p.1 = some p.2) ∧ SrcO o' ∧ Fr h₀ L h' m' ∧ News h₀ L h' (pre ++ (sa, o') :: post)
theorem Left.intro {h₀ h' : Heap} {L : Addr} {keep : List (Str × Value)} {pre post : List (Addr × Obj)} {sa : Addr} {s : Shared} {tk : Nat} {m' : Str → Option Value} {o' : Obj} (F : Fr h₀ L h' m') (N : News h₀ L h' (pre ++ (sa, o') :: post)) (hS : SrcO o') (hk : ∀ p ∈ keep, m' p.1 = some p.2) :
    Left h₀ L keep pre post sa s .next { s with heap := h', toks := tk } := ⟨rfl, h', tk, m', o', rfl, hk, hS, F, N⟩
theorem join_left {test : Expr} {body orelse : List Stmt} {pos : Pos} {Q : Flow → Shared → Prop} (keep : List (Str × Value)) (pre post : List (Addr × Obj)) (sa : Addr)
    (h1 : wpAny (model prog w) A (isTrue test env (eval test env)) (fun b s₂ => if b then wpAny (model prog w) A (execs body env) (Left h₀ L keep pre post sa s) E s₂ else wpAny (model prog w) A (execs orelse env) (Left h₀ L keep pre post sa s) E s₂) E s)
    (h2 : ∀ h' tk m' o', (∀ p ∈ keep, m' p.1 = some p.2) → SrcO o' → Fr h₀ L h' m' → News h₀ L h' (pre ++ (sa, o') :: post) → Q .next { s with heap := h', toks := tk }) : wpAny (model prog w) A (exec (.If test body orelse pos) env) Q E s :=
  cut _ (wpAny_If h1) fun f s' ⟨hf, h', tk, m', o', hs, hk, hS, F', N'⟩ => by subst hf; subst hs; exact h2 h' tk m' o' hk hS F' N'
/-- a number drawn, below a bound -/
noncomputable def Drawn (h₀ : Heap) (L : Addr) (m : Str → Option Value) (g : Obj → List (Addr × Obj)) (P : Int → Prop) (s : Shared) (v : Value) (s' : Shared) : Prop :=
  ∃ k t o' h' tk, v = .int k t ∧ P k ∧ SrcO o' ∧ s' = { s with heap := h', toks := tk } ∧ Fr h₀ L h' m ∧ News h₀ L h' (g o')
theorem Drawn.intro {h' : Heap} {g : Obj → List (Addr × Obj)} {P : Int → Prop} {k : Int} {t : Tok} {o' : Obj} {tk : Nat} (hP : P k) (hS : SrcO o') (F : Fr h₀ L h' m) (N : News h₀ L h' (g o')) : Drawn h₀ L m g P s (.int k t) { s with heap := h', toks := tk } := ⟨k, t, o', h', tk, rfl, hP, hS, rfl, F, N⟩
theorem join_exp {test body orelse : Expr} {pos : Pos} {Q : Value → Shared → Prop} (g : Obj → List (Addr × Obj)) (P : Int → Prop) (_ : Fr h₀ L s.heap m)
    (h1 : wpAny (model prog w) A (isTrue test env (eval test env)) (fun b s₁ => if b then wpAny (model prog w) A (eval body env) (Drawn h₀ L m g P s) E s₁ else wpAny (model prog w) A (eval orelse env) (Drawn h₀ L m g P s) E s₁) E s)
    (h2 : ∀ k t o' h' tk, P k → SrcO o' → Fr h₀ L h' m → News h₀ L h' (g o') → Q (.int k t) { s with heap := h', toks := tk }) : wpAny (model prog w) A (eval (.IfExp test body orelse pos) env) Q E s :=
  cut _ (wpAny_IfExp h1) fun v s' ⟨k, t, o', h', tk, hv, hP, hS, hs, F', N'⟩ => by subst hv; subst hs; exact h2 k t o' h' tk hP hS F' N'
end
theorem bl_len (l : List Int) : (bl l).length = l.length := List.length_map _

theorem words_43_1 : True := by
  (k_with "call ref" => ((k_here; (with_reducible show wpAny _ _ (call (Value.ref 233) _) _ _ _); (refine Halt.elim ?_))))
  (k_with "call ref" => ((k_here; (with_reducible show wpAny _ _ (call (Value.ref 266) _) _ _ _); (refine Halt.elim ?_))))
  (k_with "call ref" => ((k_here; (with_reducible show wpAny _ _ (call (Value.ref 219) _) _ _ _); (refine Halt.elim ?_))))
  (k_with "call ref" => ((k_here; (with_reducible show wpAny _ _ (call (Value.ref 285) _) _ _ _); (refine Halt.elim ?_))))
  (k_with "call ref" => ((k_here; (with_reducible show wpAny _ _ (call (Value.ref 226) _) _ _ _); (refine Halt.elim ?_))))
  (k_with "call ref" => ((k_here; (with_reducible show wpAny _ _ (call (Value.ref 184) _) _ _ _); (refine Halt.elim ?_))))
  (k_with "call ref" => ((k_here; (with_reducible show wpAny _ _ (call (Value.ref 273) _) _ _ _); (refine Halt.elim ?_))))
  (k_with "call ref" => ((k_here; (with_reducible show wpAny _ _ (call (Value.ref 247) _) _ _ _); (refine Halt.elim ?_))))
  (k_with "exec If" => ((k_here; (with_reducible show wpAny _ _ (exec (Stmt.If (Expr.BoolOp BoolOp.And _ _) _ _ _) _) _ _ _); (refine Halt.elim ?_))))
  (k_with "exec If" => ((k_here; (with_reducible show wpAny _ _ (exec (Stmt.If (Expr.Compare (Expr.Name "rows" _) _ _ _) _ _ _) _) _ _ _); (refine Halt.elim ?_))))
  (k_with "eval IfExp" => ((k_here; (refine Halt.elim ?_))))
  (k_with "compareOp NotEq ref" => ((k_here; (with_reducible show wpAny _ _ (compareOp CmpOp.NotEq (Value.ref _) (Value.ref _)) _ _ _); (refine Halt.elim ?_))))
  (k_with "compareOp NotEq ref ref" => ((k_here; (with_reducible show wpAny _ _ (compareOp CmpOp.NotEq (Value.ref _) (Value.ref _)) _ _ _); (refine Halt.elim ?_))))
  (k_with "mroom" => (exact Nat.le_of_ble_eq_true rfl))
  (k_with "exec Assign" => ((k_here; (with_reducible show wpAny _ _ (exec (Stmt.Assign [Expr.Name _ _] (Expr.ListComp _ _ _ _) _) _) _ _ _); (refine Halt.elim ?_))))
  (k_with "exec Assign cons ListComp" => ((k_here; (with_reducible show wpAny _ _ (exec (Stmt.Assign [Expr.Name _ _] (Expr.ListComp _ _ _ _) _) _) _ _ _); (refine Halt.elim ?_))))
  (k_with "eval Name" => ((k_here; (with_reducible show wpAny _ _ (eval (Expr.Name "tables" _) (envOfC _ _ _ _ _)) _ _ _); k_dflt (refine' nameX_C (by k_asm) (by rfl) (by k_mem) (by k_asm) ?_ (by rfl) (by rfl); k_whole))))
  (k_with "eval Name" => ((k_here; (with_reducible show wpAny _ _ (eval (Expr.Name "tables" _) (compEnvC _ _ _ _)) _ _ _); k_dflt (refine' nm_cell (by rfl) (by rfl) (by rfl) (by assumption) ?_; k_whole))))
  (k_with "mside" => ((simp only [List.length_append, List.length_take, List.length_drop, bl_len, List.length_cons, List.length_nil]; omega)))
  (k_with "binaryOp Mult ref int" => ((k_here; (refine Halt.elim ?_))))
  (k_with "storeName" => ((k_here; dsimp only; walk1)))
  (k_with "eval BinOp" => ((k_here; dsimp only; walk1)))
  (k_with "evalPart some" => ((k_here; dsimp only; walk1)))
  (k_with "mtab" => ((refine' isTab_n (by k_asm) (by k_mem) (by k_mem))))
  (k_with "mdict" => ((refine' dict_n (by k_asm) (by k_mem) (by assumption))))
  (k_with "ksub" => (first | exact List.forall_mem_nil _ | (refine' List.forall_mem_cons.mpr ⟨(by k_mem), (by k_extra "ksub")⟩)))
  (k_with "lgo" => ((k_extra "go"; (all_goals (try exact Str.ofString "")); (all_goals (try exact (0 : Nat))); (all_goals (try exact Value.none)))))
  trivial
theorem offOne {a b : Addr} {o : Obj} (h : Off [(a, o)] b) : @Ne Nat a b := h _ (.head _)
theorem KV.mem {kvs : List (Str × Value)} {tb : Tb} (h : KV kvs tb) {k : Str} (hs : (valueAt kvs k).isSome = true) : k ∈ keysT tb := by
  by_cases q : k ∈ keysT tb
  · exact q
  · rw [h.none q] at hs; cases hs
theorem keep2 {m : Str → Option Value} {a b : Str} {x y : Value} (h1 : m a = some x) (h2 : m b = some y) : ∀ p ∈ [(a, x), (b, y)], m p.1 = some p.2 := fun p hp => by
  rcases List.mem_cons.mp hp with rfl | hp
  · exact h1
  · rw [List.mem_singleton.mp hp]; exact h2
theorem drawA {tb : Tb} {tag : Str} (Fi : Fine tb) (hm : tag ∈ keysT tb) (h : (tag == Str.ofString "head") = true) {k : Int} (h0 : 0 ≤ k) (h8 : k < 8) : 0 ≤ k ∧ k < ((lk tb tag).length : Int) ∧ (tag = headS → k < 8) := by
  have e : tag = headS := beq_iff_eq.mp h
  subst e
  have := Fi.hd hm
  exact ⟨h0, by omega, fun _ => h8⟩
theorem drawB {tb : Tb} {tag : Str} (h : (tag == Str.ofString "head") = false) {k : Int} (h0 : 0 ≤ k) (h1 : k < ((lk tb tag).length : Int)) : 0 ≤ k ∧ k < ((lk tb tag).length : Int) ∧ (tag = headS → k < 8) :=
  ⟨h0, h1, fun e => by subst e; exact absurd h (by decide)⟩
theorem spo_eq {f : List UInt8} {a x : Int} (h0 : 0 ≤ a) (h1 : a < (f.length : Int)) : f.take a.toNat ++ bl [x] ++ f.drop (a + 1).toNat = f.set a.toNat x.toNat.toUInt8 := by
  have e : (a + 1).toNat = a.toNat + 1 := by omega
  rw [e, List.set_eq_take_append_cons_drop, if_pos (by omega), List.append_assoc]; rfl
theorem spo_ne {f : List UInt8} {p : Nat} {k : Int} (h0 : 0 ≤ k) (h1 : k < 255) : (((((b8 f p + 1 + k) % 256).toNat.toUInt8).toNat : Nat) : Int) ≠ b8 f p := by
  have h2 := b8_lo f p
  have h3 := b8_hi f p
  rw [u8_of _ (Int.emod_nonneg _ (by decide)) (Int.emod_lt_of_pos _ (by decide))]
  omega
theorem one_of {kvs : List (Str × Value)} {tb : Tb} (h : KV kvs tb) {α : Type} {x y : α} : (if (if (valueAt kvs (Str.ofString "head")).isSome = true then (1 : Int) else 0) = 1 then x else y) = if headS ∈ keysT tb then x else y := by
  by_cases q : headS ∈ keysT tb
  · obtain ⟨t, e⟩ := h.at q
    have e' : valueAt kvs (Str.ofString "head") = some (.bytes (lk tb headS).toArray t) := e
    rw [if_pos q, e']; rfl
  · have e' : valueAt kvs (Str.ofString "head") = none := h.none q
    rw [if_neg q, e']; rfl
theorem padz_le {tag : Str} (h : tag ∈ tags5) : tag.cps.size + (Str.ofString "    ").cps.size ≤ 100000 := by
  have := (t_ok _ h).2.1
  have : tag.cps.size ≤ 4 := this
  have h4 : (Str.ofString "    ").cps.size = 4 := by decide
  omega
set_option maxHeartbeats 8000000 in
theorem law_holds : PySem.Challenge.rw_nu0014_01.Holds := by
  refine holds_law okLaw fun said => ?_
  refine holds_open (q := hd.view_1) (loose := [Str.ofString "WORD"]) (Xt := fun s => xlAt hd.view_1 lv s && recOk (RowW.records rW.toRowW) s) (XP := XL hd.view_1 lv) (Yf := Hook.obs HK) (Ya := Hook.val HK) (YP := Hook.says HK) (N := 3906) left1 (Hook.of HK) (Hook.keeps HK)
    (fun s e => xl_of s (Bool.and_eq_true_iff.mp e).1) XL.keeps (by rfl) (by rfl) (by rfl) (fun s e => recFacts_of (Bool.and_eq_true_iff.mp e).2) (by rfl) said (by decide +kernel) ⟨rfl, rfl, rfl, rfl, rfl, by decide +kernel⟩ ?xw ?xc
  case xw => w_witness2
  clear said
  k_fill
  intro wq s₀ sq mgq mbq Gq Yq faq oq pmq cdq docq dVq kVq hoq hdq hcdq hDq hmgq hgq argsq valsq asq hpreq hlayq hrdq hwlq hloq
  have KX := kIn_of Yq
  have Xq := (Ground.X Gq).1
  have Vq := (Ground.X Gq).2
  refine Ground.open Gq ?_
  intro Tq Bq Dq TEq TWq
  (try (refine guard_noD Dq (by decide +kernel) ?_; clear Dq))
  obtain ⟨_, _, Mq⟩ := bmod_of_top Tq
  have TAq := at_of_top Tq
  (try (obtain ⟨_, _, heq, B0q⟩ := based_of_top Tq rfl hmgq hoq hdq; have heq' : cdq = _ := heq; subst heq'; clear heq))
  clear hmgq
  wrow_args hpreq hlayq hrdq hwlq hloq
  all_goals (
    first | refine callC_kw (enter_call ?_) | refine enter_call ?_ | refine callC_kw (enter_callW ?_) | refine enter_callW ?_ | w_how
    w_top on
    try refine codeAny_mono ?_ (fun _ _ g => GoodW.toG g)
    have K0q := below_caller (Top.heap Tq)
    w_call any hoq hdq hcdq hDq Tq F
    clear hdq TAq
    k_drop
    skip)
  rename IntsAre _ _ => hI
  rename Heap.IsList _ _ _ => hL
  rename (Frag.In _ _) => KX
  rename Top _ _ _ _ _ _ => TT
  have TR := topRead_of TT
  rename Below _ _ _ _ => K0
  rename Fr _ _ _ _ => F0
  rename News _ _ _ _ => N0
  rename Obj.data _ = _ => hc0
  rename ¬ ((63 : Nat) : Int) < _ => h63
  rename Shared => s₁
  have hlen := hI.length
  rename List Int => ns
  have F1 : Fr _ _ _ (fun y => if y = Str.ofString "script" then some (.ref _) else none) := F0
  have hc1 : _ = Data.cell none := hc0
  have K1 : Below callerA s₁.heap [] s₁.heap := K0
  dsimp only
  rename Ground _ _ _ _ _ _ _ _ _ => z0
  rename Heap.get? _ _ = _ => z1
  rename Flt.MathXP _ _ _ => z2
  rename LooseAre _ _ _ => z3
  rename PyProof.Rows.Tables _ _ _ _ => z5
  rename TopE _ _ _ _ => z6
  rename TopW _ _ _ => z7
  rename BMod _ _ _ _ _ => z8
  rename Heap.CodeRec _ _ _ => z9
  rename CellsAre _ _ _ => z10
  rename Dflts _ _ _ _ _ _ => z11
  refine wpAny_mono (Q := fun fl s' => fl = .ret (.bool true) ∧ ∃ h' tk m', s' = { s₁ with heap := h', toks := tk } ∧ Fr s₁.heap s₁.heap.objs.size h' m') (E := fun _ _ => False) ?_ (fun fl s' hfl => ?_) (fun _ _ hf => hf.elim)
  rotate_left
  · obtain ⟨rfl, h', tk, m', rfl, F9⟩ := hfl
    clear z0 z2 z3 z5 z6 z7 z8 z9 z10 F0 hc0 F1 N0 hc1
    dsimp only
    (k_steps)
  clear z0 z2 z3 z5 z6 z7 z8 z9 z10 z11 F0 hc0
  k_extra "lgo"
  refine Halt.of ?_
  refine' GivesN.use2 (g_law_pool ?al hI ?an ?aX ?aT ?ar) ?aF ?aN ?_
  (case al => exact isList_keep hL (Fr.keep (by assumption)))
  (case an => omega)
  (case aX => k_extra "mK")
  (case aT => k_extra "mT")
  (case ar => k_extra "mroom")
  (case aF => k_asm)
  (case aN => k_asm)
  rintro v nw h2 n2 ⟨sa, x, y, t1, t2, rfl, rfl, p1, p2, p3⟩ F2 N2 st2 hf2
  have hs : SrcO (listOf [.int x t1, .int y t2].toArray 0) := ⟨x, y, t1, t2, 0, rfl, p1, p2, p3⟩
  have hne := offOne (hf2 _ (.head _))
  simp only [List.cons_append, List.nil_append] at N2
  generalize listOf [.int x t1, .int y t2].toArray 0 = o0 at hs N2
  clear hf2 st2 p1 p2 p3
  dsimp only at hne
  (try k_sweep)
  k_extra "lgo"
  refine Halt.of ?_
  refine' tables_use ?bF ?bN ?bU hs ?bX ?bT ?br ?_
  (case bF => k_asm)
  (case bN => k_asm)
  (case bU => k_updF)
  (case bX => k_asm)
  (case bT => k_asm)
  (case br => k_extra "mroom")
  intro dd od kvs tb o' h3 n3 lod hd3 hK hT hs3 F3 N3 hof
  have hnd1 : @Ne Nat sa dd := hof _ (.head _)
  have hnd2 : @Ne Nat (s₁.heap.objs.size + 1) dd := hof _ (.tail _ (.head _))
  (try dsimp only at N3)
  (try k_sweep)
  have Fi := hT.fine
  have hkl := hK.len
  have gd := Fi.g
  k_extra "lgo"
  rename Obj => co
  refine Halt.of ?_
  refine' Gives.use (g_write_tables ?cX ?cT ?cr ?cI lod ?cD hK gd) ?cF ?cN ?_
  (case cF => k_asm)
  (case cN => k_asm)
  (case cX => k_extra "mK")
  (case cT => k_extra "mT")
  (case cr => k_extra "mroom")
  (case cI => k_extra "mtab")
  (case cD => k_extra "mdict")
  rintro v h4 n4 ⟨u4, rfl⟩ F4 N4 st4
  have V := font_vw Fi
  have Rt := font_right Fi
  have Dn := V.dir Fi
  have hW := font_wrong Fi
  have hle := V.le Fi
  have hnd := V.nodup Fi
  have hlook := fun {tag : Str} => V.look Fi (tag := tag)
  have hsum : headS ∈ keysT tb → lsum (fontO tb) (fontO tb).length % w32 = 2981146554 := fun h => by rw [← font_sum Fi h, sumO_ls]; rfl
  have hsp := fun {j o : Nat} {t : Str} {b : UInt8} => spoilt_wrong Fi (j := j) (o := o) (t := t) (b := b)
  have hspD := fun {j o : Nat} {t : Str} {b : UInt8} (h : (srt tb)[j]? = some t) (ho : o < (lk tb t).length) => (V.set Fi (b := b) h ho).dir Fi
  have hsh := fun {k : Nat} => bad_short V Fi (k := k)
  have hb9 := bad_nine V Fi
  have htw := bad_twice V Fi
  generalize fontO tb = f at *
  clear st4
  (try k_sweep)
  k_extra "lgo"
  refine Halt.of ?_
  refine' Gives.use (g_law_directory_right ?dX ?dT ?dr lod ?dD hK gd Rt) ?dF ?dN ?_
  (case dF => k_asm)
  (case dN => k_asm)
  (case dX => k_extra "mK")
  (case dT => k_extra "mT")
  (case dr => k_extra "mroom")
  (case dD => k_extra "mdict")
  rintro v h5 n5 rfl F5 N5 st5
  clear st5
  (try k_sweep)
  k_extra "lgo"
  refine Halt.of ?_
  refine' GivesN.use2 (g_wrong_sums Dn ?eX ?eT ?er) ?eF ?eN ?_
  (case eF => k_asm)
  (case eN => k_asm)
  (case eX => k_extra "mK")
  (case eT => k_extra "mT")
  (case er => k_extra "mroom")
  rintro v nw h6 n6 ⟨a6, vs6, e6, rfl, hS6, rfl⟩ F6 N6 st6 hf6
  rw [hW] at hS6
  clear st6 hf6
  simp only [List.cons_append, List.nil_append] at N6
  (try k_sweep)
  k_extra "lgo"
  refine Halt.of ?_
  refine' l_ne_strs (ss2 := []) (vs2 := []) ?fN ?fa ?fb hS6 .nil ?fu ?_
  (case fN => k_asm)
  (case fa => k_mem)
  (case fb => k_mem)
  (case fu => k_units)
  rw [show (!decide (([] : List Str) = [])) = false from rfl]
  clear hS6
  k_extra "lgo"
  refine Halt.of ?_
  rename News _ _ _ _ => N7
  rename Fr _ _ _ _ => F7
  have N8 := newsSub (small := [(dd, od), (sa, o'), (s₁.heap.objs.size + 1, co)]) N7 (by k_extra "ksub")
  clear N7
  refine join_if F7 N8 ?_ fun h8 n8 F8 N8 => ?_
  · k_extra "lgo"
    · exact absurd (hsum (hK.mem (by assumption))) (by assumption)
    · exact Goes.intro (by assumption) (by assumption)
    · exact Goes.intro (by assumption) (by assumption)
  clear F7
  k_extra "lgo"
  refine Halt.of ?_
  refine' GivesN.use2 (g_read_tables Dn hnd ?gX ?gT ?gr) ?gF ?gN ?_
  (case gF => k_asm)
  (case gN => k_asm)
  (case gX => k_extra "mK")
  (case gT => k_extra "mT")
  (case gr => k_extra "mroom")
  rintro v nw h9 n9 ⟨tx, tdx, tdd, to, tt1, tn1, tkv, rfl, rfl, tlo, thd, thK⟩ F9 N9 st9 hf9
  clear st9 hf9
  simp only [List.cons_append, List.nil_append] at N9
  (try k_sweep)
  k_extra "lgo"
  rename Fr _ _ _ _ => F10
  rename News _ _ _ _ => N10
  refine forDict rfl lod (Heap.dictOf_iff.mpr ⟨od, N10.get (.tail _ (.tail _ (.tail _ (.head _)))), hd3⟩) ?_ F10 N10
    (fun i m news => m "font" = some (.bytes f.toArray u4) ∧ m "source" = some (.ref sa) ∧ m "told" = some (.ref tx) ∧ news = [(tx, instObj 145 tdx), (tdx, tabD _ tt1 tn1 (.ref tdd)), (tdd, to), (dd, od), (sa, o'), (s₁.heap.objs.size + 1, co)]) ⟨rfl, rfl, rfl, rfl⟩ ?_ ?_
  · exact (N10 _ (.tail _ (.tail _ (.tail _ (.head _))))).2.1
  · rintro i tag tt y m₁ news₁ h tk own hv ⟨hm1, hm2, hm3, rfl⟩ hnf hof hD₁ hIl F₁ N₁
    have hmem : tag ∈ keysT tb := by rw [← hK.keys]; exact List.mem_map.mpr ⟨_, List.mem_of_getElem? hv, rfl⟩
    obtain ⟨t1, hv1⟩ := hK.at hmem
    have hk5 : tag.cps.size + (Str.ofString "    ").cps.size ≤ 100000   := padz_le (Fi.t5 hmem)
    obtain ⟨hl1, hl2⟩ := hlook hmem
    obtain ⟨t2, hv2⟩ := thK.at hl1
    rw [hl2, ← t_pad _ (Fi.t5 hmem)] at hv2
    unfold padK at hv2
    have hz1 := Fi.sz _ (lk_mem hmem)
    dsimp only at hz1
    have hz2 : (bd tb tag).length = (lk tb tag).length := bd_len Fi hmem
    have hb1 : (plT tag (bd tb tag) != plT tag (lk tb tag)) = false := by rw [plT_bd Fi hmem]; exact bne_self_eq_false _
    clear hl1 hl2
    simp only [List.cons_append, List.nil_append] at N₁
    k_sweep
    k_extra "lgo"
    exact TurnEnd.intro _ (by assumption) (by assumption) hnf ⟨by exact hm1, by exact hm2, by exact hm3, rfl⟩
  · rintro h tk m₁ news₁ ⟨hm1, hm2, hm3, rfl⟩ F₁ N₁
    clear F10 N10
    k_sweep
    k_extra "lgo"
    refine Halt.of ?_
    replace N₁ := newsSub (small := [(dd, od), (sa, o'), (s₁.heap.objs.size + 1, co)]) N₁ (by k_extra "ksub")
    refine comp_test (h₀ := s₁.heap) (cl := [(Str.ofString "tables", s₁.heap.objs.size + 1)]) (fun k => lk tb k != []) rfl (by rfl) rfl (by decide) rfl (by decide) rfl (by rfl) (by rfl) ?_
    k_extra "lgo"
    rename Fr _ _ _ _ => F11
    rename News _ _ _ _ => N11
    have hDd := Heap.dictOf_iff.mpr ⟨od, N11.get (.head _), hd3⟩
    refine sorted_dict rfl F11 N11 lod hDd (by rw [hkl]; have := gd.five; omega) fun D h₁ tk₁ vs e hS F₁ N₁ hDn st => ?_
    rw [hK.keys] at hS
    refine ⟨D, vs, srt tb, _, _, e, rfl, F₁, N₁, hS, by rw [srt_len]; have := gd.five; omega, ?_, ?_, ?_⟩
    · intro C k u s₃ m₃ E' hk hn hm hst
      have hD3 : TabD _ s₃.heap dd kvs := (hDd.keep st).keep hst
      have hcv : CellAt s₃.heap (s₁.heap.objs.size + 1) (.ref dd) := ⟨_, hst _ _ (N₁.get (.tail _ (.tail _ (.tail _ (.head _))))), by assumption⟩
      obtain ⟨t1, hv1⟩ := hK.at (srt_mem.mp hk)
      obtain ⟨h₃, g₃, d₃, t₃, o₃⟩ := s₃
      k_extra "lgo"
      exact ⟨h₃, _, rfl, fun _ _ e => e⟩
    · intro C k u s₃ m₃ E' hk hn hm hst
      obtain ⟨h₃, g₃, d₃, t₃, o₃⟩ := s₃
      k_extra "lgo"
      · exact ⟨_, rfl⟩
      · exact ⟨h₃, _, rfl, fun _ _ e => e⟩
    · intro D' h' tk' ys e' F₂ N₂ hS' hne'
      k_extra "lgo"
      refine Halt.of ?_
      generalize hrs : (srt tb).filter (fun k => lk tb k != []) = rs at hS'
      have hyl := StrsAre.length hS'
      have hrl : rs.length ≤ 5 := by
        have h1 := List.length_filter_le (fun k => lk tb k != []) (srt tb)
        rw [hrs, srt_len] at h1
        have := gd.five; omega
      have N₃ := newsSub (small := [(D', listOf ys.toArray e'), (dd, od), (sa, o'), (s₁.heap.objs.size + 1, co)]) N₂ (by k_extra "ksub")
      have hD1 : @Ne Nat D' sa := fun q => hne' _ (.tail _ (.head _)) q.symm
      clear F11 N11 F₁ N₁ hDd hDn st hS N₂ hne'
      refine join_left (h₀ := s₁.heap) (L := s₁.heap.objs.size) [(Str.ofString "font", .bytes f.toArray u4), (Str.ofString "source", .ref sa)] [(dd, od)] [(s₁.heap.objs.size + 1, co)] sa ?_ ?_
      · k_sweep
        k_extra "lgo"
        refine Halt.of ?_
        refine' l_ne_strs (ss2 := []) (vs2 := []) ?hN ?ha ?hb hS' .nil ?hu ?_
        (case hN => k_asm)
        (case ha => k_mem)
        (case hb => k_mem)
        (case hu => k_units)
        by_cases hr0 : rs = []
        · rw [decide_eq_true hr0]
          k_extra "lgo"
          refine' Left.intro ?lF ?lN hs3 ?lk
          (case lF => assumption)
          (case lN => exact newsSub (small := [(dd, od), (sa, o'), (s₁.heap.objs.size + 1, co)]) (by assumption) (by k_extra "ksub"))
          (case lk => (intro p hp; (rcases List.mem_cons.mp hp with rfl | hp); exact hm1; rw [List.mem_singleton.mp hp]; exact hm2))
        · rw [decide_eq_false hr0]
          have hr1 : 0 < rs.length := List.length_pos_iff.mpr hr0
          k_extra "lgo"
          refine Halt.of ?_
          refine' one_use ?oF ?oN ?oU hs3 ?om ?one ?oX ?oT ?or ?oa ?ob ?_
          (case oF => k_asm)
          (case oN => k_asm)
          (case oU => k_updF)
          (case om => k_mem)
          (case one => exact hD1)
          (case oX => k_asm)
          (case oT => k_asm)
          (case or => k_extra "mroom")
          (case oa => omega)
          (case ob => omega)
          intro i₅ v₅ o₅ h₅ n₅ hv₅ hs₅ F₅ N₅
          obtain ⟨tag, tt, hti, rfl⟩ := strsAre_at hS' hv₅
          have hmr := List.mem_of_getElem? hti
          rw [← hrs] at hmr
          obtain ⟨hms, hmn⟩ := List.mem_filter.mp hmr
          have hmem := srt_mem.mp hms
          have hlp : 0 < (lk tb tag).length := List.length_pos_iff.mpr (by simpa using hmn)
          obtain ⟨j, hjl, hj⟩ := List.getElem_of_mem hms
          have hj' : (srt tb)[j]? = some tag := by rw [List.getElem?_eq_getElem hjl, hj]
          rw [srt_len] at hjl
          have hk5 : tag.cps.size + (Str.ofString "    ").cps.size ≤ 100000 := padz_le (Fi.t5 hmem)
          clear hmr hmn hv₅ hS'
          (try dsimp only at N₅)
          k_sweep
          k_extra "lgo"
          refine comp_dict (cl := []) padK rfl rfl (by decide) rfl (by decide) rfl ?_
          k_extra "lgo"
          rename Fr _ _ _ _ => F₆
          rename News _ _ _ _ => N₆
          have hD6 := Heap.dictOf_iff.mpr ⟨od, N₆.get (.tail _ (.tail _ (.head _))), hd3⟩
          refine ⟨_, kvs, rfl, lod, hD6, by rw [hkl]; have := gd.five; omega, ?_, ?_⟩
          · intro C k u₂ s₃ m₃ E' hk hn hm hst
            have hk5 : k.cps.size + (Str.ofString "    ").cps.size ≤ 100000 := padz_le (Fi.t5 (by rw [← hK.keys]; exact hk))
            obtain ⟨h₃, g₃, d₃, t₃, o₃⟩ := s₃
            k_extra "lgo"
            exact ⟨_, rfl⟩
            exact ⟨_, _, rfl, by assumption⟩
          · intro D₆ h₆ tk₆ yt hDn₆ hl₆ hi₆ hst₆
            replace F₆ := F₆.keeps hst₆
            replace N₆ := N₆.grown hst₆
            k_sweep
            k_extra "lgo"
            have hyt : yt.length < 64 := by rw [StrsAre.length hi₆, List.length_map, List.length_map, hkl]; have := gd.five; omega
            refine sorted_list F₆ N₆ hl₆ hi₆ hyt fun D₇ h₇ vs₇ e₇ hS₇ F₇ N₇ lt₇ => ?_
            rw [hK.keys, Rt.psort] at hS₇
            clear F₆ N₆ hl₆ hDn₆ hst₆ hD6
            k_sweep
            k_extra "lgo"
            have hv₇ : vs₇.length ≤ 1000 := by rw [StrsAre.length hS₇, List.length_map, srt_len]; have := gd.five; omega
            have hjp : ((srt tb).map padK)[j]? = some (padK tag) := by rw [List.getElem?_map, hj']; rfl
            show wpAny _ _ (call (Value.builtin "list.index") [Value.ref D₇, Value.str (padK tag) _]) _ _ _
            refine' l_index_strs (k := padK tag) ?xN ?xm hS₇ hv₇ ?xn hjp ?_
            (case xN => k_asm)
            (case xm => k_mem)
            (case xn => rw [← Rt.psort]; exact (sortS_perm _).nodup_iff.mpr Rt.pnd)
            clear hS₇
            obtain ⟨t1, hv1⟩ := hK.at hmem
            have hfl2 := hle
            have hpl := Rt.place j tag hj'
            have hrm : 12 + 16 * tb.length ≤ f.length := by rw [← Rt.whole]; unfold pos; omega
            have e8 : (20 + 16 * (j : Int)).toNat = 12 + 16 * j + 8 := by omega
            have hz1 := gd.size _ (lk_mem hmem)
            dsimp only at hz1
            rw [← e8] at hpl
            k_sweep
            k_extra "lgo"
            refine Halt.of ?_
            rename News _ _ _ _ => N₈
            have N₉ := newsSub (small := [(dd, od), (sa, o₅), (s₁.heap.objs.size + 1, co)]) N₈ (by k_extra "ksub")
            clear N₈
            refine' join_exp (h₀ := s₁.heap) (L := s₁.heap.objs.size) (fun o => [(dd, od), (sa, o), (s₁.heap.objs.size + 1, co)]) (fun k => 0 ≤ k ∧ k < (lk tb tag).length ∧ (tag = headS → k < 8)) ?yF ?yh ?_
            (case yF => k_asm)
            (case yh =>
              k_extra "lgo"
              · exact Drawn.intro (drawA Fi hmem (by assumption) (by assumption) (by assumption)) (by assumption) (by assumption) (by assumption)
              · exact Drawn.intro (drawB (by assumption) (by assumption) (by assumption)) (by assumption) (by assumption) (by assumption))
            rintro k t₈ o₈ h₈ n₈ ⟨k0, k1, k8⟩ hs₈ F₈ N₈
            (try dsimp only at N₈)
            have ka : (pos tb j : Int) + k + 1 ≤ f.length := by
              have h1 := pos_succ hj'
              have h2 := fil_len (lk tb tag)
              have h3 := pos_mono' (tb := tb) (i := j + 1) (j := tb.length) hjl
              rw [Rt.whole] at h3
              unfold flen at h1
              omega
            k_sweep
            k_extra "lgo"
            refine Halt.of ?_
            have hat : (rd32 f (20 + 16 * (j : Int)).toNat + k).toNat = pos tb j + k.toNat := by omega
            have ho : k.toNat < (lk tb tag).length := by omega
            have ha0 : 0 ≤ rd32 f (20 + 16 * (j : Int)).toNat + k := by omega
            have ha1 : rd32 f (20 + 16 * (j : Int)).toNat + k < (f.length : Int) := by omega
            refine' GivesN.use2 (g_wrong_sums (n' := tb.length) ?zD ?zX ?zT ?zr) ?zF ?zN ?_
            (case zF => k_asm)
            (case zN => k_asm)
            (case zX => k_extra "mK")
            (case zT => k_extra "mT")
            (case zr => k_extra "mroom")
            (case zD => rw [spo_eq ha0 ha1, hat]; exact hspD hj' ho)
            rintro v nw h₉ n₉ ⟨a₉, vs₉, e₉, rfl, hS₉, rfl⟩ F₉ N₉ st₉ hf₉
            rw [spo_eq ha0 ha1, hat, hsp hj' ho (fun e => by have := k8 e; omega) (spo_ne (by assumption) (by assumption))] at hS₉
            clear st₉ hf₉
            simp only [List.cons_append, List.nil_append] at N₉
            k_sweep
            k_extra "lgo"
            refine Halt.of ?_
            dsimp only
            refine' l_mul_strs (ss := [Str.ofString ""]) ?uF ?uN ?ua (.cons _ _ .nil) (ite_nn _) ?u1 ?uz ?_
            (case uF => k_asm)
            (case uN => k_asm)
            (case ua => k_mem)
            (case u1 => split <;> decide)
            (case uz => exact Nat.le_of_ble_eq_true rfl)
            intro Da ha va ea Fa Na hSa lta
            rw [one_of hK] at hSa
            have hvz : va.toArray.size ≤ 1 := by
              rw [List.size_toArray, StrsAre.length hSa]; split <;> decide
            clear lta
            k_sweep
            k_extra "lgo"
            rename StrsAre va _ => hSb
            refine Halt.of ?_
            dsimp only
            refine' l_ne_strs (ss2 := (if headS ∈ keysT tb then [Str.ofString ""] else []) ++ [padK tag]) ?vN ?va ?vb hS₉ (StrsAre.snoc hSb) ?vu ?_
            (case vN => k_asm)
            (case va => k_mem)
            (case vb => k_mem)
            (case vu => k_units)
            rw [t_pad tag (Fi.t5 hmem), decide_eq_true rfl]
            k_extra "lgo"
            rename SrcO _ => hs₁₀
            refine' Left.intro ?wF ?wN hs₁₀ ?wk
            (case wF => assumption)
            (case wN => exact newsSub (small := [(dd, od), (sa, _), (s₁.heap.objs.size + 1, co)]) (by assumption) (by k_extra "ksub"))
            (case wk => (intro p hp; (rcases List.mem_cons.mp hp with rfl | hp); exact hm1; rw [List.mem_singleton.mp hp]; exact hm2))
      · rintro h₄ tk₄ m₄ o₄ hk₄ hs₄ F₄ N₄
        have hm1 := hk₄ _ (.head _)
        have hm2 := hk₄ _ (.tail _ (.head _))
        simp only [List.cons_append, List.nil_append] at N₄
        clear hk₄
        k_sweep
        k_extra "lgo"
        refine Halt.of ?_
        refine' fell_use (hsh ?fk) KX TR K1 ?fF rfl rfl rfl ?fr ?_
        (case fk => omega)
        (case fF => k_asm)
        (case fr => k_extra "mroom")
        intro h₆ n₆ F₆
        have N₆ : News s₁.heap s₁.heap.objs.size h₆ [] := fun _ h => nomatch h
        k_sweep
        k_extra "lgo"
        refine Halt.of ?_
        refine' fell_use hb9 KX TR K1 ?gF rfl rfl rfl ?gr ?_
        (case gF => k_asm)
        (case gr => k_extra "mroom")
        intro h₇ n₇ F₇
        k_sweep
        k_extra "lgo"
        refine Halt.of ?_
        refine' fell_use htw KX TR K1 ?iF rfl rfl rfl ?ir ?_
        (case iF => k_asm)
        (case ir => k_extra "mroom")
        intro h₈ n₈ F₈
        k_extra "lgo"
        exact ⟨_, _, _, rfl, F₈⟩

end Mine
theorem PySem.Challenge.cw_nu0014_01_holds : PySem.Challenge.rw_nu0014_01.Holds :=
  Mine.law_holds
