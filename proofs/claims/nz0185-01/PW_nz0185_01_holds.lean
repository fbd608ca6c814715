import PyProof.Rows.All
import Wide.All
import OpenK.AllK
import Wide.FinOn
import Lean
import PySem.Challenge.RW_nz0185_01
open PySem PySem.W PyProof.Rows PySem.Calls PySem.Spec
set_option Elab.async false
set_option maxRecDepth 100000
set_option maxHeartbeats 8000000
set_option linter.unusedSimpArgs false
set_option linter.unusedVariables false
set_option rowWalk.seconds 0
section
namespace Mine
section
local macro_rules | `(tactic| o_head $_) => `(tactic| assumption)
theorem mk (h : PySem.Challenge.rw_nz0185_01.row.Holds) : PySem.Challenge.rw_nz0185_01.row.Holds := by k_head
end
theorem ws3 : namesResolve PySem.Challenge.rw_nz0185_01.row.prog = true := by kernel_rfl
theorem ws5 : noRoadLSs { strict := !(importedModules PySem.Challenge.rw_nz0185_01.row.prog.main.body).all cThrough.contains, foot := none, bare := (["vars", "dir", "locals"] : List Str).filter (readsOut PySem.Challenge.rw_nz0185_01.row.prog PySem.Challenge.rw_nz0185_01.row.prog.main.body) } PySem.Challenge.rw_nz0185_01.row.prog.main.body = true := by kernel_rfl
theorem ws6 : (namesMeet PySem.Challenge.rw_nz0185_01.row.prog PySem.Challenge.rw_nz0185_01.row.prog.main.body fun _ n => attrL n) = true := by kernel_rfl
theorem ws31 : (PySem.Challenge.rw_nz0185_01.bound'.all fun n => !builtinNamed n || PySem.Challenge.rw_nz0185_01.about == [n] || !PySem.Challenge.rw_nz0185_01.reads n) = true := by kernel_rfl
theorem ws27 : noRoadLSs { strict := true, foot := some PySem.Challenge.rw_nz0185_01.bound', writes := PySem.Challenge.rw_nz0185_01.writes, may := PySem.Challenge.rw_nz0185_01.may } PySem.Challenge.rw_nz0185_01.footing = true := by kernel_rfl
theorem wsp : PySem.Challenge.rw_nz0185_01.row.partSaid = true := by
  unfold OpenRow.partSaid looksOpen
  repeat' (with_reducible refine look_both ?_ ?_)
  all_goals first
    | (with_reducible exact ws3)
    | (with_reducible exact ws5)
    | (with_reducible exact ws6)
    | kernel_rfl
theorem ws0 : PySem.Challenge.rw_nz0185_01.wellSaid = true := by
  unfold OpenLaw.wellSaid OpenRow.wellSaid
  repeat' (with_reducible refine look_both ?_ ?_)
  all_goals first
    | (with_reducible exact wsp)
    | (with_reducible exact ws31)
    | (with_reducible exact ws27)
    | kernel_rfl
theorem hol (h : PySem.Challenge.rw_nz0185_01.row.wellSaid = true → PySem.Challenge.rw_nz0185_01.row.Holds) : PySem.Challenge.rw_nz0185_01.Holds := by
  refine holds_law ws0 fun said => ?_
  exact h said
end Mine
end
section
namespace Mine
noncomputable abbrev pw : Program := PySem.Challenge.rw_nz0185_01.row.toRowW.prog
noncomputable def view : Program := { pw with main := { pw.main with body := ([0,2,3,4,5,6,7,8,9,10,12,13,14,15,16,17,18,19,20,21,22,23,25,26,27,28,29,30,31,32,33,34,35,36,37,38,40,42,43,44,45,46,47,48,49,50,51,52,53,54] : List Nat).filterMap fun i => pw.main.body[i]? } }
noncomputable def o43 : Obj := { cls := .type "tuple", data := .seq #[] }
noncomputable def o44 : Obj := { cls := .none, data := .fields #[] }
noncomputable def o45 : Obj := { cls := .type "code", data := .fields #[.str (Str.ofString "<module>") 182, .str (Str.ofString "<module>") 183, .str (Str.ofString "/claim/cut.py") 184, .int 1 0, .int 0 0, .int 0 0, .int 0 0, .int 0 0, .ref 11, .bool false, .int 181 0, .ref 12, .none, .none, .none, .none, .int 185 0, .int 1 0, .str (Str.ofString "/claim/cut.py") 186] }
noncomputable def o46 : Obj := { cls := .type "frame", data := .plain, slots := #[some (.ref 13), some (.ref 3), some (.ref 3), none, some (.str (Str.ofString "__main__") 164), none, some (.ref 0)] }
noncomputable def heap0 (P : Params) : Heap := ⟨#[boot_o_0 P, boot_o_1 P, boot_o_2 P, boot_o_3 P, boot_o_4 P, boot_o_5 P, boot_o_6 P, boot_o_7 P, boot_o_8 P, boot_o_9 P, boot_o_10 P, o43, o44, o45, o46], {}⟩
noncomputable def tree0 (P : Params) : BT :=
  .node (boot_o_0 P)
    (.node (boot_o_1 P)
      (.node (boot_o_3 P) (.node (boot_o_7 P) .nil .nil) (.node o43 .nil .nil))
      (.node (boot_o_5 P) (.node (boot_o_9 P) .nil .nil) (.node o45 .nil .nil)))
    (.node (boot_o_2 P)
      (.node (boot_o_4 P) (.node (boot_o_8 P) .nil .nil) (.node o44 .nil .nil))
      (.node (boot_o_6 P) (.node (boot_o_10 P) .nil .nil) (.node o46 .nil .nil)))
noncomputable def env0 : Env := { scope := pw.main.scope, locals := mainNs, globals := mainNs, cells := [], code := .ref 13, frame := some 14 }
noncomputable abbrev body0 : List Stmt := behindTheImports pw
noncomputable abbrev cE : Code := .body body0 env0
noncomputable abbrev pos0 : Pos := ⟨0, 0, 0, 0⟩
noncomputable abbrev ann0 : Option Value := some (.ref 6)
noncomputable def s0T (w : World) (os : OsState) : SharedT := { tree := tree0 w.params, n := 15, life := {}, gens := #[], drawn := {}, toks := 187, os := os }

theorem pre_t (w : World) (os : OsState) : PySem.W.Fast.tw15667345088766844465 PySem.W.Fast.tw14364793385576792824 pw w 11 ann0 12 ⟨boot_heap w.params, #[], boot_drawn, boot_toks, os⟩ (topStub pw) =
    some (⟨heap0 w.params, #[], {}, 187, os⟩, ⟨PySem.W.Fast.tw11892475500146522536 PySem.W.Fast.tw14364793385576792824 cE, cE, pos0, [topFrame pos0]⟩) := by kernel_rfl
theorem block_t (w : World) (os : OsState) : PySem.W.Fast.tw14374325043358763698 PySem.W.Fast.tw14364793385576792824 pw w 11 ann0 1 1 ⟨heap0 w.params, #[], {}, 187, os⟩ (blockOf body0 env0 cE pos0 [topFrame pos0]) =
    some (.next, (s0T w os).abs, cE, pos0) := by kernel_rfl
noncomputable abbrev K : Params → Frag := Mine.mk.heap_1
noncomputable def as0 : List Addr := [2, 3, 15, 17, 18, 20, 21, 22, 24, 25, 27, 28, 29, 31, 32, 34, 35, 36, 38, 39, 41, 42, 43, 45, 46, 48, 49, 50, 52, 53, 55, 56, 57, 59, 60, 62, 63, 64, 66, 67, 69, 70, 78, 80, 81, 83, 84, 85, 86, 87, 88, 89, 92, 99, 101, 102, 104, 105, 106, 107, 108, 111, 118, 120, 121, 123, 124, 125, 126, 127, 130, 137, 139, 140, 142, 143, 144, 145, 146, 149, 156, 158, 159, 161, 162, 163, 164, 165, 168, 175, 177, 178, 180, 181, 182, 183, 184, 194, 195, 197, 198, 200, 201, 202, 203, 204, 205, 206, 216, 218, 219, 221, 222, 223, 225, 226, 228, 229, 230, 232, 233, 235, 236, 237, 239, 240, 242, 243, 244, 246, 247, 249, 250, 251, 253, 254, 256, 257, 258, 260, 261, 263, 264, 265, 266, 267, 268, 269, 272, 274, 275, 277, 278, 279, 281, 282, 284, 285, 286, 288, 289, 291, 292, 293, 295, 296, 298, 299, 300, 302, 303, 305, 306, 307, 309, 310, 312, 313, 314, 316, 317, 319, 320, 321, 323, 324, 326, 327, 328, 330, 331, 333, 334, 335, 337, 338, 340, 341, 342, 344, 345, 347, 348, 349, 351, 352, 354, 355, 356, 358, 359, 361, 362, 363, 365, 366, 368, 369, 377, 378, 380, 381, 383, 384, 385, 386, 387, 388, 389, 392, 394, 395, 397, 398, 399, 401, 402, 404, 405, 406, 408, 409, 411, 412, 413, 415, 416, 418, 419, 420, 422, 423, 425, 426, 427, 429, 430, 432, 433, 434, 436, 437, 439, 440, 441, 444, 445, 446, 448, 449, 451, 452, 453, 455, 456, 458, 459, 460, 462, 463, 465, 466, 467, 469, 470, 472, 473, 474, 477, 478]
theorem as0_ok : ∀ P, as0 = (K P).map (·.1) := fun _ => by kernel_rfl
noncomputable abbrev H0 : Hook := kHook K as0 as0_ok
noncomputable abbrev mods0 : List Str := importedModules pw.main.body
noncomputable abbrev loose0 : List Str := [Str.ofString "Limits"]
noncomputable abbrev Xt0 : Shared → Bool := fun s => xlAt view [] s && recOk PySem.Challenge.rw_nz0185_01.row.toRowW.records s
noncomputable def xE : Obj := { cls := .none, data := .fields #[] }
noncomputable def xT : Obj := { cls := .type "tuple", data := .seq #[] }
noncomputable def xP : Obj := { cls := .type "builtin_function_or_method", data := .fields #[.builtin "type.__prepare__", .type "type"] }
noncomputable def xS (a : Addr) : Obj := { cls := .type "super", data := .fields #[.ref a, .ref a, .ref a] }
noncomputable def xI (a : Addr) : Obj := { cls := .type "builtin_function_or_method", data := .fields #[.builtin "object.__init_subclass__", .ref a] }
noncomputable def xF (a b : Addr) (m : String) (t : Nat) : Obj := { cls := .type "frame", slots := #[some (.ref a), some (.ref 3), some (.ref b), none, some (.str (Str.ofString m) t), none, some (.ref 0)] }
noncomputable def xC (m : String) (a b c : Nat) (l : Int) (d e : Addr) (f : Int) (g : Nat) : Obj := { cls := .type "code", data := .fields #[.str (Str.ofString m) a, .str (Str.ofString m) b, .str (Str.ofString "/claim/cut.py") c, .int l 0, .int 0 0, .int 0 0, .int 0 0, .int 0 0, .ref d, .bool false, .int 181 0, .ref e, .none, .none, .none, .none, .int f 0, .int l 0, .str (Str.ofString "/claim/cut.py") g] }
noncomputable def xV : List (Int × Int × Addr) → List Value
  | [] => []
  | (a, b, c) :: r => .int a 0 :: .int b 0 :: .ref c :: xV r
noncomputable def xL (l : List (Int × Int × Addr)) : Obj := { cls := .none, data := .fields ⟨xV l⟩ }
noncomputable def xN (P : Params) (k : String) (t : Nat) (v : Value) : DictEntry := { hash := PyData.keyHash P (Str.ofString k), key := .str (Str.ofString k) t, val := v }
noncomputable def xD (l : List DictEntry) : Obj := { cls := .type "dict", data := .dict ⟨l⟩ l.length }
noncomputable def bare : List (Addr × Obj) → Obj
  | _ :: (_, ⟨_, _, .func f, _⟩) :: _ => { cls := .none, data := .func { f with globals := 0, defaults := .none, pyModule := .none, code := .none } }
  | _ => xE
noncomputable def kk : Option (Option Obj) := none
noncomputable def ff : Option (Option Obj) := some none
noncomputable def xx (o : Obj) : Option (Option Obj) := some (some o)
noncomputable def mrg : List (Option (Option Obj)) → List (Addr × Obj) → List Obj
  | [], _ => []
  | none :: r, k => match k with
    | [] => []
    | p :: q => p.2 :: mrg r q
  | some none :: r, k => bare k :: mrg r k
  | some (some o) :: r, k => o :: mrg r k
noncomputable def odds : List Obj → List Obj
  | a :: _ :: r => a :: odds r
  | l => l
noncomputable def toTree : Nat → List Obj → BT
  | n + 1, x :: r => .node x (toTree n (odds r)) (toTree n (odds r.tail))
  | _, _ => .nil
noncomputable def upd (f : Obj → Obj) : Nat → List Obj → List Obj
  | 0, x :: r => f x :: r
  | n + 1, x :: r => x :: upd f n r
  | _, [] => []
noncomputable def ents (k : Nat) (v : Value) : Obj → Obj
  | ⟨c, d, .dict ⟨e :: r⟩ _, s⟩ => ⟨c, d, .dict ⟨{ e with val := v } :: r.take k⟩ (k + 1), s⟩
  | o => o
noncomputable def flds (k : Nat) : Obj → Obj
  | ⟨c, d, .fields vs, s⟩ => ⟨c, d, .fields ⟨vs.toList.take k⟩, s⟩
  | o => o
noncomputable def subs (k : Nat) : Obj → Obj
  | ⟨c, d, .cls x, s⟩ => ⟨c, d, .cls { x with subclasses := x.subclasses.take k }, s⟩
  | o => o
noncomputable def items (P : Params) : List (Option (Option Obj)) := [xx (boot_o_0 P), xx (boot_o_1 P), kk, kk, xx (boot_o_4 P), xx (boot_o_5 P), xx (boot_o_6 P), xx (boot_o_7 P), xx (boot_o_8 P), xx (boot_o_9 P), xx (boot_o_10 P), xx (o43), xx (xL [(1, 0, 20), (7, 0, 27), (12, 0, 34), (14, 0, 41), (16, 0, 48), (29, 0, 55), (38, 0, 62), (45, 0, 69), (55, 0, 76), (64, 0, 97), (70, 0, 116), (76, 0, 135), (83, 0, 154), (91, 0, 173), (100, 0, 192), (105, 0, 214), (130, 0, 277), (142, 0, 284), (148, 0, 291), (157, 0, 298), (163, 0, 305), (171, 0, 312), (179, 0, 319), (181, 0, 326), (189, 0, 333), (195, 0, 340), (208, 0, 347), (212, 0, 354), (214, 0, 361), (220, 0, 368), (227, 0, 375), (236, 0, 397), (238, 0, 404), (240, 0, 411), (249, 0, 418), (271, 0, 425), (274, 0, 432), (288, 0, 439), (293, 0, 444), (297, 0, 451), (302, 0, 458), (309, 0, 465), (324, 0, 472), (331, 0, 477)]), xx (o45), xx (o46), kk, xx (xE), kk, kk, ff, kk, kk, kk, xx (xE), kk, kk, ff, kk, kk, kk, xx (xE), kk, kk, ff, kk, kk, kk, xx (xE), kk, kk, ff, kk, kk, kk, xx (xE), kk, kk, ff, kk, kk, kk, xx (xE), kk, kk, ff, kk, kk, kk, xx (xE), kk, kk, ff, kk, kk, kk, xx (xE), kk, kk, ff, kk, kk, xx (xT), xx (xP), xx (xD [xN P "__module__" 276 (.str (Str.ofString "perlcore.values") 265), xN P "__qualname__" 278 (.str (Str.ofString "Thing") 277), xN P "__firstlineno__" 280 (.int 55 279), xN P "__init__" 288 (.ref 84), xN P "__static_attributes__" 295 (.ref 85)]), xx (xT), xx (xL [(57, 4, 83)]), xx (xC "Thing" 271 272 273 55 74 75 274 275), xx (xF 76 73 "perlcore.values" 265), kk, xx (xE), kk, kk, ff, kk, kk, kk, kk, kk, kk, kk, xx (xS 87), xx (xI 87), kk, xx (xP), xx (xD [xN P "__module__" 310 (.str (Str.ofString "perlcore.values") 265), xN P "__qualname__" 312 (.str (Str.ofString "Scalar") 311), xN P "__firstlineno__" 314 (.int 64 313), xN P "__init__" 323 (.ref 105), xN P "__static_attributes__" 326 (.ref 106)]), xx (xT), xx (xL [(66, 4, 104)]), xx (xC "Scalar" 305 306 307 64 95 96 308 309), xx (xF 97 94 "perlcore.values" 265), kk, xx (xE), kk, kk, ff, kk, kk, kk, kk, kk, xx (xS 108), xx (xI 108), kk, xx (xP), xx (xD [xN P "__module__" 337 (.str (Str.ofString "perlcore.values") 265), xN P "__qualname__" 339 (.str (Str.ofString "Array") 338), xN P "__firstlineno__" 341 (.int 70 340), xN P "__init__" 349 (.ref 124), xN P "__static_attributes__" 352 (.ref 125)]), xx (xT), xx (xL [(72, 4, 123)]), xx (xC "Array" 332 333 334 70 114 115 335 336), xx (xF 116 113 "perlcore.values" 265), kk, xx (xE), kk, kk, ff, kk, kk, kk, kk, kk, xx (xS 127), xx (xI 127), kk, xx (xP), xx (xD [xN P "__module__" 363 (.str (Str.ofString "perlcore.values") 265), xN P "__qualname__" 365 (.str (Str.ofString "Hash") 364), xN P "__firstlineno__" 367 (.int 76 366), xN P "__init__" 375 (.ref 143), xN P "__static_attributes__" 379 (.ref 144)]), xx (xT), xx (xL [(78, 4, 142)]), xx (xC "Hash" 358 359 360 76 133 134 361 362), xx (xF 135 132 "perlcore.values" 265), kk, xx (xE), kk, kk, ff, kk, kk, kk, kk, kk, xx (xS 146), xx (xI 146), kk, xx (xP), xx (xD [xN P "__module__" 390 (.str (Str.ofString "perlcore.values") 265), xN P "__qualname__" 392 (.str (Str.ofString "Code") 391), xN P "__firstlineno__" 394 (.int 83 393), xN P "__init__" 404 (.ref 162), xN P "__static_attributes__" 409 (.ref 163)]), xx (xT), xx (xL [(85, 4, 161)]), xx (xC "Code" 385 386 387 83 152 153 388 389), xx (xF 154 151 "perlcore.values" 265), kk, xx (xE), kk, kk, ff, kk, kk, kk, kk, kk, xx (xS 165), xx (xI 165), kk, xx (xP), xx (xD [xN P "__module__" 420 (.str (Str.ofString "perlcore.values") 265), xN P "__qualname__" 422 (.str (Str.ofString "Glob") 421), xN P "__firstlineno__" 424 (.int 91 423), xN P "__init__" 433 (.ref 181), xN P "__static_attributes__" 439 (.ref 182)]), xx (xT), xx (xL [(93, 4, 180)]), xx (xC "Glob" 415 416 417 91 171 172 418 419), xx (xF 173 170 "perlcore.values" 265), kk, xx (xE), kk, kk, ff, kk, kk, kk, kk, kk, xx (xS 184), xx (xI 184), xx (xT), xx (xP), xx (xD [xN P "__module__" 450 (.str (Str.ofString "perlcore.values") 265), xN P "__qualname__" 452 (.str (Str.ofString "Ref") 451), xN P "__firstlineno__" 454 (.int 100 453), xN P "__init__" 463 (.ref 201), xN P "__static_attributes__" 466 (.ref 202)]), xx (xT), xx (xL [(102, 4, 200)]), xx (xC "Ref" 445 446 447 100 190 191 448 449), xx (xF 192 189 "perlcore.values" 265), kk, kk, xx (xE), kk, kk, ff, kk, kk, kk, kk, kk, kk, kk, xx (xS 204), xx (xI 204), xx (xT), xx (xP), xx (xD [xN P "__module__" 481 (.str (Str.ofString "perlcore.values") 265), xN P "__qualname__" 483 (.str (Str.ofString "Heap") 482), xN P "__firstlineno__" 485 (.int 105 484), xN P "__init__" 493 (.ref 222), xN P "next_number" 500 (.ref 229), xN P "new_scalar" 508 (.ref 236), xN P "new_array" 515 (.ref 243), xN P "new_hash" 522 (.ref 250), xN P "new_code" 531 (.ref 257), xN P "new_glob" 539 (.ref 264), xN P "__static_attributes__" 543 (.ref 265)]), xx (xT), xx (xL [(107, 4, 221), (112, 4, 228), (116, 4, 235), (119, 4, 242), (122, 4, 249), (125, 4, 256), (128, 4, 263)]), xx (xC "Heap" 476 477 478 105 212 213 479 480), xx (xF 214 211 "perlcore.values" 265), kk, xx (xE), kk, kk, ff, kk, kk, kk, xx (xE), kk, kk, ff, kk, kk, kk, xx (xE), kk, kk, ff, kk, kk, kk, xx (xE), kk, kk, ff, kk, kk, kk, xx (xE), kk, kk, ff, kk, kk, kk, xx (xE), kk, kk, ff, kk, kk, kk, xx (xE), kk, kk, ff, kk, kk, kk, kk, kk, kk, kk, xx (xS 267), xx (xI 267), kk, xx (xE), kk, kk, ff, kk, kk, kk, xx (xE), kk, kk, ff, kk, kk, kk, xx (xE), kk, kk, ff, kk, kk, kk, xx (xE), kk, kk, ff, kk, kk, kk, xx (xE), kk, kk, ff, kk, kk, kk, xx (xE), kk, kk, ff, kk, kk, kk, xx (xE), kk, kk, ff, kk, kk, kk, xx (xE), kk, kk, ff, kk, kk, kk, xx (xE), kk, kk, ff, kk, kk, kk, xx (xE), kk, kk, ff, kk, kk, kk, xx (xE), kk, kk, ff, kk, kk, kk, xx (xE), kk, kk, ff, kk, kk, kk, xx (xE), kk, kk, ff, kk, kk, kk, xx (xE), kk, kk, ff, kk, kk, xx (xT), xx (xP), xx (xD [xN P "__module__" 682 (.str (Str.ofString "perlcore.limits") 673), xN P "__qualname__" 684 (.str (Str.ofString "Limits") 683), xN P "__firstlineno__" 686 (.int 227 685), xN P "__init__" 709 (.ref 384), xN P "__static_attributes__" 715 (.ref 385)]), xx (xT), xx (xL [(229, 4, 383)]), xx (xC "Limits" 677 678 679 227 373 374 680 681), xx (xF 375 372 "perlcore.limits" 673), kk, kk, xx (xE), kk, kk, ff, kk, kk, kk, kk, kk, kk, kk, xx (xS 387), xx (xI 387), kk, xx (xE), kk, kk, ff, kk, kk, kk, xx (xE), kk, kk, ff, kk, kk, kk, xx (xE), kk, kk, ff, kk, kk, kk, xx (xE), kk, kk, ff, kk, kk, kk, xx (xE), kk, kk, ff, kk, kk, kk, xx (xE), kk, kk, ff, kk, kk, kk, xx (xE), kk, kk, ff, kk, kk, kk, xx (xE), ff, kk, kk, kk, xx (xE), kk, kk, ff, kk, kk, kk, xx (xE), kk, kk, ff, kk, kk, kk, xx (xE), kk, kk, ff, kk, kk, kk, xx (xE), kk, kk, ff, kk, kk, kk, xx (xE), ff, kk, kk]
noncomputable def sC (w : World) (os : OsState) (n k d e t : Nat) (m : String) (u : Nat) : SharedT :=
  { tree := toTree 10 (upd (subs e) 87 (upd (flds d) 12 (upd (ents k (.str (Str.ofString m) u)) 3 ((mrg (items w.params) (K w.params)).take n)))), n := n, life := {}, gens := #[], drawn := {}, toks := t, os := os }
noncomputable abbrev bd0 : List Stmt := (body0.drop 0).take 16
noncomputable abbrev po0 : Pos := ⟨70, 0, 75, 24⟩
theorem run_0 (w : World) (os : OsState) : PySem.W.Fast.tw10110043849684766642 PySem.W.Fast.tw14364793385576792824 pw w 11 ann0 1 1020 (s0T w os) (piecesOf bd0 env0 cE pos0 [topFrame pos0]) =
    some (.next, sC w os 130 22 33 2 356 "perlcore.values" 265, cE, po0) := by kernel_rfl
noncomputable abbrev bd1 : List Stmt := (body0.drop 16).take 4
noncomputable abbrev po1 : Pos := ⟨100, 0, 104, 30⟩
theorem run_1 (w : World) (os : OsState) : PySem.W.Fast.tw10110043849684766642 PySem.W.Fast.tw14364793385576792824 pw w 11 ann0 1 980 (sC w os 130 22 33 2 356 "perlcore.values" 265) (piecesOf bd1 env0 cE po0 [topFrame pos0]) =
    some (.next, sC w os 209 26 45 5 474 "perlcore.values" 265, cE, po1) := by kernel_rfl
noncomputable abbrev bd2 : List Stmt := (body0.drop 20).take 19
noncomputable abbrev po2 : Pos := ⟨220, 0, 225, 17⟩
theorem run_2 (w : World) (os : OsState) : PySem.W.Fast.tw10110043849684766642 PySem.W.Fast.tw14364793385576792824 pw w 11 ann0 1 880 (sC w os 209 26 45 5 474 "perlcore.values" 265) (piecesOf bd2 env0 cE po1 [topFrame pos0]) =
    some (.next, sC w os 370 44 90 5 673 "perlcore.convert" 574, cE, po2) := by kernel_rfl
noncomputable abbrev bd3 : List Stmt := (body0.drop 39).take 16
noncomputable abbrev po3 : Pos := ⟨331, 0, 350, 15⟩
theorem run_3 (w : World) (os : OsState) : PySem.W.Fast.tw10110043849684766642 PySem.W.Fast.tw14364793385576792824 pw w 11 ann0 1 680 (sC w os 370 44 90 5 673 "perlcore.convert" 574) (piecesOf bd3 env0 cE po2 [topFrame pos0]) =
    some (.next, sC w os 479 58 132 5 846 "law_nz0185_01" 723, cE, po3) := by kernel_rfl
theorem bd_all : bd0 ++ (bd1 ++ (bd2 ++ (bd3 ++ []))) = body0 := by kernel_rfl
theorem look_a (w : World) (os : OsState) : (staticsOk mods0 (boot_heap w.params) (sC w os 479 58 132 5 846 "law_nz0185_01" 723).abs.heap && namesBound pw (sC w os 479 58 132 5 846 "law_nz0185_01" 723).abs.heap && gensDone (sC w os 479 58 132 5 846 "law_nz0185_01" 723).abs && laidKept (boot_heap w.params) (sC w os 479 58 132 5 846 "law_nz0185_01" 723).abs.heap) = true := by kernel_rfl
theorem look_k (w : World) (os : OsState) : as0.map (sC w os 479 58 132 5 846 "law_nz0185_01" 723).abs.heap.get? = (K w.params).map fun p => some p.2 := by kernel_rfl
noncomputable abbrev Sb (w : World) (os : OsState) := PySem.W.Fast.tw4187177175401517315 view loose0 mods0 Xt0 true (sC w os 479 58 132 5 846 "law_nz0185_01" 723).abs
theorem lb1 (w : World) (os : OsState) : (Sb w os).1 = expectedOf view := by kernel_rfl
theorem lb2 (w : World) (os : OsState) : (Sb w os).2.1 = bltViewBooted := by kernel_rfl
theorem lb3 (w : World) (os : OsState) : (Sb w os).2.2.1 = true := by kernel_rfl
theorem lb4 (w : World) (os : OsState) : (Sb w os).2.2.2.1 = true := by kernel_rfl
theorem lb5 (w : World) (os : OsState) : (Sb w os).2.2.2.2.1 = pinGoodD (drecsOf view) := by kernel_rfl
theorem lb6 (w : World) (os : OsState) : (Sb w os).2.2.2.2.2.1 = plainGoodE view (looseW view loose0) := by kernel_rfl
theorem lb7 (w : World) (os : OsState) : (Sb w os).2.2.2.2.2.2.1 = plainGoodD view loose0 := by kernel_rfl
theorem lb8 (w : World) (os : OsState) : (Sb w os).2.2.2.2.2.2.2.1 = wideGood view := by kernel_rfl
theorem lb9 (w : World) (os : OsState) : (Sb w os).2.2.2.2.2.2.2.2 = clsGoodW view loose0 := by kernel_rfl
theorem look_b (w : World) (os : OsState) : PySem.W.Fast.tw4187177175401517315 view loose0 mods0 Xt0 true (sC w os 479 58 132 5 846 "law_nz0185_01" 723).abs = openGood view loose0 := by
  unfold openGood
  exact Prod.ext (lb1 w os) (Prod.ext (lb2 w os) (Prod.ext (lb3 w os) (Prod.ext (lb4 w os) (Prod.ext (lb5 w os) (Prod.ext (lb6 w os) (Prod.ext (lb7 w os) (Prod.ext (lb8 w os) (lb9 w os))))))))
theorem fin0 (w : World) (s : Shared) (p : Pos) : topRun treeTable pw w 11 ann0 2 s ⟨doneF .next, cE, p, [topFrame pos0]⟩ = some s := by
  obtain ⟨h, g, d, t, os⟩ := s
  rfl
theorem top0 (w : World) (os : OsState) : ∃ s₁ : Shared, topRun treeTable pw w 11 ann0 (12 + (1 + (1020 + (980 + (880 + (680 + 2)))))) ⟨boot_heap w.params, #[], boot_drawn, boot_toks, os⟩ (topStub pw) = some s₁ ∧
    (staticsOk mods0 (boot_heap w.params) s₁.heap && namesBound pw s₁.heap && gensDone s₁ && laidKept (boot_heap w.params) s₁.heap) = true ∧
    openSeen view loose0 mods0 Xt0 true s₁ = openGood view loose0 ∧ H0.obs s₁ = H0.val w := by
  have r0 := run_0 w os
  have r1 := run_1 w os
  have r2 := run_2 w os
  have r3 := run_3 w os
  rw [← PySem.W.Fast.te10110043849684766642, ← PySem.W.Fast.te14364793385576792824] at r0 r1 r2 r3
  have b := look_b w os
  rw [← PySem.W.Fast.te4187177175401517315] at b
  have p := pre_t w os
  rw [← PySem.W.Fast.te15667345088766844465, ← PySem.W.Fast.te14364793385576792824, ← PySem.W.Fast.te11892475500146522536] at p
  have c := block_t w os
  rw [← PySem.W.Fast.te14374325043358763698, ← PySem.W.Fast.te14364793385576792824] at c
  have z := piece_app (segRun_of r0) (piece_app (segRun_of r1) (piece_app (segRun_of r2) (piece_app (rest := []) (segRun_of r3) (piece_nil (env := env0) (fin0 w (sC w os 479 58 132 5 846 "law_nz0185_01" 723).abs po3)))))
  rw [bd_all] at z
  exact ⟨_, go_top p (piece_block c z), look_a w os, b, look_k w os⟩
theorem opening0 : opening pw = plainProg pw.main.scope.names := by kernel_rfl
theorem fence0 : ∀ s, fenceModules? pw s = some s := fun _ => by kernel_rfl
theorem leftO_run {p q : Program} {loose : List Str} {Xt : Shared → Bool} {α : Type} {Yf : Shared → α} {Ya : World → α} {N : Nat} {g0 : Bool} {H₀ : Params → Heap} {gs₀ : Array GenState} {d₀ : Drawn} {k₀ : Nat} {m₀ : Nat} {ann : Option Value} {M : Nat}
    (open_ : ∀ w : World, (fencedOpening treeTable p w N).map (fun s => (s.heap, s.gens, s.drawn, s.toks)) = some (H₀ w.params, gs₀, d₀, k₀))
    (size : ∀ w : World, ((H₀ w.params).isNs mainGlobals && gs₀.size == 0) = true ∧ (H₀ w.params).objs.size = m₀ ∧ (H₀ w.params).nsMap mainGlobals "__annotations__" = ann) (le : Nat.ble M N = true)
    (run : ∀ (w : World) (os : OsState), ∃ s₁ : Shared, topRun treeTable p w m₀ ann M ⟨H₀ w.params, gs₀, d₀, k₀, os⟩ (topStub p) = some s₁ ∧
      (staticsOk (importedModules p.main.body) (H₀ w.params) s₁.heap && namesBound p s₁.heap && gensDone s₁ && laidKept (H₀ w.params) s₁.heap) = true ∧
      openSeen q loose (importedModules p.main.body) Xt g0 s₁ = openGood q loose ∧ Yf s₁ = Ya w) : LeftO p q loose Xt Yf Ya N g0 := fun w => by
  obtain ⟨⟨h, gs, d, k, os⟩, e, e'⟩ := Option.map_eq_some_iff.mp (open_ w)
  obtain ⟨rfl, rfl, rfl, rfl⟩ : h = H₀ w.params ∧ gs = gs₀ ∧ d = d₀ ∧ k = k₀ := by simpa using e'
  obtain ⟨z1, z2, z3⟩ := size w
  obtain ⟨s₁, r, l1, l2, l3⟩ := run w os
  have r := topRun_mono (N - M) _ _ _ _ r
  rw [show M + (N - M) = N by have := Nat.le_of_ble_eq_true le; omega] at r
  have t : topFrom treeTable p w N ⟨H₀ w.params, gs, d, k, os⟩ = some s₁ := by
    unfold topFrom
    dsimp only
    rw [z1, z2, z3, r]
    show (match staticsOk (importedModules p.main.body) (H₀ w.params) s₁.heap && namesBound p s₁.heap && gensDone s₁ && laidKept (H₀ w.params) s₁.heap with | true => _ | false => _) = _
    rw [l1]
  unfold openEnds
  rw [e]
  show (topFrom treeTable p w N _).map _ = _
  rw [t]
  exact congrArg some (Prod.ext l2 l3)
theorem size0 : ∀ w : World, ((boot_heap w.params).isNs mainGlobals && (#[] : Array GenState).size == 0) = true ∧ (boot_heap w.params).objs.size = 11 ∧ (boot_heap w.params).nsMap mainGlobals "__annotations__" = ann0 :=
  fun _ => ⟨by kernel_rfl, by kernel_rfl, by kernel_rfl⟩
theorem left0 : LeftO pw view loose0 Xt0 H0.obs H0.val 4000 := leftO_run (boot_open opening0 (by decide) fence0) size0 (by decide) top0
end Mine
end
section
namespace Mine
noncomputable abbrev Led := List (Addr × Obj)
noncomputable def FnC (w : World) (f : Addr) (d u : Nat) (news : Led) (vs : List Value) (C : (Value → Led → Prop) → Prop) : Prop :=
  ∀ (mean : ExcName → Option Value) (mg mb : Str → Option Value) (dp un : Nat) (gd : Option (List Code)) (cn : Str) (cs : Scope) (a : Addr) (ccd : Value) (cl : List (Str × Addr)) (outer : List Env) (A₀ : Around) (base h₀ : Heap) (L : Addr) (m : Str → Option Value) (s : Shared) (Q E : Value → Shared → Prop),
    Below A₀ base outer h₀ → Fr h₀ L s.heap m → (Mine.mk.heap_1 w.params).In h₀ → News h₀ L s.heap news → Top view (looseW view loose0) mean mg mb h₀ → cs.kind = .function → dp + d < recursionLimit → un + u < cLine →
    C (fun v news' => ∀ h' tk', Fr h₀ L h' m → News h₀ L h' news' → Q v { s with heap := h', toks := tk' }) →
    wpAny (model pw w) (ktrTop dp un gd cn cs L a ccd cl outer) (call (.ref f) vs) Q E s
theorem FnC.use {w : World} {f : Addr} {d u : Nat} {news : Led} {vs : List Value} {C : (Value → Led → Prop) → Prop} (H : FnC w f d u news vs C)
    {mean : ExcName → Option Value} {mg mb : Str → Option Value} {dp un : Nat} {gd : Option (List Code)} {cn : Str} {cs : Scope} {a : Addr} {ccd : Value} {cl : List (Str × Addr)} {outer : List Env} {A₀ : Around} {base h₀ : Heap} {L : Addr} {m : Str → Option Value} {s : Shared} {Q E : Value → Shared → Prop}
    (B : Below A₀ base outer h₀) (F : Fr h₀ L s.heap m) (X : (Mine.mk.heap_1 w.params).In h₀) (N : News h₀ L s.heap news) (T : Top view (looseW view loose0) mean mg mb h₀) (hk : cs.kind = .function) (hd : dp + d < recursionLimit) (hu : un + u < cLine)
    (ret : C (fun v news' => ∀ h' tk', Fr h₀ L h' m → News h₀ L h' news' → Q v { s with heap := h', toks := tk' })) :
    wpAny (model pw w) (ktrTop dp un gd cn cs L a ccd cl outer) (call (.ref f) vs) Q E s := H _ _ _ _ _ _ _ _ _ _ _ _ _ _ _ _ _ _ _ _ B F X N T hk hd hu ret
theorem lookup_kstB {bs : List (Str × Value)} : (fun y => bs.lookup y) = kstB (fun _ => none) bs := by
  funext y
  induction bs with
  | nil => rfl
  | cons p r ih =>
    obtain ⟨a, b⟩ := p
    show List.lookup y ((a, b) :: r) = if y = a then some b else kstB (fun _ => none) r y
    rw [List.lookup_cons]
    by_cases e : y = a
    · subst e; rw [if_pos rfl, beq_self_eq_true]
    · rw [if_neg e, ← ih, beq_false_of_ne e]
noncomputable def bindsOf (params : Arguments) (pos : List Value) : List (Str × Value) := ((params.args.map (·.arg)).zip pos).reverse
section
variable {prog : Program} {w : World} {A A₀ : Around} {E : Value → Shared → Prop} {s : Shared} {K : Frag} {L : Addr} {h₀ base : Heap} {m mg mb : Str → Option Value} {news : Led} {p : Program} {loose : List Str} {mean : ExcName → Option Value}
theorem enterK {env : Env} {outer : List Env} {Q : Value → Shared → Prop} {name qual : Str} {params : Arguments} {body : List Stmt} {scope : Scope} {dV kV doc pm cdv ct oc : Value} {an od : Option Addr} {osl : Array (Option Value)} {f : Addr} {pos : List Value} {kw : List (Str × Value)} {binds : List (Str × Value)}
    (B : Below A₀ base outer h₀) (F : Fr h₀ L s.heap m) (X₀ : K.In h₀) (N : News h₀ L s.heap news) (T : Top p loose mean mg mb h₀) (hA : A.frames = some (env :: outer)) (hf : env.frame = some L) (hke : env.scope.kind = .function)
    (ho : K.lookup f = some ⟨oc, od, .func (fnOf name qual params body scope dV kV doc pm an cdv ct), osl⟩) (hcd : codeIn K cdv qual = true) (hroom : A.depth < recursionLimit)
    (hbind : BindsTo s (fnOf name qual params body scope dV kV doc pm an cdv ct) ⟨pos, kw⟩ binds) (hbs : binds.reverse = bindsOf params pos) (hloc : ((bindsOf params pos).all fun x => decide (scope.names.lookup x.1 = some .local)) = true)
    (h : ∀ g L' h₁ tk, Fr h₀ L g m → Fr g L' h₁ (kstB (fun _ => none) (bindsOf params pos)) → News g L' h₁ news → Below A base (env :: outer) g → K.In g → Top p loose mean mg mb g →
      wpAny (model prog w) (A.deeper (envOf qual scope L' f cdv)) (execs body (envOf qual scope L' f cdv))
        (fun fl s' => LeaveK h₀ L m g (fun r s' => match r with | .ok (.ret v) => Q v s' | .ok _ => False | .error e => E e s') (match fl with | .ret v => v | _ => .none) s')
        (fun e s' => wpAny (model prog w) (A.deeper (envOf qual scope L' f cdv)) (leaving (envOf qual scope L' f cdv) e) (fun _ s'' => E e s'') (fun e' s'' => E e' s'') s')
        { s with heap := h₁, toks := tk })
    (hco : scope.isCoroutine = false) (hgen : scope.isGenerator = false) (hk : scope.kind = .function)
    (hcell : ∀ x ∈ scope.names, x.2 ≠ .cell) : wpAny (model prog w) A (call (.ref f) pos kw) Q E s :=
  wpAny_call (code_def B F X₀ N T hA hf hke ho hcd hroom hbind (locs (by
    rw [← hbs, List.all_reverse] at hloc
    exact hloc)) (fun g L' h₁ a b c d e i => h g L' h₁ _ a (by
      rw [← hbs, ← lookup_kstB]; exact b) c d e i) hco hgen hk hcell)
theorem enterQ {env : Env} {outer : List Env} {Q : Value → Shared → Prop} {name qual : Str} {params : Arguments} {body : List Stmt} {scope : Scope} {dV kV doc pm cdv ct oc : Value} {an od : Option Addr} {osl : Array (Option Value)} {f : Addr} {pos : List Value} {kw : List (Str × Value)} {binds : List (Str × Value)}
    (hA : A.frames = some (env :: outer)) (hf : env.frame = some L) (hke : env.scope.kind = .function) (B : Below A₀ base outer h₀) (F : Fr h₀ L s.heap m) (X₀ : K.In h₀) (N : News h₀ L s.heap news) (T : Top p loose mean mg mb h₀)
    (ho : K.lookup f = some ⟨oc, od, .func (fnOf name qual params body scope dV kV doc pm an cdv ct), osl⟩) (hcd : codeIn K cdv qual = true) (hroom : A.depth < recursionLimit)
    (hbind : BindsTo s (fnOf name qual params body scope dV kV doc pm an cdv ct) ⟨pos, kw⟩ binds) (hbs : binds.reverse = bindsOf params pos) (hloc : ((bindsOf params pos).all fun x => decide (scope.names.lookup x.1 = some .local)) = true)
    (hco : scope.isCoroutine = false) (hgen : scope.isGenerator = false) (hk : scope.kind = .function) (hcell : ∀ x ∈ scope.names, x.2 ≠ .cell)
    (h : ∀ g L' h₁ tk, Fr h₀ L g m → Fr g L' h₁ (kstB (fun _ => none) (bindsOf params pos)) → News g L' h₁ news → Below A base (env :: outer) g → K.In g → Top p loose mean mg mb g →
      wpAny (model prog w) (A.deeper (envOf qual scope L' f cdv)) (execs body (envOf qual scope L' f cdv))
        (fun fl s' => LeaveK h₀ L m g (fun r s' => match r with | .ok (.ret v) => Q v s' | .ok _ => False | .error e => E e s') (match fl with | .ret v => v | _ => .none) s')
        (fun e s' => wpAny (model prog w) (A.deeper (envOf qual scope L' f cdv)) (leaving (envOf qual scope L' f cdv) e) (fun _ s'' => E e s'') (fun e' s'' => E e' s'') s')
        { s with heap := h₁, toks := tk }) : wpAny (model prog w) A (call (.ref f) pos kw) Q E s :=
  enterK B F X₀ N T hA hf hke ho hcd hroom hbind hbs hloc h hco hgen hk hcell
end
theorem lt_one {news : Led} {D : Addr} {o : Obj} (h : ∀ p ∈ news, p.1 < D) : ∀ p ∈ news, ∀ q ∈ [(D, o)], p.1 < q.1 := fun p hp q hq => by
  rw [List.mem_singleton.mp hq]; exact h p hp
theorem frL {h₀ h : Heap} {L : Addr} {m : Str → Option Value} {ps : List (Str × Value)} (F : Fr h₀ L h m) (hk : ∀ p ∈ ps, m p.1 = some p.2) : Fr h₀ L h (kstB m ps) := by
  have e : kstB m ps = m := funext fun z => kstB_eq hk fun _ => rfl
  rw [e]; exact F
structure Todo (p : Prop) : Prop where
  out : p
structure Hold (p : Prop) : Prop where
  out : p
structure Mark : Prop
theorem retI {Q : Value → Shared → Prop} {x y : Int} {t : Tok} {s : Shared} (e : Todo (x = y)) (h : Q (.int y t) s) : Q (.int x t) s := by rw [e.out]; exact h
theorem retS {Q : Value → Shared → Prop} {x y : Str} {t : Tok} {s : Shared} (e : Todo (x = y)) (h : Q (.str y t) s) : Q (.str x t) s := by rw [e.out]; exact h
theorem retB {Q : Value → Shared → Prop} {x y : Bool} {s : Shared} (e : Todo (x = y)) (h : Q (.bool y) s) : Q (.bool x) s := by rw [e.out]; exact h
noncomputable def WlExit {σ : Type} (h₀ : Heap) (L : Addr) (s : Shared) (Led : σ → List (Addr × Obj)) (ps : σ → List (Str × Value)) (D : σ → Prop) (c : σ) (s₂ : Shared) : Prop :=
  ∃ (h : Heap) (tk : Nat) (m' : Str → Option Value) (news' : List (Addr × Obj)), s₂ = { s with heap := h, toks := tk } ∧ Fr h₀ L h m' ∧ News h₀ L h news' ∧ (∀ p ∈ Led c, p ∈ news') ∧ (∀ p ∈ ps c, m' p.1 = some p.2) ∧ D c
noncomputable def WlEnd {σ : Type} (h₀ : Heap) (L : Addr) (s : Shared) (Led : σ → List (Addr × Obj)) (ps : σ → List (Str × Value)) (P : σ → Prop) (μ : σ → Nat) (c : σ) (s₂ : Shared) : Prop :=
  ∃ (c' : σ) (h : Heap) (tk : Nat) (m' : Str → Option Value) (news' : List (Addr × Obj)), s₂ = { s with heap := h, toks := tk } ∧ Fr h₀ L h m' ∧ News h₀ L h news' ∧ (∀ p ∈ Led c', p ∈ news') ∧ (∀ p ∈ ps c', m' p.1 = some p.2) ∧ P c' ∧ μ c' < μ c
noncomputable def WlPost {σ : Type} (h₀ : Heap) (L : Addr) (s : Shared) (Led : σ → List (Addr × Obj)) (ps : σ → List (Str × Value)) (P : σ → Prop) (μ : σ → Nat) (Q : Flow → Shared → Prop) (c : σ) (f : Flow) (s₂ : Shared) : Prop :=
  match f with
  | .ret v => Q (.ret v) s₂
  | .brk => False
  | _ => WlEnd h₀ L s Led ps P μ c s₂
theorem wl_exit {σ : Type} {h₀ h : Heap} {L : Addr} {s : Shared} {Led : σ → List (Addr × Obj)} {ps : σ → List (Str × Value)} {D : σ → Prop} {c : σ} {tk : Nat} {m' : Str → Option Value} {news' : List (Addr × Obj)}
    (F : Fr h₀ L h m') (N : News h₀ L h news') (hn : ∀ p ∈ Led c, p ∈ news') (hk : ∀ p ∈ ps c, m' p.1 = some p.2) (hd : Todo (D c)) : WlExit h₀ L s Led ps D c { s with heap := h, toks := tk } := ⟨h, tk, m', news', rfl, F, N, hn, hk, hd.out⟩
theorem wl_end {σ : Type} {h₀ h : Heap} {L : Addr} {s : Shared} {Led : σ → List (Addr × Obj)} {ps : σ → List (Str × Value)} {P : σ → Prop} {μ : σ → Nat} {c : σ} (c' : σ) {tk : Nat} {m' : Str → Option Value} {news' : List (Addr × Obj)}
    (F : Fr h₀ L h m') (N : News h₀ L h news') (hn : ∀ p ∈ Led c', p ∈ news') (hk : ∀ p ∈ ps c', m' p.1 = some p.2) (hp : Todo (P c' ∧ μ c' < μ c)) : WlEnd h₀ L s Led ps P μ c { s with heap := h, toks := tk } := ⟨c', h, tk, m', news', rfl, F, N, hn, hk, hp.out.1, hp.out.2⟩
section
variable {prog : Program} {w : World} {A : Around} {E : Value → Shared → Prop} {Q : Flow → Shared → Prop} {s : Shared} {env : Env} {h₀ : Heap}
theorem wl_while {σ : Type} {test : Expr} {body : List Stmt} {pos : Pos} {m₀ : Str → Option Value} {news₀ : List (Addr × Obj)} (Led : σ → List (Addr × Obj)) (ps : σ → List (Str × Value)) (P D : σ → Prop) (μ : σ → Nat) (c₀ : σ)
    (F : Fr h₀ env.locals s.heap m₀) (N : News h₀ env.locals s.heap news₀) (hn : ∀ p ∈ Led c₀, p ∈ news₀) (hk : ∀ p ∈ ps c₀, m₀ p.1 = some p.2) (hp : Todo (P c₀))
    (turn : ∀ (c : σ) (u : Str → Option Value) h tk, P c → Fr h₀ env.locals h (kstB u (ps c)) → News h₀ env.locals h (Led c) →
      wpAny (model prog w) A (isTrue test env (eval test env)) (fun b s₂ =>
        if b = true then wpAny (model prog w) A (execs body env) (WlPost h₀ env.locals s Led ps P μ Q c) E s₂ else WlExit h₀ env.locals s Led ps D c s₂) E { s with heap := h, toks := tk })
    (done : ∀ (c : σ) (u : Str → Option Value) h tk, P c → D c → Fr h₀ env.locals h (kstB u (ps c)) → News h₀ env.locals h (Led c) → Q .next { s with heap := h, toks := tk })
    (hE : PassesOwn (model prog w) A env E := by passes_own) :
    wpAny (model prog w) A (exec (.While test body [] pos) env) Q E s := by
  refine While_inv2 (fun n m nx => ∃ c : σ, nx = Led c ∧ μ c = n ∧ (∀ p ∈ ps c, m p.1 = some p.2) ∧ P c) (n₀ := μ c₀) F (kst_newsOf N hn) ⟨c₀, rfl, rfl, hk, hp.out⟩ ?_ hE
  rintro n m₁ nx h tk F₁ N₁ ⟨c, rfl, rfl, h1, hp'⟩
  refine wpAny_mono (turn c m₁ h tk hp' (frL F₁ h1) N₁) (fun b s₂ p => ?_) fun _ _ x => x
  cases b with
  | false =>
    simp only [Bool.false_eq_true, if_false] at p ⊢
    obtain ⟨h', tk', m', news', rfl, F', N', hn', hk', hd⟩ := p
    exact done c m' h' tk' hp' hd (frL F' hk') (kst_newsOf N' hn')
  | true =>
    simp only [if_true] at p ⊢
    refine wpAny_mono p (fun f s₃ q => ?_) fun _ _ x => x
    cases f with
    | ret v => exact q
    | brk => exact q.elim
    | next =>
      obtain ⟨c', h', tk', m', news', rfl, F', N', hn', hk9, hp9, hm9⟩ := q
      exact ⟨h', tk', m', Led c', μ c', rfl, F', fun p hp => N' p (hn' p hp), hm9, c', rfl, rfl, hk9, hp9⟩
    | cont =>
      obtain ⟨c', h', tk', m', news', rfl, F', N', hn', hk9, hp9, hm9⟩ := q
      exact ⟨h', tk', m', Led c', μ c', rfl, F', fun p hp => N' p (hn' p hp), hm9, c', rfl, rfl, hk9, hp9⟩
noncomputable def CutEnd {σ : Type} (h₀ : Heap) (L : Addr) (s : Shared) (Led : σ → List (Addr × Obj)) (ps : σ → List (Str × Value)) (P : σ → Prop) (s₂ : Shared) : Prop :=
  ∃ (c : σ) (h : Heap) (tk : Nat) (m' : Str → Option Value) (news' : List (Addr × Obj)), s₂ = { s with heap := h, toks := tk } ∧ Fr h₀ L h m' ∧ News h₀ L h news' ∧ (∀ p ∈ Led c, p ∈ news') ∧ (∀ p ∈ ps c, m' p.1 = some p.2) ∧ P c
noncomputable def CutPost {σ : Type} (h₀ : Heap) (L : Addr) (s : Shared) (Led : σ → List (Addr × Obj)) (ps : σ → List (Str × Value)) (P : σ → Prop) (Q : Flow → Shared → Prop) (f : Flow) (s₂ : Shared) : Prop :=
  match f with
  | .next => CutEnd h₀ L s Led ps P s₂
  | f => Q f s₂
theorem cut_end {σ : Type} {h : Heap} {L : Addr} {Led : σ → List (Addr × Obj)} {ps : σ → List (Str × Value)} {P : σ → Prop} (c : σ) {tk : Nat} {m' : Str → Option Value} {news' : List (Addr × Obj)}
    (F : Fr h₀ L h m') (N : News h₀ L h news') (hn : ∀ p ∈ Led c, p ∈ news') (hk : ∀ p ∈ ps c, m' p.1 = some p.2) (hp : Todo (P c)) : CutEnd h₀ L s Led ps P { s with heap := h, toks := tk } := ⟨c, h, tk, m', news', rfl, F, N, hn, hk, hp.out⟩
theorem wl_cut {σ : Type} {st : Stmt} (Led : σ → List (Addr × Obj)) (ps : σ → List (Str × Value)) (P : σ → Prop) {m₀ : Str → Option Value} (_F : Fr h₀ env.locals s.heap m₀)
    (h1 : wpAny (model prog w) A (exec st env) (CutPost h₀ env.locals s Led ps P Q) E s)
    (h2 : ∀ (c : σ) (u : Str → Option Value) h tk, P c → Fr h₀ env.locals h (kstB u (ps c)) → News h₀ env.locals h (Led c) → Q .next { s with heap := h, toks := tk }) :
    wpAny (model prog w) A (exec st env) Q E s := by
  refine wpAny_mono h1 (fun f s₂ p => ?_) fun _ _ x => x
  cases f with
  | next =>
    obtain ⟨c, h, tk, m', news', rfl, F', N', hn', hk', hp⟩ := p
    exact h2 c m' h tk hp (frL F' hk') (kst_newsOf N' hn')
  | cont => exact p
  | brk => exact p
  | ret v => exact p
end
end Mine
end
section
namespace Mine
noncomputable def lst (x : Str) : List Nat := x.cps.toList
noncomputable def isSp (c : Nat) : Bool := c == 32 || (decide (9 ≤ c) && decide (c ≤ 13))
noncomputable def isFig (c : Nat) : Bool := decide (48 ≤ c) && decide (c ≤ 57)
noncomputable def isSm (c : Nat) : Bool := decide (97 ≤ c) && decide (c ≤ 122)
noncomputable def isGr (c : Nat) : Bool := decide (65 ≤ c) && decide (c ≤ 90)
noncomputable def isLet (c : Nat) : Bool := isSm c || isGr c
noncomputable def hSp (l : List Nat) : Nat := (l.takeWhile isSp).length
noncomputable def bodyL (l : List Nat) : List Nat := l.dropWhile isSp
noncomputable def sg (l : List Nat) : Nat := match bodyL l with | c :: _ => if c = 43 ∨ c = 45 then 1 else 0 | [] => 0
noncomputable def ds (l : List Nat) : List Nat := ((bodyL l).drop (sg l)).takeWhile isFig
noncomputable def restL (l : List Nat) : List Nat := ((bodyL l).drop (sg l)).dropWhile isFig
noncomputable def hEnd (l : List Nat) : Nat := if ds l = [] then hSp l else hSp l + sg l + (ds l).length
noncomputable def neg (l : List Nat) : Bool := (bodyL l).head? == some 45
noncomputable def val (ds : List Nat) : Nat := ds.foldl (fun a c => 10 * a + (c - 48)) 0
noncomputable def num (l : List Nat) : Int := if neg l then -(val (ds l) : Int) else (val (ds l) : Int)
noncomputable def fitN (n wd : Int) : Int := if n % 2 ^ wd.toNat < 2 ^ (wd.toNat - 1) then n % 2 ^ wd.toNat else n % 2 ^ wd.toNat - 2 ^ wd.toNat
noncomputable def digs (n : Nat) : List Nat := if n < 10 then [48 + n] else digs (n / 10) ++ [48 + n % 10]
decreasing_by omega
noncomputable def numText (n : Int) : List Nat := if n < 0 then 45 :: digs n.natAbs else digs n.natAbs
noncomputable def hexFig (n : Nat) : Nat := if n < 10 then 48 + n else 87 + n
noncomputable def hexs (n : Nat) : List Nat := if n < 16 then [hexFig n] else hexs (n / 16) ++ [hexFig (n % 16)]
decreasing_by omega
noncomputable def magic (l : List Nat) : Bool := !(l.takeWhile isLet).isEmpty && (l.dropWhile isLet).all isFig
noncomputable def isEnd (c : Nat) : Bool := c == 122 || c == 90 || c == 57
noncomputable def firstOf (c : Nat) : Nat := if c = 122 then 97 else if c = 90 then 65 else 48
noncomputable def nextR : List Nat → List Nat
  | [] => []
  | c :: r => if isEnd c then (match r with | [] => [firstOf c, if c = 57 then 49 else firstOf c] | _ => firstOf c :: nextR r) else (c + 1) :: r
noncomputable def nextL (l : List Nat) : List Nat := (nextR l.reverse).reverse
noncomputable def mkS (l : List Nat) : Str := ⟨l.toArray⟩
theorem pow_pos' (k : Nat) : (0 : Int) < 2 ^ k := Int.pow_pos (by decide)
theorem fit_eq {n wd : Int} (h1 : 4 ≤ wd) (c : Prop) [Decidable c] (hc : c ↔ (n.fmod (1 * 2 ^ wd.toNat)).fdiv (2 ^ (wd - 1).toNat) ≠ 0) : (if c then n.fmod (1 * 2 ^ wd.toNat) - 1 * 2 ^ wd.toNat else n.fmod (1 * 2 ^ wd.toNat)) = fitN n wd := by
  have e : (wd - 1).toNat = wd.toNat - 1 := by omega
  have p := pow_pos' (wd.toNat - 1)
  have p2 := pow_pos' wd.toNat
  rw [Int.one_mul, e] at hc
  rw [Int.one_mul]
  rw [Int.fmod_eq_emod_of_nonneg _ (Int.le_of_lt p2)] at hc ⊢
  rw [Int.fdiv_eq_ediv_of_nonneg _ (Int.le_of_lt p)] at hc
  unfold fitN
  have q := Int.emod_nonneg n (Int.ne_of_gt p2)
  by_cases h : n % 2 ^ wd.toNat < 2 ^ (wd.toNat - 1)
  · rw [if_pos h, if_neg (fun k => (hc.mp k) (Int.ediv_eq_zero_of_lt q h))]
  · rw [if_neg h, if_pos (hc.mpr (fun k => h ?_))]
    have := Int.emod_lt_of_pos (n % 2 ^ wd.toNat) p
    have z := Int.emod_add_mul_ediv (n % 2 ^ wd.toNat) (2 ^ (wd.toNat - 1))
    rw [k] at z
    omega
theorem fit0 {n wd : Int} (h1 : 4 ≤ wd) (h : (n.fmod (1 * 2 ^ wd.toNat)).fdiv (2 ^ (wd - 1).toNat) = 0) : n.fmod (1 * 2 ^ wd.toNat) = fitN n wd := by
  rw [← fit_eq h1 False ⟨fun k => k.elim, fun k => k h⟩, if_neg id]
theorem fit1 {n wd : Int} (h1 : 4 ≤ wd) (h : (n.fmod (1 * 2 ^ wd.toNat)).fdiv (2 ^ (wd - 1).toNat) ≠ 0) : n.fmod (1 * 2 ^ wd.toNat) - 1 * 2 ^ wd.toNat = fitN n wd := by
  rw [← fit_eq h1 True ⟨fun _ => h, fun _ => trivial⟩, if_pos trivial]
theorem pow_ne0 {k : Nat} (h : (1 : Int) * 2 ^ k = 0) : False := by have := pow_pos' k; omega
end Mine
end
section
namespace Mine
theorem ext_lst {x y : Str} (h : lst x = lst y) : x = y := by
  obtain ⟨⟨x⟩⟩ := x
  obtain ⟨⟨y⟩⟩ := y
  exact congrArg (fun l => Str.mk ⟨l⟩) h
theorem lst_mkS (l : List Nat) : lst (mkS l) = l := by simp [lst, mkS]
theorem len_lst (x : Str) : x.length = (lst x).length := by simp [lst, Str.length]
theorem lst_append (x y : Str) : lst (x ++ y) = lst x ++ lst y := by simp [lst, Str.cps_append]
noncomputable def cod (x : Str) (i : Nat) : Nat := x.cps.getD i 0
theorem cod_lst (x : Str) (i : Nat) : cod x i = (lst x).getD i 0 := by
  unfold cod lst
  simp [Array.getD_eq_getD_getElem?, List.getD_eq_getElem?_getD]
theorem item_cod {x : Str} {i : Int} (h0 : 0 ≤ i) (h1 : i < x.length) : Txt.item x i = ⟨#[cod x i.toNat]⟩ := item_at h0 h1 rfl
theorem tab128 {l : List Nat} {p : Nat → Bool} (h1 : ∀ c, c < 128 → decide (c ∈ l) = p c) (h2 : ∀ c ∈ l, c < 128) (h3 : ∀ c, 128 ≤ c → p c = false) (c : Nat) : decide (c ∈ l) = p c := by
  by_cases h : c < 128
  · exact h1 c h
  · rw [h3 c (Nat.le_of_not_lt h)]
    exact decide_eq_false fun k => h (h2 c k)
theorem big_out {a b c : Nat} (hb : b < 128) (h : 128 ≤ c) : (decide (a ≤ c) && decide (c ≤ b)) = false := by
  rw [decide_eq_false (p := c ≤ b) (Nat.not_le.mpr (Nat.lt_of_lt_of_le hb h)), Bool.and_false]
theorem inS_sp (c : Nat) : (Builtin.Str.occurrences (Str.ofString " \t\n\x0d\x0c\x0b") ⟨#[c]⟩ 0 (Str.ofString " \t\n\x0d\x0c\x0b").length 1).isEmpty = !isSp c := by
  rw [empty_one, show (Str.ofString " \t\n\x0d\x0c\x0b").cps.toList = [32, 9, 10, 13, 12, 11] from by decide +kernel]
  exact congrArg (!·) (tab128 (by decide +kernel) (by decide +kernel) (fun c h => by unfold isSp; rw [big_out (by decide) h, Bool.or_false]; exact beq_eq_false_iff_ne.mpr (by omega)) c)
theorem inS_fig (c : Nat) : (Builtin.Str.occurrences (Str.ofString "0123456789") ⟨#[c]⟩ 0 (Str.ofString "0123456789").length 1).isEmpty = !isFig c := by
  rw [empty_one, show (Str.ofString "0123456789").cps.toList = [48, 49, 50, 51, 52, 53, 54, 55, 56, 57] from by decide +kernel]
  exact congrArg (!·) (tab128 (by decide +kernel) (by decide +kernel) (fun c h => big_out (by decide) h) c)
theorem inS_sm (c : Nat) : (Builtin.Str.occurrences (Str.ofString "abcdefghijklmnopqrstuvwxyz") ⟨#[c]⟩ 0 (Str.ofString "abcdefghijklmnopqrstuvwxyz").length 1).isEmpty = !isSm c := by
  rw [empty_one, show (Str.ofString "abcdefghijklmnopqrstuvwxyz").cps.toList = [97, 98, 99, 100, 101, 102, 103, 104, 105, 106, 107, 108, 109, 110, 111, 112, 113, 114, 115, 116, 117, 118, 119, 120, 121, 122] from by decide +kernel]
  exact congrArg (!·) (tab128 (by decide +kernel) (by decide +kernel) (fun c h => big_out (by decide) h) c)
theorem inS_gr (c : Nat) : (Builtin.Str.occurrences (Str.ofString "ABCDEFGHIJKLMNOPQRSTUVWXYZ") ⟨#[c]⟩ 0 (Str.ofString "ABCDEFGHIJKLMNOPQRSTUVWXYZ").length 1).isEmpty = !isGr c := by
  rw [empty_one, show (Str.ofString "ABCDEFGHIJKLMNOPQRSTUVWXYZ").cps.toList = [65, 66, 67, 68, 69, 70, 71, 72, 73, 74, 75, 76, 77, 78, 79, 80, 81, 82, 83, 84, 85, 86, 87, 88, 89, 90] from by decide +kernel]
  exact congrArg (!·) (tab128 (by decide +kernel) (by decide +kernel) (fun c h => big_out (by decide) h) c)
theorem notB {a b : Bool} (h : (!a) = b) : a = !b := by cases a <;> cases b <;> simp_all
theorem slice_in {x : Str} {a b : Int} (h0 : 0 ≤ a) (h1 : a ≤ b) (h2 : b ≤ x.length) : lst (Txt.slice x (some a) (some b)) = ((lst x).drop a.toNat).take (b - a).toNat := by
  rw [eq_of_beq (PyProof.Rows.slice_closesL h0 h1 h2)]; rfl
theorem slice_clip {x : Str} {a b : Int} (h : (x.length : Int) ≤ b) : Txt.slice x (some a) (some b) = Txt.slice x (some a) (some (x.length : Int)) := by
  have n0 : (0 : Int) ≤ (x.length : Int) := Int.natCast_nonneg _
  have e : Builtin.Str.strSliceIndices (some a) (some b) 1 x.length = Builtin.Str.strSliceIndices (some a) (some (x.length : Int)) 1 x.length := by
    unfold Builtin.Str.strSliceIndices
    dsimp only
    simp only [show (1 : Int) > 0 from by decide, if_true]
    rw [if_neg (Int.not_lt.mpr (Int.le_trans n0 h)), if_neg (Int.not_lt.mpr n0), Int.min_eq_right h, Int.min_self]
  unfold Txt.slice
  rw [e]
theorem slice_lst (x : Str) (a b : Int) (h0 : 0 ≤ a) (h1 : a ≤ b) (h2 : a ≤ x.length) : lst (Txt.slice x (some a) (some b)) = ((lst x).drop a.toNat).take (b - a).toNat := by
  by_cases hb : b ≤ x.length
  · exact slice_in h0 h1 hb
  · rw [slice_clip (Int.le_of_lt (Int.not_le.mp hb)), slice_in h0 h2 (Int.le_refl _), List.take_of_length_le, List.take_of_length_le]
    · rw [List.length_drop, ← len_lst]; omega
    · rw [List.length_drop, ← len_lst]; omega
end Mine
end
section
namespace Mine
theorem tw_take {p : Nat → Bool} : ∀ {l : List Nat} {k : Nat}, k ≤ l.length → (∀ i, i < k → p (l.getD i 0) = true) → (k = l.length ∨ p (l.getD k 0) = false) → l.takeWhile p = l.take k ∧ l.dropWhile p = l.drop k
  | [], k, h, _, _ => by simp
  | c :: r, 0, _, _, h => by
    rcases h with h | h
    · simp at h
    · simp only [List.getD_cons_zero] at h
      simp [h]
  | c :: r, k + 1, h, h1, h2 => by
    have hc : p c = true := h1 0 (by omega)
    have ih := tw_take (p := p) (l := r) (k := k) (by simpa using h) (fun i hi => h1 (i + 1) (by omega)) (by simpa using h2)
    simp [hc, ih.1, ih.2]
theorem tw_int {p : Nat → Bool} {x : Str} {a k : Int} (h0 : 0 ≤ a) (h1 : a ≤ k) (h2 : k ≤ x.length) (h3 : ∀ i : Nat, a ≤ (i : Int) → (i : Int) < k → p (cod x i) = true) (h4 : k = x.length ∨ p (cod x k.toNat) = false) :
    ((lst x).drop a.toNat).takeWhile p = ((lst x).drop a.toNat).take (k - a).toNat ∧ ((lst x).drop a.toNat).dropWhile p = (lst x).drop k.toNat ∧ (((lst x).drop a.toNat).takeWhile p).length = (k - a).toNat := by
  obtain ⟨a, rfl⟩ := Int.eq_ofNat_of_zero_le h0
  obtain ⟨k, rfl⟩ := Int.eq_ofNat_of_zero_le (Int.le_trans h0 h1)
  replace h1 : a ≤ k := Int.ofNat_le.mp h1
  replace h2 : k ≤ (lst x).length := by rw [← len_lst]; exact Int.ofNat_le.mp h2
  rw [show ((k : Int) - (a : Int)).toNat = k - a from Int.toNat_sub k a]
  show ((lst x).drop a).takeWhile p = ((lst x).drop a).take (k - a) ∧ ((lst x).drop a).dropWhile p = (lst x).drop k ∧ (((lst x).drop a).takeWhile p).length = k - a
  have hd : ((lst x).drop a).length = (lst x).length - a := List.length_drop
  have g : ∀ i, ((lst x).drop a).getD i 0 = cod x (a + i) := fun i => by
    rw [cod_lst]; simp [List.getD_eq_getElem?_getD, List.getElem?_drop]
  have t := tw_take (p := p) (l := (lst x).drop a) (k := k - a) (by rw [hd]; exact Nat.sub_le_sub_right h2 a) (fun i hi => by rw [g]; exact h3 _ (Int.ofNat_le.mpr (Nat.le_add_right a i)) (Int.ofNat_lt.mpr (Nat.add_lt_of_lt_sub' hi))) (by
    rcases h4 with h4 | h4
    · left; rw [hd, len_lst] at *; rw [Int.ofNat.inj h4]
    · right; rw [g, Nat.add_sub_cancel' h1]; exact h4)
  refine ⟨t.1, ?_, ?_⟩
  · rw [t.2, List.drop_drop, Nat.add_sub_cancel' h1]
  · rw [t.1, List.length_take, hd]; exact Nat.min_eq_left (Nat.sub_le_sub_right h2 a)
theorem tw_sp {x : Str} {k : Int} (h1 : 0 ≤ k) (h2 : k ≤ x.length) (h3 : ∀ i : Nat, (i : Int) < k → isSp (cod x i) = true) (h4 : k = x.length ∨ isSp (cod x k.toNat) = false) : (hSp (lst x) : Int) = k ∧ bodyL (lst x) = (lst x).drop k.toNat := by
  have t := tw_int (a := 0) (by decide) h1 h2 (fun i _ h => h3 i h) h4
  simp only [Int.toNat_zero, List.drop_zero, Int.sub_zero] at t
  exact ⟨by unfold hSp; rw [t.2.2]; omega, t.2.1⟩
theorem str_beq {x y : Str} : (x == y) = decide (lst x = lst y) := by
  rw [Bool.eq_iff_iff, beq_iff_eq, decide_eq_true_iff]
  exact ⟨fun h => by rw [h], ext_lst⟩
theorem lst_plus : lst (Str.ofString "+") = [43] := by decide +kernel
theorem lst_minus : lst (Str.ofString "-") = [45] := by decide +kernel
theorem slice1 {x : Str} {k : Int} (h1 : 0 ≤ k) (h2 : k ≤ x.length) : lst (Txt.slice x (some k) (some (k + 1))) = ((lst x).drop k.toNat).take 1 := by
  rw [slice_lst x k (k + 1) h1 (by omega) h2, show (k + 1 - k).toNat = 1 by omega]
theorem sg_plus {x : Str} {k : Int} (h1 : 0 ≤ k) (h2 : k ≤ x.length) (hb : bodyL (lst x) = (lst x).drop k.toNat) (h : (Txt.slice x (some k) (some (k + 1)) == Str.ofString "+") = true) : sg (lst x) = 1 := by
  rw [str_beq, slice1 h1 h2, lst_plus, decide_eq_true_iff] at h
  unfold sg; rw [hb]
  cases e : (lst x).drop k.toNat with
  | nil => rw [e] at h; simp at h
  | cons c r => rw [e] at h; simp only [List.take_succ_cons, List.take_zero, List.cons.injEq, and_true] at h; simp [h]
theorem sg_minus {x : Str} {k : Int} (h1 : 0 ≤ k) (h2 : k ≤ x.length) (hb : bodyL (lst x) = (lst x).drop k.toNat) (h : (Txt.slice x (some k) (some (k + 1)) == Str.ofString "-") = true) : sg (lst x) = 1 := by
  rw [str_beq, slice1 h1 h2, lst_minus, decide_eq_true_iff] at h
  unfold sg; rw [hb]
  cases e : (lst x).drop k.toNat with
  | nil => rw [e] at h; simp at h
  | cons c r => rw [e] at h; simp only [List.take_succ_cons, List.take_zero, List.cons.injEq, and_true] at h; simp [h]
theorem sg_none {x : Str} {k : Int} (h1 : 0 ≤ k) (h2 : k ≤ x.length) (hb : bodyL (lst x) = (lst x).drop k.toNat) (h : (Txt.slice x (some k) (some (k + 1)) == Str.ofString "+") = false) (h' : (Txt.slice x (some k) (some (k + 1)) == Str.ofString "-") = false) : sg (lst x) = 0 := by
  rw [str_beq, slice1 h1 h2, lst_plus, decide_eq_false_iff_not] at h
  rw [str_beq, slice1 h1 h2, lst_minus, decide_eq_false_iff_not] at h'
  unfold sg; rw [hb]
  cases e : (lst x).drop k.toNat with
  | nil => rfl
  | cons c r =>
    rw [e] at h h'
    simp only [List.take_succ_cons, List.take_zero, List.cons.injEq, and_true] at h h'
    simp [h, h']
theorem sg_le (l : List Nat) : sg l ≤ 1 ∧ sg l ≤ (bodyL l).length := by
  unfold sg
  split
  · split <;> simp_all
  · simp
theorem hEnd_eq {x : Str} {k1 k2 k3 : Int} (ha : (hSp (lst x) : Int) = k1) (hb : bodyL (lst x) = (lst x).drop k1.toNat) (hc : k2 = k1 + (sg (lst x) : Int)) (h1 : k2 ≤ k3) (h2 : k3 ≤ x.length) (h3 : ∀ i : Nat, k2 ≤ (i : Int) → (i : Int) < k3 → isFig (cod x i) = true) (h4 : k3 = x.length ∨ isFig (cod x k3.toNat) = false) :
    (hEnd (lst x) : Int) = if k3 = k2 then k1 else k3 := by
  have t := tw_int (p := isFig) (a := k2) (by omega) h1 h2 h3 h4
  have e : ds (lst x) = ((lst x).drop k2.toNat).takeWhile isFig := by
    unfold ds; rw [hb, List.drop_drop]; congr 2; omega
  unfold hEnd
  rw [e]
  by_cases hk : k3 = k2
  · rw [if_pos hk, if_pos (List.eq_nil_of_length_eq_zero (by rw [t.2.2]; omega))]; omega
  · rw [if_neg hk, if_neg (fun h0 => by rw [h0] at t; simp at t; omega), t.2.2]; omega
theorem and_fin {P Q : Prop} (h : P ∧ Q) : Todo (P ∧ Q) := ⟨h⟩
end Mine
namespace Mine
theorem sp_no {x : Str} {k : Int} (h0 : 0 ≤ k) (h1 : k < x.length) (h : (Builtin.Str.occurrences (Str.ofString " \t\n\x0d\x0c\x0b") (Txt.item x k) 0 (Str.ofString " \t\n\x0d\x0c\x0b").length 1).isEmpty = true) : isSp (cod x k.toNat) = false := by
  rw [item_cod h0 h1, inS_sp] at h; simpa using h
theorem sp_yes {x : Str} {k : Int} (h0 : 0 ≤ k) (h1 : k < x.length) (h : (Builtin.Str.occurrences (Str.ofString " \t\n\x0d\x0c\x0b") (Txt.item x k) 0 (Str.ofString " \t\n\x0d\x0c\x0b").length 1).isEmpty = false) : isSp (cod x k.toNat) = true := by
  rw [item_cod h0 h1, inS_sp] at h; simpa using h
theorem fig_no {x : Str} {k : Int} (h0 : 0 ≤ k) (h1 : k < x.length) (h : (Builtin.Str.occurrences (Str.ofString "0123456789") (Txt.item x k) 0 (Str.ofString "0123456789").length 1).isEmpty = true) : isFig (cod x k.toNat) = false := by
  rw [item_cod h0 h1, inS_fig] at h; simpa using h
theorem fig_yes {x : Str} {k : Int} (h0 : 0 ≤ k) (h1 : k < x.length) (h : (Builtin.Str.occurrences (Str.ofString "0123456789") (Txt.item x k) 0 (Str.ofString "0123456789").length 1).isEmpty = false) : isFig (cod x k.toNat) = true := by
  rw [item_cod h0 h1, inS_fig] at h; simpa using h
theorem all_step {p : Nat → Bool} {x : Str} {a k : Int} (hk : 0 ≤ k) (h : ∀ i : Nat, a ≤ (i : Int) → (i : Int) < k → p (cod x i) = true) (h' : p (cod x k.toNat) = true) : ∀ i : Nat, a ≤ (i : Int) → (i : Int) < k + 1 → p (cod x i) = true := fun i hi hk' => by
  by_cases e : (i : Int) < k
  · exact h i hi e
  · rw [show i = k.toNat by omega]; exact h'
end Mine
end
section
namespace Mine
noncomputable def FlEnd {σ : Type} (h₀ : Heap) (L : Addr) (s : Shared) (own : Led) (wr : List Addr) (Ld : σ → Led) (ps : σ → List (Str × Value)) (P : σ → Prop) (s₂ : Shared) : Prop :=
  ∃ (c' : σ) (h : Heap) (tk : Nat) (m' : Str → Option Value) (news' : Led), s₂ = { s with heap := h, toks := tk } ∧ Fr h₀ L h m' ∧ News h₀ L h news' ∧ (∀ p ∈ own, p ∈ news') ∧ (∀ p ∈ Ld c', p ∈ news') ∧ (∀ p ∈ Ld c', p.1 ∉ wr) ∧ (∀ p ∈ ps c', m' p.1 = some p.2) ∧ P c'
noncomputable def FlPost {σ : Type} (h₀ : Heap) (L : Addr) (s : Shared) (own : Led) (wr : List Addr) (Ld : σ → Led) (ps : σ → List (Str × Value)) (P : σ → Prop) (Q : Flow → Shared → Prop) (f : Flow) (s₂ : Shared) : Prop :=
  match f with
  | .ret v => Q (.ret v) s₂
  | .brk => Q .next s₂
  | _ => FlEnd h₀ L s own wr Ld ps P s₂
theorem fl_end {σ : Type} {h₀ h : Heap} {L : Addr} {s : Shared} {own : Led} {wr : List Addr} {Ld : σ → Led} {ps : σ → List (Str × Value)} {P : σ → Prop} (c' : σ) {tk : Nat} {m' : Str → Option Value} {news' : Led}
    (F : Fr h₀ L h m') (N : News h₀ L h news') (ho : ∀ p ∈ own, p ∈ news') (hn : ∀ p ∈ Ld c', p ∈ news') (hk : ∀ p ∈ ps c', m' p.1 = some p.2) (hw : Todo (∀ p ∈ Ld c', p.1 ∉ wr)) (hp : Todo (P c')) : FlEnd h₀ L s own wr Ld ps P { s with heap := h, toks := tk } :=
  ⟨c', h, tk, m', news', rfl, F, N, ho, hn, hw.out, hk, hp.out⟩
section
variable {prog : Program} {w : World} {A : Around} {E : Value → Shared → Prop} {Q : Flow → Shared → Prop} {s : Shared} {env : Env} {h₀ : Heap} {x : Str} {body : List Stmt}
theorem fl_gen {σ : Type} {I : Addr} {fp wr : List Addr} {n : Nat} {Pv : Nat → Value → Prop} {St : Nat → Heap → Prop} {m₀ : Str → Option Value} (Ld : σ → Led) (ps : σ → List (Str × Value)) (P : Nat → σ → Prop) (c₀ : σ)
    (W : Walks prog w A I fp wr n Pv St) (hLf : env.locals ∉ fp) (hwr : ∀ b ∈ wr, h₀.get? b = none) (hnw : ∀ p ∈ Ld c₀, p.1 ∉ wr) (hst : St 0 s.heap) (F : Fr h₀ env.locals s.heap m₀) (N : News h₀ env.locals s.heap (Ld c₀)) (hk : ∀ p ∈ ps c₀, m₀ p.1 = some p.2) (hp : P 0 c₀)
    (turn : ∀ (i : Nat) (v : Value) (c : σ) (u : Str → Option Value) h tk own, i < n → Pv i v → P i c → (∀ p ∈ Ld c, p.1 ∉ wr) → (∀ p ∈ own, p.1 ∈ fp) → (∀ b ∈ fp, h₀.get? b = none → ∀ o, h.get? b = some o → (b, o) ∈ own) → Fr h₀ env.locals h (fun y => if y = x then some v else kstB u (ps c) y) → News h₀ env.locals h (Ld c ++ own) →
      wpAny (model prog w) A (execs body env) (FlPost h₀ env.locals s own wr Ld ps (P (i + 1)) Q) E { s with heap := h, toks := tk })
    (done : ∀ (c : σ) (u : Str → Option Value) h tk, P n c → Fr h₀ env.locals h (kstB u (ps c)) → News h₀ env.locals h (Ld c) → Q .next { s with heap := h, toks := tk }) :
    LoopAtV prog w A h₀ env x body Q E (.ref I) s := by
  refine ⟨I, fp, wr, n, Pv, St, m₀, Ld c₀, fun i m nx => ∃ c, nx = Ld c ∧ (∀ p ∈ ps c, m p.1 = some p.2) ∧ P i c, rfl, W, hLf, hwr, hnw, hst, F, N, ⟨c₀, rfl, hk, hp⟩, ?_, ?_⟩
  · rintro i v m₁ news₁ s₁ own ⟨hh', tk', rfl⟩ hin hP ⟨c, rfl, hkc, hpc⟩ hoff hown hget hall _ F₁ N₁
    have e : m₁ = kstB m₁ (ps c) := funext fun z => (kstB_eq hkc fun _ => rfl).symm
    have F₂ : Fr h₀ env.locals hh' (fun y => if y = x then some v else kstB m₁ (ps c) y) := by rw [← e]; exact F₁
    have N₂ : News h₀ env.locals hh' (Ld c ++ own) := fun p hp => N₁ p ((List.mem_append.mp hp).elim (fun h => List.mem_append.mpr (.inr h)) fun h => List.mem_append.mpr (.inl h))
    refine wpAny_mono (turn i v c m₁ hh' tk' own hin hP hpc hoff hown hall F₂ N₂) (fun f s₂ p => ?_) fun _ _ e => e
    have fin : FlEnd h₀ env.locals s own wr Ld ps (P (i + 1)) s₂ → LoopStepU h₀ env.locals wr own (fun m nx => ∃ c, nx = Ld c ∧ (∀ p ∈ ps c, m p.1 = some p.2) ∧ P (i + 1) c) { s with heap := hh', toks := tk' } .next s₂ := by
      rintro ⟨c', h', tk, m', news', e, F', N', ho, hn, hw, hk', hp'⟩
      exact ⟨rfl, h', tk, m', Ld c', e, F', fun p hp => N' p ((List.mem_append.mp hp).elim (ho p) (hn p)), hw, c', rfl, hk', hp'⟩
    cases f with
    | ret v => exact .ret p
    | brk => exact .brk p
    | next => exact .next (fin p)
    | cont => exact .cont (fin p)
  · rintro h' tk m' news' F' N' _ ⟨c, rfl, hkc, hpc⟩
    exact done c m' h' tk hpc (frL F' hkc) N'
theorem fl_text {σ : Type} {xt : Str} {tx : Tok} {m₀ : Str → Option Value} {led led₀ : Led} (ps : σ → List (Str × Value)) (P : Nat → σ → Prop) (c₀ : σ)
    (hh : A.handled = none) (F : Fr h₀ env.locals s.heap m₀) (N : News h₀ env.locals s.heap led₀) (hs : ∀ p ∈ led, p ∈ led₀) (hk : ∀ p ∈ ps c₀, m₀ p.1 = some p.2) (hp : P 0 c₀)
    (turn : ∀ (i : Nat) t (c : σ) (u : Str → Option Value) h tk own wr, i < xt.length → P i c → (∀ p ∈ led, p.1 ∉ wr) → Fr h₀ env.locals h (fun y => if y = x then some (.str ⟨#[cod xt i]⟩ t) else kstB u (ps c) y) → News h₀ env.locals h (led ++ own) →
      wpAny (model prog w) A (execs body env) (FlPost h₀ env.locals s own wr (fun _ => led) ps (P (i + 1)) Q) E { s with heap := h, toks := tk })
    (done : ∀ (c : σ) (u : Str → Option Value) h tk, P xt.length c → Fr h₀ env.locals h (kstB u (ps c)) → News h₀ env.locals h led → Q .next { s with heap := h, toks := tk }) :
    wpAny (model prog w) A (pyIter (.str xt tx)) (fun it s₂ => LoopAtV prog w A h₀ env x body Q E it s₂) E s := by
  refine wpAny_pyIter_str fun o St hW hst => ?_
  have N1 : News h₀ env.locals s.heap led := kst_newsOf N hs
  refine fl_gen (fun _ => led) ps P c₀ (hW A hh) ?_ ?_ ?_ hst (F.push _) (fun p hp => ⟨Heap.get?_push_of_some _ (N1 p hp).1, (N1 p hp).2⟩) hk hp ?_ ?_
  · intro hm
    exact absurd F.ns.lt ((List.mem_singleton.mp hm) ▸ Nat.lt_irrefl _)
  · intro b' hb
    rw [List.mem_singleton.mp hb]
    exact next_is_new F
  · intro p hp hI
    exact absurd (Heap.lt_size (N1 p hp).1) ((List.mem_singleton.mp hI) ▸ Nat.lt_irrefl _)
  · rintro i v c u h tk own hi ⟨n, t, hn, rfl⟩ hpc hoff _ _ F₁ N₁
    have e : n = cod xt i := by
      unfold cod
      rw [Array.getD_eq_getD_getElem?, hn]; rfl
    subst e
    exact turn i t c u h tk own _ hi hpc hoff F₁ N₁
  · exact fun c u h tk => done c u h tk
theorem fl_range {σ : Type} {r : Addr} {a₀ b₀ : Int} {t₀ u₀ v₀ : Tok} {m₀ : Str → Option Value} {led led₀ : Led} (ps : σ → List (Str × Value)) (P : Nat → σ → Prop) (c₀ : σ) (n : Nat)
    (hh : A.handled = none) (hr : IsRange s.heap r a₀ b₀ 1 t₀ u₀ v₀) (ha : a₀ = 0) (hb : b₀ = (n : Int)) (hn : n < 2 ^ 60) (F : Fr h₀ env.locals s.heap m₀) (N : News h₀ env.locals s.heap led₀) (hs : ∀ p ∈ led, p ∈ led₀) (hk : ∀ p ∈ ps c₀, m₀ p.1 = some p.2) (hp : P 0 c₀)
    (turn : ∀ (i : Nat) t (c : σ) (u : Str → Option Value) h tk own wr, i < n → P i c → (∀ p ∈ led, p.1 ∉ wr) → Fr h₀ env.locals h (fun y => if y = x then some (.int (i : Int) t) else kstB u (ps c) y) → News h₀ env.locals h (led ++ own) →
      wpAny (model prog w) A (execs body env) (FlPost h₀ env.locals s own wr (fun _ => led) ps (P (i + 1)) Q) E { s with heap := h, toks := tk })
    (done : ∀ (c : σ) (u : Str → Option Value) h tk, P n c → Fr h₀ env.locals h (kstB u (ps c)) → News h₀ env.locals h led → Q .next { s with heap := h, toks := tk }) :
    wpAny (model prog w) A (pyIter (.ref r)) (fun it s₂ => LoopAtV prog w A h₀ env x body Q E it s₂) E s := by
  subst ha hb
  have hsmall : Builtin.Range.small 0 (n : Int) 1 = true := small_one (by omega) (by omega) (by omega) (by omega)
  have hsz : Builtin.Range.rangeSize 0 (n : Int) 1 = (n : Int) := by
    unfold Builtin.Range.rangeSize; simp; omega
  refine wpAny_pyIter_range hr hsmall ?_
  have N1 : News h₀ env.locals s.heap led := kst_newsOf N hs
  have W : Walks prog w A s.heap.objs.size [s.heap.objs.size] [s.heap.objs.size] n (fun i v => i < n ∧ ∃ t, v = .int (0 + i * 1) t)
      (fun i h => IsRangeIter h s.heap.objs.size (0 + (i : Nat) * 1) ((n : Int) - (i : Nat)) 1) := (Walks.range hh _ 0 1 n).bound
  refine fl_gen (fun _ => led) ps P c₀ W ?_ ?_ ?_ (by show IsRangeIter _ _ _ _ _; rw [hsz]; simpa using Heap.get?_push_size _ rfl) (F.push _) (fun p hp => ⟨Heap.get?_push_of_some _ (N1 p hp).1, (N1 p hp).2⟩) hk hp ?_ ?_
  · intro hm
    exact absurd F.ns.lt ((List.mem_singleton.mp hm) ▸ Nat.lt_irrefl _)
  · intro b' hb
    rw [List.mem_singleton.mp hb]
    exact next_is_new F
  · intro p hp hI
    exact absurd (Heap.lt_size (N1 p hp).1) ((List.mem_singleton.mp hI) ▸ Nat.lt_irrefl _)
  · rintro i v c u h tk own hi ⟨_, t, rfl⟩ hpc hoff _ _ F₁ N₁
    rw [show (0 : Int) + (i : Int) * 1 = i by omega] at F₁
    exact turn i t c u h tk own _ hi hpc hoff F₁ N₁
  · exact fun c u h tk => done c u h tk
end
end Mine
end
section
namespace Mine
theorem drop_tw (p : Nat → Bool) (l : List Nat) : l.dropWhile p = l.drop (l.takeWhile p).length := by
  have := List.drop_left (l₁ := l.takeWhile p) (l₂ := l.dropWhile p)
  rw [List.takeWhile_append_dropWhile] at this
  exact this.symm
theorem hSp_body (l : List Nat) : bodyL l = l.drop (hSp l) ∧ hSp l ≤ l.length := by
  unfold bodyL hSp
  constructor
  · have := List.drop_left (l₁ := l.takeWhile isSp) (l₂ := l.dropWhile isSp)
    rw [List.takeWhile_append_dropWhile] at this
    exact this.symm
  · have := congrArg List.length (List.takeWhile_append_dropWhile (p := isSp) (l := l))
    rw [List.length_append] at this; omega
theorem ds_rest (l : List Nat) : (bodyL l).drop (sg l) = ds l ++ restL l := (List.takeWhile_append_dropWhile).symm
theorem body_parts (l : List Nat) : bodyL l = (bodyL l).take (sg l) ++ (ds l ++ restL l) := by
  rw [← ds_rest, List.take_append_drop]
theorem take_sg_len (l : List Nat) : ((bodyL l).take (sg l)).length = sg l := by
  rw [List.length_take]; have := (sg_le l).2; omega
theorem hEnd_le (l : List Nat) : hSp l ≤ hEnd l ∧ hEnd l ≤ l.length := by
  have h1 := (hSp_body l)
  have h2 := congrArg List.length (body_parts l)
  rw [List.length_append, List.length_append, take_sg_len] at h2
  have h3 := congrArg List.length h1.1
  rw [List.length_drop] at h3
  unfold hEnd
  split <;> omega
theorem hEnd_le' (x : Str) : 0 ≤ (hSp (lst x) : Int) ∧ (hSp (lst x) : Int) ≤ hEnd (lst x) ∧ (hEnd (lst x) : Int) ≤ x.length := by
  have := hEnd_le (lst x)
  have := len_lst x
  omega
theorem all_takeWhile (p : Nat → Bool) : ∀ l : List Nat, (l.takeWhile p).all p = true
  | [] => rfl
  | c :: r => by
    by_cases h : p c = true
    · simp only [List.takeWhile_cons, h, if_true, List.all_cons, Bool.true_and]; exact all_takeWhile p r
    · simp [h]
theorem filter_all {p : Nat → Bool} {l : List Nat} (h : l.all p = true) : l.filter p = l := by
  rw [List.filter_eq_self]; exact fun a ha => List.all_eq_true.mp h a ha
theorem sg_filter (l : List Nat) : ((bodyL l).take (sg l)).filter isFig = [] := by
  unfold sg
  split
  · rename_i c r e
    split
    · rename_i h
      rw [e]
      rcases h with h | h <;> (subst h; simp [isFig])
    · simp
  · simp
theorem slice_figs (l : List Nat) : (((l.drop (hSp l)).take (hEnd l - hSp l)).filter isFig) = ds l := by
  rw [← (hSp_body l).1]
  unfold hEnd
  split
  · rename_i h; rw [h]; simp
  · rw [show hSp l + sg l + (ds l).length - hSp l = sg l + (ds l).length by omega]
    have e : (bodyL l).take (sg l + (ds l).length) = (bodyL l).take (sg l) ++ ds l := by
      rw [List.take_add]
      congr 1
      rw [ds_rest, List.take_left]
    rw [e, List.filter_append, sg_filter, List.nil_append]
    exact filter_all (all_takeWhile _ _)
theorem hSp_lt {l : List Nat} : hSp l < hEnd l ↔ ds l ≠ [] := by
  unfold hEnd
  constructor
  · intro h e; rw [if_pos e] at h; omega
  · intro h; rw [if_neg h]
    have : 0 < (ds l).length := List.length_pos_iff.mpr h
    omega
theorem val_snoc (l : List Nat) (c : Nat) : val (l ++ [c]) = 10 * val l + (c - 48) := by simp [val, List.foldl_append]
theorem find_fig {c : Nat} (h : isFig c = true) : Txt.find (Str.ofString "0123456789") ⟨#[c]⟩ = ((c - 48 : Nat) : Int) := by
  have k : ∀ c : Nat, c < 58 → isFig c = true → Txt.find (Str.ofString "0123456789") ⟨#[c]⟩ = ((c - 48 : Nat) : Int) := by decide +kernel
  exact k c (by simp [isFig] at h; omega) h
theorem in_fig {c : Nat} (h : (Builtin.Str.occurrences (Str.ofString "0123456789") ⟨#[c]⟩ 0 (Str.ofString "0123456789").length 1).isEmpty = false) : isFig c = true := by
  rw [inS_fig] at h; simpa using h
theorem notin_fig {c : Nat} (h : (Builtin.Str.occurrences (Str.ofString "0123456789") ⟨#[c]⟩ 0 (Str.ofString "0123456789").length 1).isEmpty = true) : isFig c = false := by
  rw [inS_fig] at h; simpa using h
theorem take_cod {y : Str} {i : Nat} (h : i < y.length) : (lst y).take (i + 1) = (lst y).take i ++ [cod y i] := by
  rw [len_lst] at h
  rw [List.take_succ_eq_append_getElem h, cod_lst]
  simp [List.getD_eq_getElem?_getD, h]
theorem numt_skip {y : Str} {i : Nat} {n wd : Int} (hi : i < y.length) (hp : n = (val (((lst y).take i).filter isFig) : Int) % 2 ^ wd.toNat) (h : isFig (cod y i) = false) : n = (val (((lst y).take (i + 1)).filter isFig) : Int) % 2 ^ wd.toNat := by
  rw [take_cod hi, List.filter_append]
  simpa [h] using hp
theorem numt_step {y : Str} {i : Nat} {n wd : Int} (hi : i < y.length) (hp : n = (val (((lst y).take i).filter isFig) : Int) % 2 ^ wd.toNat) (h : isFig (cod y i) = true) :
    (n * 10 + Txt.find (Str.ofString "0123456789") ⟨#[cod y i]⟩).fmod (1 * 2 ^ wd.toNat) = (val (((lst y).take (i + 1)).filter isFig) : Int) % 2 ^ wd.toNat := by
  have p2 := pow_pos' wd.toNat
  rw [find_fig h, take_cod hi, List.filter_append, Int.one_mul, Int.fmod_eq_emod_of_nonneg _ (Int.le_of_lt p2)]
  have e : [cod y i].filter isFig = [cod y i] := by simp [h]
  rw [e, val_snoc, hp]
  push_cast
  rw [Int.add_emod, Int.mul_emod, Int.emod_emod, ← Int.mul_emod, ← Int.add_emod, Int.mul_comm]
theorem fit_congr {a b wd : Int} (h : a % 2 ^ wd.toNat = b % 2 ^ wd.toNat) : fitN a wd = fitN b wd := by unfold fitN; rw [h]
theorem fit_mod (a wd : Int) : fitN (a % 2 ^ wd.toNat) wd = fitN a wd := fit_congr (Int.emod_emod _ _)
theorem fit_negmod (a wd : Int) : fitN (-(a % 2 ^ wd.toNat)) wd = fitN (-a) wd := fit_congr (by
  rw [← Int.sub_zero (-(a % 2 ^ wd.toNat)), ← Int.zero_sub, Int.sub_zero, ← Int.zero_sub a, Int.sub_emod, Int.emod_emod, ← Int.sub_emod])
theorem neg_item {x : Str} (h : (hSp (lst x) : Int) < (hEnd (lst x) : Int)) : (Txt.item x (hSp (lst x) : Int) == Str.ofString "-") = neg (lst x) := by
  have hb := hEnd_le' x
  rw [item_cod (by omega) (by omega), str_beq, lst_minus, Int.toNat_natCast]
  unfold neg
  rw [(hSp_body (lst x)).1, cod_lst]
  have hl : hSp (lst x) < (lst x).length := by rw [← len_lst]; omega
  rw [List.head?_drop, List.getElem?_eq_getElem hl]
  have e : (lst x).getD (hSp (lst x)) 0 = (lst x)[hSp (lst x)] := by simp [List.getD_eq_getElem?_getD, hl]
  rw [e, Bool.eq_iff_iff]
  simp [lst]
end Mine
end
section
namespace Mine
theorem numt_end1 {x : Str} {wd : Int} (h : (hSp (lst x) : Int) < (hEnd (lst x) : Int)) (e : (Txt.item x (hSp (lst x) : Int) == Str.ofString "-") = true) : fitN (-((val (ds (lst x)) : Int) % 2 ^ wd.toNat)) wd = fitN (num (lst x)) wd := by
  rw [neg_item h] at e
  rw [fit_negmod]; unfold num; rw [if_pos e]
theorem numt_end2 {x : Str} {wd : Int} (h : (hSp (lst x) : Int) < (hEnd (lst x) : Int)) (e : (Txt.item x (hSp (lst x) : Int) == Str.ofString "-") = false) : fitN ((val (ds (lst x)) : Int) % 2 ^ wd.toNat) wd = fitN (num (lst x)) wd := by
  rw [neg_item h] at e
  rw [fit_mod]; unfold num; rw [if_neg (by simp [e])]
theorem numt_end3 {x : Str} {wd : Int} (h : ¬ (hSp (lst x) : Int) < (hEnd (lst x) : Int)) : fitN ((val (ds (lst x)) : Int) % 2 ^ wd.toNat) wd = fitN (num (lst x)) wd := by
  have : ds (lst x) = [] := by
    by_cases e : ds (lst x) = []
    · exact e
    · have := hSp_lt.mpr e; omega
  rw [fit_mod]; unfold num; rw [this]; simp [val]
theorem looks0 {x : Str} (h : (hSp (lst x) : Int) = (hEnd (lst x) : Int)) : false = (!(ds (lst x)).isEmpty && (restL (lst x)).all isSp) := by
  have : ds (lst x) = [] := by
    by_cases e : ds (lst x) = []
    · exact e
    · have := hSp_lt.mpr e; omega
  simp [this]
theorem rest_drop {l : List Nat} (h : ds l ≠ []) : restL l = l.drop (hEnd l) := by
  have e : hEnd l = hSp l + (sg l + (ds l).length) := by unfold hEnd; rw [if_neg h]; omega
  rw [e, ← List.drop_drop, ← (hSp_body l).1, ← List.drop_drop, ds_rest, List.drop_left]
theorem tw_self {p : Nat → Bool} : ∀ {l : List Nat}, l.all p = true → l.takeWhile p = l
  | [], _ => rfl
  | c :: r, h => by
    simp only [List.all_cons, Bool.and_eq_true] at h
    rw [List.takeWhile_cons, if_pos h.1, tw_self h.2]
theorem all_tw {p : Nat → Bool} {l : List Nat} : l.all p = decide ((l.takeWhile p).length = l.length) := by
  rw [Bool.eq_iff_iff, decide_eq_true_iff]
  constructor
  · intro h
    rw [tw_self h]
  · intro h
    have e := List.takeWhile_append_dropWhile (p := p) (l := l)
    have e2 := congrArg List.length e
    rw [List.length_append] at e2
    have : l.dropWhile p = [] := List.eq_nil_of_length_eq_zero (by omega)
    rw [this, List.append_nil] at e
    rw [← e]; exact all_takeWhile _ _
theorem looks1 {x : Str} {k : Int} (h : (hSp (lst x) : Int) ≠ (hEnd (lst x) : Int)) (h1 : (hEnd (lst x) : Int) ≤ k) (h2 : k ≤ x.length) (h3 : ∀ i : Nat, (hEnd (lst x) : Int) ≤ (i : Int) → (i : Int) < k → isSp (cod x i) = true) (h4 : k = x.length ∨ isSp (cod x k.toNat) = false) :
    decide (k = x.length) = (!(ds (lst x)).isEmpty && (restL (lst x)).all isSp) := by
  have hd : ds (lst x) ≠ [] := by
    intro e; apply h; unfold hEnd; rw [if_pos e]
  have t := tw_int (p := isSp) (a := (hEnd (lst x) : Int)) (by omega) h1 h2 h3 h4
  rw [Int.toNat_natCast] at t
  have hl := len_lst x
  have e : (ds (lst x)).isEmpty = false := by cases hh : ds (lst x) with | nil => exact absurd hh hd | cons => rfl
  rw [e, rest_drop hd, all_tw, t.2.2, List.length_drop, Bool.not_false, Bool.true_and, Bool.eq_iff_iff, decide_eq_true_iff, decide_eq_true_iff]
  omega
theorem figN : ∀ k : Nat, k < 10 → Txt.item (Str.ofString "0123456789") (k : Int) = ⟨#[48 + k]⟩ := by decide +kernel
theorem hexN : ∀ k : Nat, k < 16 → Txt.item (Str.ofString "0123456789abcdef") (k : Int) = ⟨#[hexFig k]⟩ := by decide +kernel
theorem cod_figs {j : Int} (h0 : 0 ≤ j) (h1 : j < 10) : Txt.item (Str.ofString "0123456789") j = ⟨#[48 + j.toNat]⟩ := by
  obtain ⟨m, rfl⟩ := Int.eq_ofNat_of_zero_le h0
  exact figN m (Int.ofNat_lt.mp h1)
theorem cod_hex {j : Int} (h0 : 0 ≤ j) (h1 : j < 16) : Txt.item (Str.ofString "0123456789abcdef") j = ⟨#[hexFig j.toNat]⟩ := by
  obtain ⟨m, rfl⟩ := Int.eq_ofNat_of_zero_le h0
  exact hexN m (Int.ofNat_lt.mp h1)
noncomputable def preDigs (n : Nat) : List Nat := if n < 10 then [] else digs (n / 10)
noncomputable def preHexs (n : Nat) : List Nat := if n < 16 then [] else hexs (n / 16)
theorem digs_pre (n : Nat) : digs n = preDigs n ++ [48 + n % 10] := by
  unfold preDigs; rw [digs]
  by_cases h : n < 10
  · rw [if_pos h, if_pos h, Nat.mod_eq_of_lt h]; rfl
  · rw [if_neg h, if_neg h]
theorem hexs_pre (n : Nat) : hexs n = preHexs n ++ [hexFig (n % 16)] := by
  unfold preHexs; rw [hexs]
  by_cases h : n < 16
  · rw [if_pos h, if_pos h, Nat.mod_eq_of_lt h]; rfl
  · rw [if_neg h, if_neg h]
theorem digs_len : ∀ (k n : Nat), n < 10 ^ (k + 1) → (digs n).length ≤ k + 1
  | 0, n, h => by rw [digs, if_pos (by simpa using h)]; simp
  | k + 1, n, h => by
    rw [digs]
    split
    · simp
    · have := digs_len k (n / 10) (by rw [Nat.pow_succ] at h; omega)
      rw [List.length_append]; simp; omega
theorem hexs_len : ∀ (k n : Nat), n < 16 ^ (k + 1) → (hexs n).length ≤ k + 1
  | 0, n, h => by rw [hexs, if_pos (by simpa using h)]; simp
  | k + 1, n, h => by
    rw [hexs]
    split
    · simp
    · have := hexs_len k (n / 16) (by rw [Nat.pow_succ] at h; omega)
      rw [List.length_append]; simp; omega
theorem lst_single (c : Nat) : lst ⟨#[c]⟩ = [c] := rfl
theorem dm10 (m : Nat) : (m : Int).fdiv 10 = ((m / 10 : Nat) : Int) ∧ (m : Int).fmod 10 = ((m % 10 : Nat) : Int) := by
  cases m <;> exact ⟨rfl, rfl⟩
theorem dm16 (m : Nat) : (m : Int).fdiv 16 = ((m / 16 : Nat) : Int) ∧ (m : Int).fmod 16 = ((m % 16 : Nat) : Int) := by
  cases m <;> exact ⟨rfl, rfl⟩
theorem nt_start {n k : Int} (h1 : 0 ≤ n) (e : k = n.fmod 10) : digs n.toNat = preDigs n.toNat ++ lst (Txt.item (Str.ofString "0123456789") k) := by
  obtain ⟨m, rfl⟩ := Int.eq_ofNat_of_zero_le h1
  rw [e, (dm10 m).2, figN _ (Nat.mod_lt _ (by decide)), lst_single]
  exact digs_pre m
theorem nt_step {n k : Int} {x : Str} (hk : 9 < k) (p : digs n.toNat = preDigs k.toNat ++ lst x) :
    digs n.toNat = preDigs (k.fdiv 10).toNat ++ lst (Txt.item (Str.ofString "0123456789") ((k.fdiv 10).fmod 10) ++ x) := by
  obtain ⟨m, rfl⟩ := Int.eq_ofNat_of_zero_le (Int.le_of_lt (Int.lt_trans (by decide : (0 : Int) < 9) hk))
  have hm : ¬ m < 10 := Nat.not_lt.mpr (Int.ofNat_lt.mp hk)
  rw [(dm10 m).1, (dm10 (m / 10)).2, figN _ (Nat.mod_lt _ (by decide)), lst_append, lst_single, p]
  show preDigs m ++ lst x = preDigs (m / 10) ++ ([48 + m / 10 % 10] ++ lst x)
  rw [← List.append_assoc, ← digs_pre, show preDigs m = digs (m / 10) from if_neg hm]
theorem hx_start {n k : Int} (h1 : 0 ≤ n) (e : k = n.fmod 16) : hexs n.toNat = preHexs n.toNat ++ lst (Txt.item (Str.ofString "0123456789abcdef") k) := by
  obtain ⟨m, rfl⟩ := Int.eq_ofNat_of_zero_le h1
  rw [e, (dm16 m).2, hexN _ (Nat.mod_lt _ (by decide)), lst_single]
  exact hexs_pre m
theorem hx_step {n k : Int} {x : Str} (hk : 15 < k) (p : hexs n.toNat = preHexs k.toNat ++ lst x) :
    hexs n.toNat = preHexs (k.fdiv 16).toNat ++ lst (Txt.item (Str.ofString "0123456789abcdef") ((k.fdiv 16).fmod 16) ++ x) := by
  obtain ⟨m, rfl⟩ := Int.eq_ofNat_of_zero_le (Int.le_of_lt (Int.lt_trans (by decide : (0 : Int) < 15) hk))
  have hm : ¬ m < 16 := Nat.not_lt.mpr (Int.ofNat_lt.mp hk)
  rw [(dm16 m).1, (dm16 (m / 16)).2, hexN _ (Nat.mod_lt _ (by decide)), lst_append, lst_single, p]
  show preHexs m ++ lst x = preHexs (m / 16) ++ ([hexFig (m / 16 % 16)] ++ lst x)
  rw [← List.append_assoc, ← hexs_pre, show preHexs m = hexs (m / 16) from if_neg hm]
theorem nt_len {n : Int} {x : Str} {y : List Nat} (h2 : n.natAbs < 10 ^ 30) (p : digs n.toNat = y ++ lst x) : x.length ≤ 30 := by
  have := digs_len 29 n.toNat (by omega)
  rw [p, List.length_append] at this
  rw [len_lst]; omega
theorem hx_len {n : Int} {x : Str} {y : List Nat} (h2 : n < 16 ^ 20) (h1 : 0 ≤ n) (p : hexs n.toNat = y ++ lst x) : x.length ≤ 20 := by
  have := hexs_len 19 n.toNat (by omega)
  rw [p, List.length_append] at this
  rw [len_lst]; omega
theorem nt_end {n k : Int} {x : Str} (h1 : 0 ≤ n) (hk : 0 ≤ k) (h9 : k ≤ 9) (p : digs n.toNat = preDigs k.toNat ++ lst x) : x = mkS (numText n) := by
  apply ext_lst
  rw [lst_mkS]; unfold numText
  rw [if_neg (by omega), show n.natAbs = n.toNat by omega, p]
  unfold preDigs; rw [if_pos (by omega)]; rfl
theorem hx_end {n k : Int} {x : Str} (hk : 0 ≤ k) (h9 : k ≤ 15) (p : hexs n.toNat = preHexs k.toNat ++ lst x) : x = mkS (hexs n.toNat) := by
  apply ext_lst
  rw [lst_mkS, p]
  unfold preHexs; rw [if_pos (by omega)]; rfl
theorem nt_neg {n : Int} (h : n < 0) : Str.ofString "-" ++ mkS (numText (-n)) = mkS (numText n) := by
  apply ext_lst
  rw [lst_append, lst_mkS, lst_mkS, lst_minus]; unfold numText
  rw [if_neg (by omega), if_pos h, Int.natAbs_neg]; rfl
theorem mkS_len (l : List Nat) : (mkS l).length = l.length := by rw [len_lst, lst_mkS]
theorem numText_len {n : Int} (h : n.natAbs < 10 ^ 30) : (mkS (numText n)).length ≤ 31 := by
  rw [mkS_len]; unfold numText
  have := digs_len 29 n.natAbs h
  split <;> simp <;> omega
end Mine
end
section
namespace Mine
theorem sm_out {x : Str} {k : Int} (h0 : 0 ≤ k) (h1 : k < x.length) {b : Bool} (h : (Builtin.Str.occurrences (Str.ofString "abcdefghijklmnopqrstuvwxyz") (Txt.item x k) 0 (Str.ofString "abcdefghijklmnopqrstuvwxyz").length 1).isEmpty = b) : isSm (cod x k.toNat) = !b := by
  rw [item_cod h0 h1, inS_sm] at h; exact notB h
theorem gr_out {x : Str} {k : Int} (h0 : 0 ≤ k) (h1 : k < x.length) {b : Bool} (h : (Builtin.Str.occurrences (Str.ofString "ABCDEFGHIJKLMNOPQRSTUVWXYZ") (Txt.item x k) 0 (Str.ofString "ABCDEFGHIJKLMNOPQRSTUVWXYZ").length 1).isEmpty = b) : isGr (cod x k.toNat) = !b := by
  rw [item_cod h0 h1, inS_gr] at h; exact notB h
theorem let_no {x : Str} {k : Int} (h0 : 0 ≤ k) (h1 : k < x.length) (h : (Builtin.Str.occurrences (Str.ofString "abcdefghijklmnopqrstuvwxyz") (Txt.item x k) 0 (Str.ofString "abcdefghijklmnopqrstuvwxyz").length 1).isEmpty = true) (h' : (Builtin.Str.occurrences (Str.ofString "ABCDEFGHIJKLMNOPQRSTUVWXYZ") (Txt.item x k) 0 (Str.ofString "ABCDEFGHIJKLMNOPQRSTUVWXYZ").length 1).isEmpty = true) : isLet (cod x k.toNat) = false := by
  have a := sm_out h0 h1 h
  have b := gr_out h0 h1 h'
  unfold isLet; rw [a, b]; rfl
theorem let_sm {x : Str} {k : Int} (h0 : 0 ≤ k) (h1 : k < x.length) (h : (Builtin.Str.occurrences (Str.ofString "abcdefghijklmnopqrstuvwxyz") (Txt.item x k) 0 (Str.ofString "abcdefghijklmnopqrstuvwxyz").length 1).isEmpty = false) : isLet (cod x k.toNat) = true := by
  have a := sm_out h0 h1 h
  unfold isLet; rw [a]; rfl
theorem let_gr {x : Str} {k : Int} (h0 : 0 ≤ k) (h1 : k < x.length) (h' : (Builtin.Str.occurrences (Str.ofString "ABCDEFGHIJKLMNOPQRSTUVWXYZ") (Txt.item x k) 0 (Str.ofString "ABCDEFGHIJKLMNOPQRSTUVWXYZ").length 1).isEmpty = false) : isLet (cod x k.toNat) = true := by
  have b := gr_out h0 h1 h'
  unfold isLet; rw [b, Bool.or_comm]; rfl
theorem magic_end {x : Str} {k1 k3 : Int} (p1 : 0 ≤ k1) (p2 : k1 ≤ x.length) (p3 : ∀ i : Nat, 0 ≤ (i : Int) → (i : Int) < k1 → isLet (cod x i) = true) (p4 : k1 = x.length ∨ isLet (cod x k1.toNat) = false)
    (r1 : k1 ≤ k3) (r2 : k3 ≤ x.length) (r3 : ∀ i : Nat, k1 ≤ (i : Int) → (i : Int) < k3 → isFig (cod x i) = true) (r4 : k3 = x.length ∨ isFig (cod x k3.toNat) = false) : magic (lst x) = (decide (0 < k1) && decide (k3 = x.length)) := by
  have a := tw_int (p := isLet) (a := 0) (by decide) p1 p2 p3 p4
  have b := tw_int (p := isFig) p1 r1 r2 r3 r4
  simp only [Int.toNat_zero, List.drop_zero, Int.sub_zero] at a
  have hl := len_lst x
  unfold magic
  rw [a.2.1, all_tw, b.2.2, List.length_drop]
  congr 1
  · rw [Bool.eq_iff_iff, decide_eq_true_iff]
    have e := a.2.2
    cases h : (lst x).takeWhile isLet with
    | nil => rw [h] at e; simp at e; simp; omega
    | cons c r => rw [h] at e; simp at e; simp; omega
  · rw [Bool.eq_iff_iff, decide_eq_true_iff, decide_eq_true_iff]; omega
theorem magic_end1 {x : Str} {k1 k3 : Int} (p1 : 0 ≤ k1) (p2 : k1 ≤ x.length) (p3 : ∀ i : Nat, 0 ≤ (i : Int) → (i : Int) < k1 → isLet (cod x i) = true) (p4 : k1 = x.length ∨ isLet (cod x k1.toNat) = false)
    (r1 : k1 ≤ k3) (r2 : k3 ≤ x.length) (r3 : ∀ i : Nat, k1 ≤ (i : Int) → (i : Int) < k3 → isFig (cod x i) = true) (r4 : k3 = x.length ∨ isFig (cod x k3.toNat) = false) (h : 0 < k1) : (k3 == (x.length : Int)) = magic (lst x) := by
  rw [magic_end p1 p2 p3 p4 r1 r2 r3 r4, decide_eq_true h, Bool.true_and]; rfl
theorem magic_end0 {x : Str} {k1 k3 : Int} (p1 : 0 ≤ k1) (p2 : k1 ≤ x.length) (p3 : ∀ i : Nat, 0 ≤ (i : Int) → (i : Int) < k1 → isLet (cod x i) = true) (p4 : k1 = x.length ∨ isLet (cod x k1.toNat) = false)
    (r1 : k1 ≤ k3) (r2 : k3 ≤ x.length) (r3 : ∀ i : Nat, k1 ≤ (i : Int) → (i : Int) < k3 → isFig (cod x i) = true) (r4 : k3 = x.length ∨ isFig (cod x k3.toNat) = false) (h : ¬ 0 < k1) : (decide (0 < k1)) = magic (lst x) := by
  rw [magic_end p1 p2 p3 p4 r1 r2 r3 r4, decide_eq_false h, Bool.false_and]
noncomputable def rowOf (c : Nat) : Str := if isFig c then Str.ofString "0123456789" else if isSm c then Str.ofString "abcdefghijklmnopqrstuvwxyz" else Str.ofString "ABCDEFGHIJKLMNOPQRSTUVWXYZ"
theorem row1 {c : Nat} (h : (Builtin.Str.occurrences (Str.ofString "0123456789") ⟨#[c]⟩ 0 (Str.ofString "0123456789").length 1).isEmpty = true) (h' : (Builtin.Str.occurrences (Str.ofString "abcdefghijklmnopqrstuvwxyz") ⟨#[c]⟩ 0 (Str.ofString "abcdefghijklmnopqrstuvwxyz").length 1).isEmpty = true) : Str.ofString "ABCDEFGHIJKLMNOPQRSTUVWXYZ" = rowOf c := by
  rw [inS_fig] at h; rw [inS_sm] at h'
  unfold rowOf; rw [notB h, notB h']; rfl
theorem row2 {c : Nat} (h : (Builtin.Str.occurrences (Str.ofString "0123456789") ⟨#[c]⟩ 0 (Str.ofString "0123456789").length 1).isEmpty = true) (h' : (Builtin.Str.occurrences (Str.ofString "abcdefghijklmnopqrstuvwxyz") ⟨#[c]⟩ 0 (Str.ofString "abcdefghijklmnopqrstuvwxyz").length 1).isEmpty = false) : Str.ofString "abcdefghijklmnopqrstuvwxyz" = rowOf c := by
  rw [inS_fig] at h; rw [inS_sm] at h'
  unfold rowOf; rw [notB h, notB h']; rfl
theorem row3 {c : Nat} (h : (Builtin.Str.occurrences (Str.ofString "0123456789") ⟨#[c]⟩ 0 (Str.ofString "0123456789").length 1).isEmpty = false) : Str.ofString "0123456789" = rowOf c := by
  rw [inS_fig] at h
  unfold rowOf; rw [notB h]; rfl
theorem row_facts : ∀ c, c < 123 → (isFig c || isLet c) = true → (decide ((Txt.find (rowOf c) ⟨#[c]⟩ + 1) < ((rowOf c).length : Int)) = !isEnd c) ∧ (isEnd c = false → Txt.item (rowOf c) (Txt.find (rowOf c) ⟨#[c]⟩ + 1) = ⟨#[c + 1]⟩) ∧ (isEnd c = true → Txt.item (rowOf c) 0 = ⟨#[firstOf c]⟩) ∧ decide (-1 ≤ Txt.find (rowOf c) ⟨#[c]⟩) = true := by decide +kernel
theorem row_len (c : Nat) : 1 ≤ (rowOf c).length ∧ (rowOf c).length ≤ 26 := by
  unfold rowOf
  split
  · decide +kernel
  · split <;> decide +kernel
theorem magic_lt {c : Nat} (h : (isFig c || isLet c) = true) : c < 123 := by
  simp [isFig, isLet, isSm, isGr] at h; omega
theorem magic_all {l : List Nat} (h : magic l = true) : ∀ c ∈ l, (isFig c || isLet c) = true := by
  unfold magic at h
  simp only [Bool.and_eq_true] at h
  intro c hc
  rw [← List.takeWhile_append_dropWhile (p := isLet) (l := l)] at hc
  rcases List.mem_append.mp hc with h1 | h1
  · rw [List.all_eq_true.mp (all_takeWhile isLet l) c h1, Bool.or_true]
  · rw [List.all_eq_true.mp h.2 c h1]; rfl
theorem magic_first {l : List Nat} (h : magic l = true) : ∃ c r, l = c :: r ∧ isLet c = true := by
  unfold magic at h
  simp only [Bool.and_eq_true] at h
  cases l with
  | nil => simp at h
  | cons c r =>
    refine ⟨c, r, rfl, ?_⟩
    by_cases hc : isLet c = true
    · exact hc
    · simp [hc] at h
theorem lfit1 {n wd : Int} (h1 : 4 ≤ wd) (h : n.fmod (2 ^ wd.toNat) < 2 ^ (wd - 1).toNat) : n.fmod (2 ^ wd.toNat) = fitN n wd := by
  have p2 := pow_pos' wd.toNat
  rw [Int.fmod_eq_emod_of_nonneg _ (Int.le_of_lt p2)] at h ⊢
  rw [show (wd - 1).toNat = wd.toNat - 1 by omega] at h
  unfold fitN; rw [if_pos h]
theorem lfit2 {n wd : Int} (h1 : 4 ≤ wd) (h : ¬ n.fmod (2 ^ wd.toNat) < 2 ^ (wd - 1).toNat) : n.fmod (2 ^ wd.toNat) - 2 ^ wd.toNat = fitN n wd := by
  have p2 := pow_pos' wd.toNat
  rw [Int.fmod_eq_emod_of_nonneg _ (Int.le_of_lt p2)] at h ⊢
  rw [show (wd - 1).toNat = wd.toNat - 1 by omega] at h
  unfold fitN; rw [if_neg h]
theorem nextR_stop {c : Nat} (hc : isEnd c = false) : ∀ (r s : List Nat), (∀ a ∈ r, isEnd a = true) → nextR (r ++ c :: s) = r.map firstOf ++ (c + 1) :: s
  | [], s, _ => by simp [nextR, hc]
  | a :: r, s, h => by
    have ih := nextR_stop hc r s fun b hb => h b (.tail _ hb)
    have ha := h a (.head _)
    cases r with
    | nil => simp only [List.nil_append, List.cons_append] at ih ⊢; rw [nextR, if_pos ha] <;> simp [ih]
    | cons b r => simp only [List.cons_append] at ih ⊢; rw [nextR, if_pos ha] <;> simp [ih]
theorem nextR_all : ∀ (r : List Nat) (c : Nat), (∀ a ∈ r, isEnd a = true) → isEnd c = true → nextR (r ++ [c]) = (r ++ [c]).map firstOf ++ [if c = 57 then 49 else firstOf c]
  | [], c, _, hc => by simp [nextR, hc]
  | a :: r, c, h, hc => by
    have ih := nextR_all r c (fun b hb => h b (.tail _ hb)) hc
    have ha := h a (.head _)
    cases r with
    | nil => simp only [List.nil_append, List.cons_append] at ih ⊢; rw [nextR, if_pos ha] <;> simp [ih]
    | cons b r => simp only [List.cons_append] at ih ⊢; rw [nextR, if_pos ha] <;> simp [ih]
theorem nextL_stop {a b : List Nat} {c : Nat} (hc : isEnd c = false) (hb : ∀ x ∈ b, isEnd x = true) : nextL (a ++ c :: b) = a ++ (c + 1) :: b.map firstOf := by
  unfold nextL
  rw [List.reverse_append, List.reverse_cons, List.append_assoc, List.singleton_append, nextR_stop hc _ _ (fun x hx => hb x (List.mem_reverse.mp hx))]
  simp
theorem nextL_all {b : List Nat} {c : Nat} (hc : isEnd c = true) (hb : ∀ x ∈ b, isEnd x = true) : nextL (c :: b) = (if c = 57 then 49 else firstOf c) :: (c :: b).map firstOf := by
  unfold nextL
  rw [List.reverse_cons, nextR_all _ _ (fun x hx => hb x (List.mem_reverse.mp hx)) hc]
  simp
end Mine
end
section
namespace Mine
noncomputable def preL (n : Nat) : List Nat := if n = 0 then [] else digs n
noncomputable def LdP (n k : Int) (x : Str) : Prop := 0 ≤ k ∧ ((x = Str.ofString "" ∧ k = n.natAbs) ∨ (x ≠ Str.ofString "" ∧ digs n.natAbs = preL k.toNat ++ lst x))
theorem LdP.len {n k : Int} {x : Str} (h2 : n.natAbs < 10 ^ 30) (p : LdP n k x) : 0 ≤ k ∧ x.length ≤ 30 := by
  refine ⟨p.1, ?_⟩
  rcases p.2 with ⟨rfl, _⟩ | ⟨_, h⟩
  · decide
  · exact nt_len (n := (n.natAbs : Int)) (by omega) (by simpa using h)
theorem LdP.start {n : Int} : LdP n (if n < 0 then -n else n) (Str.ofString "") := by
  refine ⟨by split <;> omega, .inl ⟨rfl, by split <;> omega⟩⟩
theorem pre_preL (n : Nat) : preDigs n = preL (n / 10) := by
  unfold preDigs preL
  by_cases h : n < 10
  · rw [if_pos h, if_pos (by omega)]
  · rw [if_neg h, if_neg (by omega)]
theorem cons_ne {c : Nat} {x : Str} : (⟨#[c]⟩ ++ x : Str) ≠ Str.ofString "" := by
  intro h
  have := congrArg lst h
  rw [lst_append, show lst (Str.ofString "") = [] from by decide +kernel] at this
  simp [lst] at this
theorem LdP.step {n k : Int} {x : Str} (p : LdP n k x) (h : 0 < k ∨ x = Str.ofString "") : LdP n (k.fdiv 10) (⟨#[(48 + k.fmod 10).toNat]⟩ ++ x) := by
  obtain ⟨m, rfl⟩ := Int.eq_ofNat_of_zero_le p.1
  rw [(dm10 m).1, (dm10 m).2]
  refine ⟨Int.natCast_nonneg _, .inr ⟨cons_ne, ?_⟩⟩
  rw [lst_append, lst_single]
  show digs n.natAbs = preL (m / 10) ++ ([48 + m % 10] ++ lst x)
  rcases p.2 with ⟨rfl, hkn⟩ | ⟨hx, hd⟩
  · rw [← Int.ofNat.inj hkn, show lst (Str.ofString "") = [] from by decide +kernel, List.append_nil, digs_pre, pre_preL]
  · have h0 : m ≠ 0 := fun e => h.elim (fun q => by subst e; exact absurd q (by decide)) hx
    rw [hd, show preL (Int.toNat (m : Int)) = digs m from if_neg h0, digs_pre, pre_preL, List.append_assoc]
theorem LdP.less1 {k : Int} {x : Str} {c : Nat} (h : 0 < k) : (2 * (k.fdiv 10).toNat + if (⟨#[c]⟩ ++ x : Str) = Str.ofString "" then 1 else 0) < 2 * k.toNat + if x = Str.ofString "" then 1 else 0 := by
  rw [Int.fdiv_eq_ediv_of_nonneg _ (by decide), if_neg cons_ne]
  split <;> omega
theorem LdP.less2 {k : Int} {x : Str} {c : Nat} (h0 : 0 ≤ k) (h : ¬ 0 < k) (e : x = Str.ofString "") : (2 * (k.fdiv 10).toNat + if (⟨#[c]⟩ ++ x : Str) = Str.ofString "" then 1 else 0) < 2 * k.toNat + if x = Str.ofString "" then 1 else 0 := by
  rw [Int.fdiv_eq_ediv_of_nonneg _ (by decide), if_neg cons_ne, if_pos e]
  omega
theorem LdP.done {n k : Int} {x : Str} (p : LdP n k x) (h : k ≤ 0 ∧ x ≠ Str.ofString "") : lst x = digs n.natAbs := by
  rcases p.2 with ⟨rfl, _⟩ | ⟨_, hd⟩
  · exact absurd rfl h.2
  · rw [hd]; unfold preL; rw [if_pos (by omega)]; rfl
theorem LdP.end1 {n k : Int} {x : Str} (p : LdP n k x) (h : k ≤ 0 ∧ x ≠ Str.ofString "") (hn : n < 0) : Str.ofString "-" ++ x = mkS (numText n) := by
  apply ext_lst
  rw [lst_append, lst_mkS, lst_minus, p.done h]; unfold numText; rw [if_pos hn]; rfl
theorem LdP.end2 {n k : Int} {x : Str} (p : LdP n k x) (h : k ≤ 0 ∧ x ≠ Str.ofString "") (hn : ¬ n < 0) : x = mkS (numText n) := by
  apply ext_lst
  rw [lst_mkS, p.done h]; unfold numText; rw [if_neg hn]
theorem cod_mem {x : Str} {i : Nat} (h : i < x.length) : cod x i ∈ lst x := by
  rw [len_lst] at h
  rw [cod_lst, List.getD_eq_getElem?_getD, List.getElem?_eq_getElem h]
  exact List.getElem_mem h
theorem drop_cod {x : Str} {i : Nat} (h : i < x.length) : (lst x).drop i = cod x i :: (lst x).drop (i + 1) := by
  have h' : i < (lst x).length := by rw [← len_lst]; exact h
  rw [List.drop_eq_getElem_cons h', cod_lst, List.getD_eq_getElem?_getD, List.getElem?_eq_getElem h']; rfl
theorem slice_none {x : Str} {k : Int} (h0 : 0 ≤ k) : lst (Txt.slice x none (some k)) = (lst x).take k.toNat := by
  have e : Txt.slice x none (some k) = Txt.slice x (some 0) (some k) := by
    unfold Txt.slice Builtin.Str.strSliceIndices
    have : (0 : Int) ≤ x.length := Int.natCast_nonneg _
    have e2 : max 0 (min 0 (x.length : Int)) = 0 := by omega
    simp only [show (1 : Int) > 0 by decide, if_true, show ¬ (0 : Int) < 0 by decide, if_false, e2]
  rw [e, slice_lst x 0 k (by omega) h0 (by omega)]
  simp
theorem minc_rf {x : Str} (hm : magic (lst x) = true) {k : Int} (h0 : 0 < k) (h1 : k ≤ x.length) :
    (decide ((Txt.find (rowOf (cod x (k - 1).toNat)) (Txt.item x (k - 1)) + 1) < ((rowOf (cod x (k - 1).toNat)).length : Int)) = !isEnd (cod x (k - 1).toNat)) ∧ (isEnd (cod x (k - 1).toNat) = false → Txt.item (rowOf (cod x (k - 1).toNat)) (Txt.find (rowOf (cod x (k - 1).toNat)) (Txt.item x (k - 1)) + 1) = ⟨#[cod x (k - 1).toNat + 1]⟩) ∧ (isEnd (cod x (k - 1).toNat) = true → Txt.item (rowOf (cod x (k - 1).toNat)) 0 = ⟨#[firstOf (cod x (k - 1).toNat)]⟩) ∧ -1 ≤ Txt.find (rowOf (cod x (k - 1).toNat)) (Txt.item x (k - 1)) := by
  rw [item_cod (by omega) (by omega)]
  have hc := magic_all hm _ (cod_mem (x := x) (i := (k - 1).toNat) (by omega))
  have r := row_facts _ (magic_lt hc) hc
  exact ⟨r.1, r.2.1, r.2.2.1, of_decide_eq_true r.2.2.2⟩
theorem minc_find {x : Str} (hm : magic (lst x) = true) (k : Int) : 0 < k → k ≤ x.length → -1 ≤ Txt.find (rowOf (cod x (k - 1).toNat)) (Txt.item x (k - 1)) := fun h0 h1 => (minc_rf hm h0 h1).2.2.2
noncomputable def MincP (x : Str) (k : Int) (b : Str) : Prop := 0 ≤ k ∧ k ≤ x.length ∧ (∀ a ∈ (lst x).drop k.toNat, isEnd a = true) ∧ lst b = ((lst x).drop k.toNat).map firstOf
theorem MincP.start {x : Str} : MincP x x.length (Str.ofString "") := by
  refine ⟨by omega, by omega, ?_, ?_⟩
  · rw [Int.toNat_natCast, len_lst, List.drop_length]; intro a h; cases h
  · rw [Int.toNat_natCast, len_lst, List.drop_length]; decide +kernel
theorem MincP.len {x b : Str} {k : Int} (p : MincP x k b) : b.length ≤ x.length := by
  rw [len_lst, p.2.2.2, len_lst]; simp
theorem MincP.ret {x b : Str} {k : Int} (p : MincP x k b) (hm : magic (lst x) = true) (h0 : 0 < k) (h : Txt.find (rowOf (cod x (k - 1).toNat)) (Txt.item x (k - 1)) + 1 < ((rowOf (cod x (k - 1).toNat)).length : Int)) :
    (Txt.slice x none (some (k - 1)) ++ Txt.item (rowOf (cod x (k - 1).toNat)) (Txt.find (rowOf (cod x (k - 1).toNat)) (Txt.item x (k - 1)) + 1)) ++ b = mkS (nextL (lst x)) := by
  have r := minc_rf hm h0 p.2.1
  rw [decide_eq_true h] at r
  have he : isEnd (cod x (k - 1).toNat) = false := by have := r.1; revert this; cases isEnd (cod x (k - 1).toNat) <;> simp
  apply ext_lst
  rw [lst_append, lst_append, r.2.1 he, lst_single, lst_mkS, slice_none (by omega), p.2.2.2]
  have hlt : (k - 1).toNat < x.length := by have := p.2.1; omega
  have e : lst x = (lst x).take (k - 1).toNat ++ cod x (k - 1).toNat :: (lst x).drop k.toNat := by
    conv => lhs; rw [← List.take_append_drop (k - 1).toNat (lst x), drop_cod hlt, show (k - 1).toNat + 1 = k.toNat by omega]
  conv => rhs; rw [e]
  rw [nextL_stop he p.2.2.1]
  simp
theorem MincP.step {x b : Str} {k : Int} (p : MincP x k b) (hm : magic (lst x) = true) (h0 : 0 < k) (h : ¬ Txt.find (rowOf (cod x (k - 1).toNat)) (Txt.item x (k - 1)) + 1 < ((rowOf (cod x (k - 1).toNat)).length : Int)) :
    MincP x (k - 1) (Txt.item (rowOf (cod x (k - 1).toNat)) 0 ++ b) := by
  have r := minc_rf hm h0 p.2.1
  rw [decide_eq_false h] at r
  have he : isEnd (cod x (k - 1).toNat) = true := by have := r.1; revert this; cases isEnd (cod x (k - 1).toNat) <;> simp
  have hlt : (k - 1).toNat < x.length := by have := p.2.1; omega
  refine ⟨by omega, by have := p.2.1; omega, ?_, ?_⟩
  · rw [drop_cod hlt, show (k - 1).toNat + 1 = k.toNat by omega]
    intro a ha
    rcases List.mem_cons.mp ha with rfl | ha
    · exact he
    · exact p.2.2.1 a ha
  · rw [drop_cod hlt, show (k - 1).toNat + 1 = k.toNat by omega, List.map_cons, ← p.2.2.2, lst_append, r.2.2.1 he]; rfl
theorem MincP.first {x b : Str} {k : Int} (p : MincP x k b) (hm : magic (lst x) = true) (h0 : k = 0) : ∃ c r, lst x = c :: r ∧ isLet c = true ∧ cod x 0 = c ∧ lst b = firstOf c :: r.map firstOf ∧ 1 ≤ b.length ∧ 1 ≤ x.length ∧ mkS (nextL (lst x)) = ⟨#[firstOf c]⟩ ++ b := by
  subst h0
  obtain ⟨c, r, e, hc⟩ := magic_first hm
  have hb := p.2.2.2
  have hend := p.2.2.1
  simp only [Int.toNat_zero, List.drop_zero, e, List.map_cons] at hb hend
  refine ⟨c, r, e, hc, by rw [cod_lst, e]; rfl, hb, by rw [len_lst, hb]; simp, by rw [len_lst, e]; simp, ?_⟩
  apply ext_lst
  rw [lst_mkS, lst_append, lst_single, hb, e, nextL_all (hend c (.head _)) (fun a ha => hend a (.tail _ ha))]
  have : c ≠ 57 := by intro h; subst h; simp [isLet, isSm, isGr] at hc
  rw [if_neg this]; rfl
theorem MincP.end1 {x b : Str} {k : Int} (p : MincP x k b) (hm : magic (lst x) = true) (h0 : k = 0) (h : (Builtin.Str.occurrences (Str.ofString "0123456789") (Txt.item x 0) 0 (Str.ofString "0123456789").length 1).isEmpty = false) : False := by
  obtain ⟨c, r, e, hc, h1, _, _, h2, _⟩ := p.first hm h0
  have := fig_yes (x := x) (k := 0) (by omega) (by omega) h
  rw [Int.toNat_zero, h1] at this
  simp [isFig, isLet, isSm, isGr] at this hc; omega
theorem MincP.end2 {x b : Str} {k : Int} (p : MincP x k b) (hm : magic (lst x) = true) (h0 : k = 0) : Txt.item b 0 ++ b = mkS (nextL (lst x)) := by
  obtain ⟨c, r, e, hc, h1, hb, h3, h2, h4⟩ := p.first hm h0
  rw [h4, item_cod (by omega) (by omega), Int.toNat_zero]
  congr 3
  rw [cod_lst, hb]; rfl
end Mine
end
section
namespace Mine
noncomputable def lParts : List Str := [Str.ofString "7", Str.ofString "12", Str.ofString "0", Str.ofString " ", Str.ofString "\t", Str.ofString "-", Str.ofString "+", Str.ofString "a", Str.ofString "z", Str.ofString "Z", Str.ofString "9", Str.ofString "_", Str.ofString "e5", Str.ofString "\n", Str.ofString "99999999999999999999", Str.ofString "Az", Str.ofString ".", Str.ofString "zz", Str.ofString "00"]
noncomputable def lWhole : List Str := [Str.ofString "", Str.ofString "0", Str.ofString "00", Str.ofString "0.0", Str.ofString " ", Str.ofString "-", Str.ofString "zZ9", Str.ofString "a9", Str.ofString "Zz", Str.ofString "9", Str.ofString "0 but true", Str.ofString "- 3", Str.ofString "\n-12\n", Str.ofString "A", Str.ofString "z9z", Str.ofString "+", Str.ofString "aé"]
noncomputable def ltLoop : Nat → Int → Str → Str
  | 0, _, x => x
  | k + 1, n, x => ltLoop k (n.fdiv 19) (x ++ lParts.getD ((n.fdiv 5).fmod 19).toNat Str.empty)
noncomputable def ltx (n : Int) : Str := if n.fmod 3 = 0 then lWhole.getD ((n.fdiv 3).fmod 17).toNat Str.empty else ltLoop (1 + (n.fdiv 3).fmod 5).toNat (n.fdiv 3) (Str.ofString "")
theorem parts_len (k : Nat) : (lParts.getD k Str.empty).length ≤ 20 := by
  by_cases h : k < 19
  · exact (show ∀ k, k < 19 → (lParts.getD k Str.empty).length ≤ 20 by decide +kernel) k h
  · rw [List.getD_eq_getElem?_getD, List.getElem?_eq_none (by simp [lParts]; omega)]; decide
theorem whole_len (k : Nat) : (lWhole.getD k Str.empty).length ≤ 20 := by
  by_cases h : k < 17
  · exact (show ∀ k, k < 17 → (lWhole.getD k Str.empty).length ≤ 20 by decide +kernel) k h
  · rw [List.getD_eq_getElem?_getD, List.getElem?_eq_none (by simp [lWhole]; omega)]; decide
theorem ltLoop_len : ∀ (k : Nat) (n : Int) (x : Str), (ltLoop k n x).length ≤ x.length + 20 * k
  | 0, _, x => by simp [ltLoop]
  | k + 1, n, x => by
    have h1 := ltLoop_len k (n.fdiv 19) (x ++ lParts.getD ((n.fdiv 5).fmod 19).toNat Str.empty)
    have h2 := parts_len ((n.fdiv 5).fmod 19).toNat
    rw [len_lst (x ++ _), lst_append, List.length_append, ← len_lst, ← len_lst] at h1
    unfold ltLoop; omega
theorem fmod5 (n : Int) : 0 ≤ n.fmod 5 ∧ n.fmod 5 < 5 := by
  rw [Int.fmod_eq_emod_of_nonneg _ (by decide)]; omega
theorem ltx_len (n : Int) : (ltx n).length ≤ 200 := by
  unfold ltx
  split
  · have := whole_len ((n.fdiv 3).fmod 17).toNat; omega
  · have h1 := ltLoop_len (1 + (n.fdiv 3).fmod 5).toNat (n.fdiv 3) (Str.ofString "")
    have h2 := fmod5 (n.fdiv 3)
    have h3 : (Str.ofString "").length = 0 := by decide
    omega
end Mine
namespace Mine
theorem ltx_turn {K i : Nat} {k : Int} {x T : Str} (hi : i < K) (p1 : x.length ≤ 20 * i) (p2 : ltLoop (K - i) k x = T) : (x ++ lParts.getD ((k.fdiv 5).fmod 19).toNat Str.empty).length ≤ 20 * (i + 1) ∧ ltLoop (K - (i + 1)) (k.fdiv 19) (x ++ lParts.getD ((k.fdiv 5).fmod 19).toNat Str.empty) = T := by
  constructor
  · have := parts_len ((k.fdiv 5).fmod 19).toNat
    rw [len_lst (x ++ _), lst_append, List.length_append, ← len_lst, ← len_lst]; omega
  · rw [show K - i = (K - (i + 1)) + 1 by omega] at p2
    exact p2
end Mine
end
section
namespace Mine
noncomputable def clsOf : Nat → Addr | 1 => 127 | 2 => 146 | _ => 108
noncomputable def ThingAt (news : Led) (th : Addr) (kd : Nat) (num : Int) (bl : Bool) : Prop :=
  ∃ dth et nt t, (th, instObj (clsOf kd) dth) ∈ news ∧ (dth, dictOf et nt) ∈ news ∧ getL (Str.ofString "number") et = some (some (.int num t)) ∧ (∃ tb, getL (Str.ofString "blessed") et = some (some (if bl then .str (Str.ofString "A::B") tb else .none))) ∧
    (kd = 0 → getL (Str.ofString "value") et = some (some .none)) ∧ (kd = 3 → ∃ r2 dr2 e2 n2, getL (Str.ofString "value") et = some (some (.ref r2)) ∧ (r2, instObj 204 dr2) ∈ news ∧ (dr2, dictOf e2 n2) ∈ news)
noncomputable def RefAt (news : Led) (r th : Addr) (kd : Nat) (num : Int) (bl : Bool) : Prop :=
  ∃ dr er nr, (r, instObj 204 dr) ∈ news ∧ (dr, dictOf er nr) ∈ news ∧ getL (Str.ofString "target") er = some (some (.ref th)) ∧ ThingAt news th kd num bl
noncomputable def LimAt (news : Led) (lim : Addr) (wd : Int) : Prop := ∃ dl el nl t, (lim, instObj 387 dl) ∈ news ∧ (dl, dictOf el nl) ∈ news ∧ getL (Str.ofString "width") el = some (some (.int wd t))
inductive Vl where
  | none
  | int (n : Int)
  | str (x : Str)
  | ref (kd : Nat) (num : Int) (bl : Bool)
noncomputable def IsV (news : Led) (v : Value) : Vl → Prop
  | .none => v = .none
  | .int n => ∃ t, v = .int n t
  | .str x => ∃ t, v = .str x t
  | .ref kd num bl => ∃ r th, v = .ref r ∧ RefAt news r th kd num bl
theorem ThingAt.mono {news news' : Led} {th : Addr} {kd : Nat} {num : Int} {bl : Bool} (h : ThingAt news th kd num bl) (s : ∀ p ∈ news, p ∈ news') : ThingAt news' th kd num bl := by
  obtain ⟨a, b, c, d, h1, h2, h3, h4, h5, h6⟩ := h
  exact ⟨a, b, c, d, s _ h1, s _ h2, h3, h4, h5, fun k => let ⟨x, y, z, u, p, q, r⟩ := h6 k; ⟨x, y, z, u, p, s _ q, s _ r⟩⟩
theorem RefAt.mono {news news' : Led} {r th : Addr} {kd : Nat} {num : Int} {bl : Bool} (h : RefAt news r th kd num bl) (s : ∀ p ∈ news, p ∈ news') : RefAt news' r th kd num bl := by
  obtain ⟨a, b, c, h1, h2, h3, h4⟩ := h
  exact ⟨a, b, c, s _ h1, s _ h2, h3, h4.mono s⟩
theorem LimAt.mono {news news' : Led} {lim : Addr} {wd : Int} (h : LimAt news lim wd) (s : ∀ p ∈ news, p ∈ news') : LimAt news' lim wd := by
  obtain ⟨a, b, c, d, h1, h2, h3⟩ := h
  exact ⟨a, b, c, d, s _ h1, s _ h2, h3⟩
theorem IsV.mono {news news' : Led} {v : Value} {d : Vl} (h : IsV news v d) (s : ∀ p ∈ news, p ∈ news') : IsV news' v d := by
  cases d with
  | ref kd num bl => obtain ⟨r, th, e, h⟩ := h; exact ⟨r, th, e, h.mono s⟩
  | _ => exact h
theorem newsMore {h₀ : Heap} {L : Addr} {h : Heap} {news : Led} (N : News h₀ L h news) (ex : Led) (s : ∀ p ∈ ex, p ∈ news) : News h₀ L h (ex ++ news) := fun p hp => (List.mem_append.mp hp).elim (fun q => N p (s p q)) (N p)
theorem all2 {news : Led} {p q : Addr × Obj} (a : p ∈ news) (b : q ∈ news) : ∀ z ∈ [p, q], z ∈ news := by
  intro z hz
  rcases List.mem_cons.mp hz with rfl | hz
  · exact a
  · rw [List.mem_singleton.mp hz]; exact b
theorem newsCons {h₀ : Heap} {L : Addr} {h : Heap} {news : Led} {p : Addr × Obj} (N : News h₀ L h news) (s : p ∈ news) : News h₀ L h (p :: news) := fun q hq => (List.mem_cons.mp hq).elim (fun e => e ▸ N p s) (N q)
noncomputable def numOf (wd : Int) : Vl → Int
  | .none => 0
  | .int n => n
  | .str x => fitN (num (lst x)) wd
  | .ref _ n _ => n
noncomputable def wordOf : Nat → Str
  | 0 => Str.ofString "SCALAR"
  | 1 => Str.ofString "ARRAY"
  | 2 => Str.ofString "HASH"
  | _ => Str.ofString "REF"
noncomputable def Vl.ok : Vl → Prop
  | .none => True
  | .int n => n.natAbs < 2 ^ 80
  | .str x => x.length ≤ 200
  | .ref kd n _ => kd < 4 ∧ 0 < n ∧ n < 2 ^ 60
end Mine
namespace Mine
theorem news2 {h₀ : Heap} {L : Addr} {h : Heap} {news : Led} {p q : Addr × Obj} (N : News h₀ L h news) (a : p ∈ news) (b : q ∈ news) : News h₀ L h (p :: q :: news) := newsMore N [p, q] (all2 a b)
theorem news4 {h₀ : Heap} {L : Addr} {h : Heap} {news : Led} {p q r s : Addr × Obj} (N : News h₀ L h news) (a : p ∈ news) (b : q ∈ news) (c : r ∈ news) (d : s ∈ news) : News h₀ L h (p :: q :: r :: s :: news) :=
  news2 (news2 N c d) (.tail _ (.tail _ a)) (.tail _ (.tail _ b))
end Mine
namespace Mine
theorem kd_cases {k : Nat} (h : k < 4) : k = 0 ∨ k = 1 ∨ k = 2 ∨ k = 3 := by omega
end Mine
namespace Mine
theorem FnC.useN {w : World} {f : Addr} {d u : Nat} {news : Led} {vs : List Value} {C : (Value → Led → Prop) → Prop} {h₀ : Heap} {L : Addr} {s : Shared} (N : News h₀ L s.heap news) (H : FnC w f d u news vs C)
    {mean : ExcName → Option Value} {mg mb : Str → Option Value} {dp un : Nat} {gd : Option (List Code)} {cn : Str} {cs : Scope} {a : Addr} {ccd : Value} {cl : List (Str × Addr)} {outer : List Env} {A₀ : Around} {base : Heap} {m : Str → Option Value} {Q E : Value → Shared → Prop}
    (B : Below A₀ base outer h₀) (F : Fr h₀ L s.heap m) (X : (Mine.mk.heap_1 w.params).In h₀) (T : Top view (looseW view loose0) mean mg mb h₀) (hk : cs.kind = .function) (hd : dp + d < recursionLimit) (hu : un + u < cLine)
    (ret : C (fun v news' => ∀ h' tk', Fr h₀ L h' m → News h₀ L h' news' → Q v { s with heap := h', toks := tk' })) :
    wpAny (model pw w) (ktrTop dp un gd cn cs L a ccd cl outer) (call (.ref f) vs) Q E s := FnC.use H B F X N T hk hd hu ret
end Mine
namespace Mine
noncomputable def refText (kd : Nat) (nm : Int) (bl : Bool) : Str := if bl then Str.ofString "A::B" ++ Str.ofString "=" ++ (wordOf kd ++ Str.ofString "(0x" ++ mkS (hexs nm.toNat) ++ Str.ofString ")") else wordOf kd ++ Str.ofString "(0x" ++ mkS (hexs nm.toNat) ++ Str.ofString ")"
noncomputable def truthOf : Vl → Bool
  | .none => false
  | .int n => !(n == 0)
  | .str x => !(x == Str.ofString "") && !(x == Str.ofString "0")
  | .ref _ _ _ => true
noncomputable def sameV : Vl → Vl → Bool
  | .none, .none => true
  | .int a, .int b => a == b
  | .str a, .str b => a == b
  | .ref _ a _, .ref _ b _ => a == b
  | _, _ => false
end Mine
namespace Mine
noncomputable def textOf : Vl → Str
  | .none => Str.ofString ""
  | .int n => mkS (numText n)
  | .str x => x
  | .ref kd nm bl => refText kd nm bl
noncomputable def incV (wd : Int) (d : Vl) (t : Tok) : Value := match d with
  | .str x => if magic (lst x) then .str (mkS (nextL (lst x))) t else .int (fitN (fitN (num (lst x)) wd + 1) wd) t
  | d => .int (fitN (numOf wd d + 1) wd) t
noncomputable def ScalAt (news : Led) (x : Addr) (v : Value) : Prop := ∃ dx es n, (x, instObj 108 dx) ∈ news ∧ (dx, dictOf es n) ∈ news ∧ getL (Str.ofString "magic") es = some (some .none) ∧ getL (Str.ofString "value") es = some (some v)
noncomputable def cmpOf (a b : Int) : Int := if a < b then -1 else if a > b then 1 else 0
theorem Vl.ok_int {n : Int} (h : (Vl.int n).ok) : n.natAbs < 10 ^ 30 := Nat.lt_trans h (by decide)
end Mine
end
section
namespace Mine
section
variable {prog : Program} {w : World} {A : Around} {E : Value → Shared → Prop} {Q : Flow → Shared → Prop} {s : Shared} {env : Env} {h₀ : Heap} {x : Str} {body : List Stmt}
theorem fl_list {σ : Type} {l : Addr} {o : Obj} {items : List Value} {m₀ : Str → Option Value} {led led₀ : Led} (ps : σ → List (Str × Value)) (P : Nat → σ → Prop) (c₀ : σ)
    (hh : A.handled = none) (hl : s.heap.IsList l items.toArray) (hlm : (l, o) ∈ led₀) (F : Fr h₀ env.locals s.heap m₀) (N : News h₀ env.locals s.heap led₀) (hs : ∀ p ∈ led, p ∈ led₀) (hk : ∀ p ∈ ps c₀, m₀ p.1 = some p.2) (hp : P 0 c₀)
    (turn : ∀ (i : Nat) v (c : σ) (u : Str → Option Value) h tk own wr, i < items.length → items[i]? = some v → P i c → (∀ p ∈ led, p.1 ∉ wr) → Fr h₀ env.locals h (fun y => if y = x then some v else kstB u (ps c) y) → News h₀ env.locals h (led ++ own) →
      wpAny (model prog w) A (execs body env) (FlPost h₀ env.locals s own wr (fun _ => led) ps (P (i + 1)) Q) E { s with heap := h, toks := tk })
    (done : ∀ (c : σ) (u : Str → Option Value) h tk, P items.length c → Fr h₀ env.locals h (kstB u (ps c)) → News h₀ env.locals h led → Q .next { s with heap := h, toks := tk }) :
    wpAny (model prog w) A (pyIter (.ref l)) (fun it s₂ => LoopAtV prog w A h₀ env x body Q E it s₂) E s := by
  refine wpAny_pyIter_list hl ?_
  have N1 : News h₀ env.locals s.heap led := kst_newsOf N hs
  have hne : l ≠ s.heap.objs.size := fun e => absurd (Heap.lt_size (N _ hlm).1) (e ▸ Nat.lt_irrefl _)
  refine fl_gen (n := items.toArray.size) (fun _ => led) ps P c₀ (Walks.list hh s.heap.objs.size l hne items.toArray) ?_ ?_ ?_ ⟨⟨_, Heap.get?_push_size _ rfl, rfl, rfl⟩, hl.push _⟩ (F.push _) (fun p hp => ⟨Heap.get?_push_of_some _ (N1 p hp).1, (N1 p hp).2⟩) hk hp ?_ ?_
  · intro hm
    rcases List.mem_cons.mp hm with e | hm
    · exact absurd F.ns.lt (e ▸ Nat.lt_irrefl _)
    · exact (N _ hlm).2.1 (List.mem_singleton.mp hm).symm
  · intro b' hb
    rw [List.mem_singleton.mp hb]
    exact next_is_new F
  · intro p hp hI
    exact absurd (Heap.lt_size (N1 p hp).1) ((List.mem_singleton.mp hI) ▸ Nat.lt_irrefl _)
  · rintro i v c u h tk own hi hv hpc hoff _ _ F₁ N₁
    exact turn i v c u h tk own _ (by simpa using hi) (by simpa using hv) hpc hoff F₁ N₁
  · exact fun c u h tk hp => done c u h tk (by simpa using hp)
end
end Mine
end
section
namespace Mine
theorem reg_F1 (h : PySem.Challenge.rw_nz0185_01 = PySem.Challenge.rw_nz0185_01) (g : ∀ w : World, Mine.mk.heap_1 w.params = Mine.mk.heap_1 w.params) : PySem.Challenge.rw_nz0185_01 = PySem.Challenge.rw_nz0185_01 ∧ ∀ w : World, Mine.mk.heap_1 w.params = Mine.mk.heap_1 w.params := by
  k_fill
  k_with_none
  k_with "enter" => (refine' enterK ?k1 ?k2 ?k3 ?k4 ?k5 ?kA ?kF ?kK ?k6 ?k7 ?k8 ?k9 ?kb ?kB ?_ ?c2 ?c3 ?c4 ?c5; (case kA => exact rfl); (case kF => exact rfl); (case kK => assumption); (case k1 => k_asm); (case k2 => k_asm); (case k3 => k_asm); (case k4 => k_asm); (case k5 => k_asm); (case k6 => k_is); (case k7 => k_is); (case k8 => ktr_room); (case k9 => exact BindsTo.of_eq rfl); (case kb => exact rfl); (case c5 => decide); (case kB => exact rfl); (case c2 => exact rfl); (case c3 => exact rfl); (case c4 => exact rfl); k_whole; intro g' L' h' tk' FG' F' N' B' X' T'; dsimp only [bindsOf, List.map, List.zip, List.zipWith, List.reverse, List.reverseAux] at F'; (try dsimp only); (try k_lift B'); (try k_fold))
  k_with "WlPost" => (dsimp only [WlPost])
  k_with "CutPost" => (dsimp only [CutPost])
  k_with "WlExit" => ((rename News _ _ _ _ => nE'); (refine' wl_exit (by assumption) nE' (by first | (with_reducible exact fun _ h9 => h9) | kst_in) (by kst_all) ?_))
  k_with "WlEnd" => ((rename News _ _ _ _ => nE'); first
  | (refine' wl_end ⟨⟩ (by assumption) nE' (by first | (with_reducible exact fun _ h9 => h9) | kst_in) (by kst_all) ?_)
  | (refine' wl_end ⟨_, _⟩ (by assumption) nE' (by first | (with_reducible exact fun _ h9 => h9) | kst_in) (by kst_all) ?_)
  | (refine' wl_end ⟨_, _, _⟩ (by assumption) nE' (by first | (with_reducible exact fun _ h9 => h9) | kst_in) (by kst_all) ?_)
  | (refine' wl_end ⟨_, _, _, _⟩ (by assumption) nE' (by first | (with_reducible exact fun _ h9 => h9) | kst_in) (by kst_all) ?_)
  | (refine' wl_end ⟨_, _, _, _, _⟩ (by assumption) nE' (by first | (with_reducible exact fun _ h9 => h9) | kst_in) (by kst_all) ?_)
  | (refine' wl_end ⟨_, _, _, _, _, _⟩ (by assumption) nE' (by first | (with_reducible exact fun _ h9 => h9) | kst_in) (by kst_all) ?_))
  k_with "CutEnd" => ((rename News _ _ _ _ => nE'); first
  | (refine' cut_end ⟨⟩ (by assumption) nE' (by first | (with_reducible exact fun _ h9 => h9) | kst_in) (by kst_all) ?_)
  | (refine' cut_end ⟨_, _⟩ (by assumption) nE' (by first | (with_reducible exact fun _ h9 => h9) | kst_in) (by kst_all) ?_)
  | (refine' cut_end ⟨_, _, _⟩ (by assumption) nE' (by first | (with_reducible exact fun _ h9 => h9) | kst_in) (by kst_all) ?_)
  | (refine' cut_end ⟨_, _, _, _⟩ (by assumption) nE' (by first | (with_reducible exact fun _ h9 => h9) | kst_in) (by kst_all) ?_)
  | (refine' cut_end ⟨_, _, _, _, _⟩ (by assumption) nE' (by first | (with_reducible exact fun _ h9 => h9) | kst_in) (by kst_all) ?_)
  | (refine' cut_end ⟨_, _, _, _, _, _⟩ (by assumption) nE' (by first | (with_reducible exact fun _ h9 => h9) | kst_in) (by kst_all) ?_))
  k_with "led" => (first | k_asm | (refine' kst_newsOf (by assumption) (by kst_in)))
  k_with "end" => (first | (refine' retI ?_ (hret _ _ _ (by k_asm) (by k_extra "led"))) | (refine' retS ?_ (hret _ _ _ (by k_asm) (by k_extra "led"))) | (refine' retB ?_ (hret _ _ (by k_asm) (by k_extra "led"))))
  exact ⟨h, g⟩
theorem wrap_fn (w : World) (news : Led) (n wd : Int) (t1 t2 : Tok) (h1 : 4 ≤ wd) (h2 : wd ≤ 80) :
    FnC w 28 1 8 news [.int n t1, .int wd t2] (fun k => ∀ t, k (.int (fitN n wd) t) news) := by
  unfold FnC
  intro mean mg mb dp un gd cn cs a ccd cl outer A₀ base h₀ L m s Q E B F X N T hk hd hu hret
  k_dflt k_extra "enter"
  k_steps
  · exact absurd (by assumption) pow_ne0
  · k_extra "end"
    exact ⟨fit1 h1 (by assumption)⟩
  · k_extra "end"
    exact ⟨fit0 h1 (by assumption)⟩

end Mine
end
section
namespace Mine
theorem reg_F2 (h : PySem.Challenge.rw_nz0185_01 = PySem.Challenge.rw_nz0185_01) (g : ∀ w : World, Mine.mk.heap_1 w.params = Mine.mk.heap_1 w.params) : PySem.Challenge.rw_nz0185_01 = PySem.Challenge.rw_nz0185_01 ∧ ∀ w : World, Mine.mk.heap_1 w.params = Mine.mk.heap_1 w.params := by
  k_fill
  k_with_none
  k_with "enter" => (refine' enterK ?k1 ?k2 ?k3 ?k4 ?k5 ?kA ?kF ?kK ?k6 ?k7 ?k8 ?k9 ?kb ?kB ?_ ?c2 ?c3 ?c4 ?c5; (case kA => exact rfl); (case kF => exact rfl); (case kK => assumption); (case k1 => k_asm); (case k2 => k_asm); (case k3 => k_asm); (case k4 => k_asm); (case k5 => k_asm); (case k6 => k_is); (case k7 => k_is); (case k8 => ktr_room); (case k9 => exact BindsTo.of_eq rfl); (case kb => exact rfl); (case c5 => decide); (case kB => exact rfl); (case c2 => exact rfl); (case c3 => exact rfl); (case c4 => exact rfl); k_whole; intro g' L' h' tk' FG' F' N' B' X' T'; dsimp only [bindsOf, List.map, List.zip, List.zipWith, List.reverse, List.reverseAux] at F'; (try dsimp only); (try k_lift B'); (try k_fold))
  k_with "WlPost" => (dsimp only [WlPost])
  k_with "CutPost" => (dsimp only [CutPost])
  k_with "WlExit" => ((rename News _ _ _ _ => nE'); (refine' wl_exit (by assumption) nE' (by first | (with_reducible exact fun _ h9 => h9) | kst_in) (by kst_all) ?_))
  k_with "WlEnd" => ((rename News _ _ _ _ => nE'); first
  | (refine' wl_end ⟨⟩ (by assumption) nE' (by first | (with_reducible exact fun _ h9 => h9) | kst_in) (by kst_all) ?_)
  | (refine' wl_end ⟨_, _⟩ (by assumption) nE' (by first | (with_reducible exact fun _ h9 => h9) | kst_in) (by kst_all) ?_)
  | (refine' wl_end ⟨_, _, _⟩ (by assumption) nE' (by first | (with_reducible exact fun _ h9 => h9) | kst_in) (by kst_all) ?_)
  | (refine' wl_end ⟨_, _, _, _⟩ (by assumption) nE' (by first | (with_reducible exact fun _ h9 => h9) | kst_in) (by kst_all) ?_)
  | (refine' wl_end ⟨_, _, _, _, _⟩ (by assumption) nE' (by first | (with_reducible exact fun _ h9 => h9) | kst_in) (by kst_all) ?_)
  | (refine' wl_end ⟨_, _, _, _, _, _⟩ (by assumption) nE' (by first | (with_reducible exact fun _ h9 => h9) | kst_in) (by kst_all) ?_))
  k_with "CutEnd" => ((rename News _ _ _ _ => nE'); first
  | (refine' cut_end ⟨⟩ (by assumption) nE' (by first | (with_reducible exact fun _ h9 => h9) | kst_in) (by kst_all) ?_)
  | (refine' cut_end ⟨_, _⟩ (by assumption) nE' (by first | (with_reducible exact fun _ h9 => h9) | kst_in) (by kst_all) ?_)
  | (refine' cut_end ⟨_, _, _⟩ (by assumption) nE' (by first | (with_reducible exact fun _ h9 => h9) | kst_in) (by kst_all) ?_)
  | (refine' cut_end ⟨_, _, _, _⟩ (by assumption) nE' (by first | (with_reducible exact fun _ h9 => h9) | kst_in) (by kst_all) ?_)
  | (refine' cut_end ⟨_, _, _, _, _⟩ (by assumption) nE' (by first | (with_reducible exact fun _ h9 => h9) | kst_in) (by kst_all) ?_)
  | (refine' cut_end ⟨_, _, _, _, _, _⟩ (by assumption) nE' (by first | (with_reducible exact fun _ h9 => h9) | kst_in) (by kst_all) ?_))
  k_with "led" => (first | k_asm | (refine' kst_newsOf (by assumption) (by kst_in)))
  k_with "end" => (first | (refine' retI ?_ (hret _ _ _ (by k_asm) (by k_extra "led"))) | (refine' retS ?_ (hret _ _ _ (by k_asm) (by k_extra "led"))) | (refine' retB ?_ (hret _ _ (by k_asm) (by k_extra "led"))))
  k_with "exec While BoolOp cons nil" => refine Hold.out ?_
  k_with "exec While Compare cons nil" => refine Hold.out ?_
  k_with "exec If" => ((rename Mark => hm9); clear hm9; refine Hold.out ?_)
  exact ⟨h, g⟩
theorem head_fn (w : World) (news : Led) (x : Str) (tx : Tok) (h1 : x.length ≤ 1000) :
    FnC w 49 1 8 news [.str x tx] (fun k => ∀ D ta te, (∀ p ∈ news, p.1 < D) → k (.ref D) ((D, { cls := .type "tuple", data := .seq #[.int (hSp (lst x) : Int) ta, .int (hEnd (lst x) : Int) te] }) :: news)) := by
  unfold FnC
  intro mean mg mb dp un gd cn cs a ccd cl outer A₀ base h₀ L m s Q E B F X N T hk hd hu hret
  k_dflt k_extra "enter"
  k_steps
  refine ⟨?_⟩
  with_unfolding_all refine' wl_while (σ := Int × Tok) (fun _ => news) (fun c => [(Str.ofString "text", .str x tx), (Str.ofString "at", .int c.1 c.2)]) (fun c => 0 ≤ c.1 ∧ c.1 ≤ (x.length : Int) ∧ ∀ i : Nat, 0 ≤ (i : Int) → (i : Int) < c.1 → isSp (cod x i) = true) (fun c => c.1 = x.length ∨ isSp (cod x c.1.toNat) = false) (fun c => x.length - c.1.toNat) (⟨_, _⟩) (by assumption) (by assumption) (by kst_in) (by kst_all) ?start ?turn ?done
  case start => exact ⟨Int.le_refl 0, by dsimp only; omega, fun i h h' => by dsimp only at h'; omega⟩
  case turn =>
    rintro ⟨k1, t1⟩ u1 h1 tk1 ⟨p1, p2, p3⟩ F1 N1
    dsimp only at p1 p2 p3 F1 N1
    k_steps
    · exact ⟨.inr (sp_no p1 (by assumption) (by assumption))⟩
    · exact ⟨⟨⟨by dsimp only; omega, by dsimp only; omega, all_step p1 p3 (sp_yes p1 (by assumption) (by assumption))⟩, by dsimp only; omega⟩⟩
    · exact ⟨.inl (by dsimp only; omega)⟩
  case done =>
    rintro ⟨k1, t1⟩ u1 h1 tk1 ⟨p1, p2, p3⟩ p4 F1 N1
    dsimp only at p1 p2 p3 p4 F1 N1
    have hA := tw_sp p1 p2 (fun i h => p3 i (by omega) h) p4
    have mk : Mark := ⟨⟩
    k_steps
    refine ⟨?_⟩
    with_unfolding_all refine' wl_cut (σ := Int × Tok) (fun _ => news) (fun c => [(Str.ofString "text", .str x tx), (Str.ofString "at", .int k1 t1), (Str.ofString "end", .int c.1 c.2)]) (fun c => c.1 = k1 + (sg (lst x) : Int)) (by assumption) ?s1 ?s2
    case s1 =>
      k_steps
      · exact ⟨by rw [sg_plus p1 p2 hA.2 (by assumption)]; rfl⟩
      · exact ⟨by rw [sg_minus p1 p2 hA.2 (by assumption)]; rfl⟩
      · exact ⟨by rw [sg_none p1 p2 hA.2 (by assumption) (by assumption)]; exact (Int.add_zero _).symm⟩
    case s2 =>
      rintro ⟨k2, t2⟩ u2 h2 tk2 q1 F2 N2
      dsimp only at q1 F2 N2
      have hl := len_lst x
      have hq : k1 ≤ k2 ∧ k2 ≤ x.length := by
        have g := sg_le (lst x)
        rw [hA.2, List.length_drop] at g
        omega
      k_steps
      refine ⟨?_⟩
      with_unfolding_all refine' wl_while (σ := Int × Tok) (fun _ => news) (fun c => [(Str.ofString "text", .str x tx), (Str.ofString "at", .int k1 t1), (Str.ofString "first", .int k2 t2), (Str.ofString "end", .int c.1 c.2)]) (fun c => k2 ≤ c.1 ∧ c.1 ≤ (x.length : Int) ∧ ∀ i : Nat, k2 ≤ (i : Int) → (i : Int) < c.1 → isFig (cod x i) = true) (fun c => c.1 = x.length ∨ isFig (cod x c.1.toNat) = false) (fun c => x.length - c.1.toNat) (⟨_, _⟩) (by assumption) (by assumption) (by kst_in) (by kst_all) ?start2 ?turn2 ?done2
      case start2 => exact ⟨Int.le_refl _, hq.2, fun i h h' => by dsimp only at h'; omega⟩
      case turn2 =>
        rintro ⟨k3, t3⟩ u3 h3 tk3 ⟨r1, r2, r3⟩ F3 N3
        dsimp only at r1 r2 r3 F3 N3
        have r0 : 0 ≤ k3 := by omega
        k_steps
        · exact ⟨.inr (fig_no r0 (by assumption) (by assumption))⟩
        · exact ⟨⟨⟨by dsimp only; omega, by dsimp only; omega, all_step r0 r3 (fig_yes r0 (by assumption) (by assumption))⟩, by dsimp only; omega⟩⟩
        · exact ⟨.inl (by dsimp only; omega)⟩
      case done2 =>
        rintro ⟨k3, t3⟩ u3 h3 tk3 ⟨r1, r2, r3⟩ r4 F3 N3
        dsimp only at r1 r2 r3 r4 F3 N3
        have hE := hEnd_eq hA.1 hA.2 q1 r1 r2 r3 r4
        k_steps
        · rename k3 = k2 => hh
          rw [if_pos hh] at hE
          rw [hA.1, hE] at hret
          exact hret _ _ _ (by assumption) _ _ (by k_asm) (by k_extra "led")
        · rename k3 ≠ k2 => hh
          rw [if_neg hh] at hE
          rw [hA.1, hE] at hret
          exact hret _ _ _ (by assumption) _ _ (by k_asm) (by k_extra "led")

end Mine
end
section
namespace Mine
theorem reg_F8 (h : PySem.Challenge.rw_nz0185_01 = PySem.Challenge.rw_nz0185_01) (g : ∀ w : World, Mine.mk.heap_1 w.params = Mine.mk.heap_1 w.params) : PySem.Challenge.rw_nz0185_01 = PySem.Challenge.rw_nz0185_01 ∧ ∀ w : World, Mine.mk.heap_1 w.params = Mine.mk.heap_1 w.params := by
  k_fill
  k_with_none
  k_with "enter" => (refine' enterK ?k1 ?k2 ?k3 ?k4 ?k5 ?kA ?kF ?kK ?k6 ?k7 ?k8 ?k9 ?kb ?kB ?_ ?c2 ?c3 ?c4 ?c5; (case kA => exact rfl); (case kF => exact rfl); (case kK => assumption); (case k1 => k_asm); (case k2 => k_asm); (case k3 => k_asm); (case k4 => k_asm); (case k5 => k_asm); (case k6 => k_is); (case k7 => k_is); (case k8 => ktr_room); (case k9 => exact BindsTo.of_eq rfl); (case kb => exact rfl); (case c5 => decide); (case kB => exact rfl); (case c2 => exact rfl); (case c3 => exact rfl); (case c4 => exact rfl); k_whole; intro g' L' h' tk' FG' F' N' B' X' T'; dsimp only [bindsOf, List.map, List.zip, List.zipWith, List.reverse, List.reverseAux] at F'; (try dsimp only); (try k_lift B'); (try k_fold))
  k_with "WlPost" => (dsimp only [WlPost])
  k_with "CutPost" => (dsimp only [CutPost])
  k_with "WlExit" => ((rename News _ _ _ _ => nE'); (refine' wl_exit (by assumption) nE' (by first | (with_reducible exact fun _ h9 => h9) | kst_in) (by kst_all) ?_))
  k_with "WlEnd" => ((rename News _ _ _ _ => nE'); first
  | (refine' wl_end ⟨⟩ (by assumption) nE' (by first | (with_reducible exact fun _ h9 => h9) | kst_in) (by kst_all) ?_)
  | (refine' wl_end ⟨_, _⟩ (by assumption) nE' (by first | (with_reducible exact fun _ h9 => h9) | kst_in) (by kst_all) ?_)
  | (refine' wl_end ⟨_, _, _⟩ (by assumption) nE' (by first | (with_reducible exact fun _ h9 => h9) | kst_in) (by kst_all) ?_)
  | (refine' wl_end ⟨_, _, _, _⟩ (by assumption) nE' (by first | (with_reducible exact fun _ h9 => h9) | kst_in) (by kst_all) ?_)
  | (refine' wl_end ⟨_, _, _, _, _⟩ (by assumption) nE' (by first | (with_reducible exact fun _ h9 => h9) | kst_in) (by kst_all) ?_)
  | (refine' wl_end ⟨_, _, _, _, _, _⟩ (by assumption) nE' (by first | (with_reducible exact fun _ h9 => h9) | kst_in) (by kst_all) ?_))
  k_with "CutEnd" => ((rename News _ _ _ _ => nE'); first
  | (refine' cut_end ⟨⟩ (by assumption) nE' (by first | (with_reducible exact fun _ h9 => h9) | kst_in) (by kst_all) ?_)
  | (refine' cut_end ⟨_, _⟩ (by assumption) nE' (by first | (with_reducible exact fun _ h9 => h9) | kst_in) (by kst_all) ?_)
  | (refine' cut_end ⟨_, _, _⟩ (by assumption) nE' (by first | (with_reducible exact fun _ h9 => h9) | kst_in) (by kst_all) ?_)
  | (refine' cut_end ⟨_, _, _, _⟩ (by assumption) nE' (by first | (with_reducible exact fun _ h9 => h9) | kst_in) (by kst_all) ?_)
  | (refine' cut_end ⟨_, _, _, _, _⟩ (by assumption) nE' (by first | (with_reducible exact fun _ h9 => h9) | kst_in) (by kst_all) ?_)
  | (refine' cut_end ⟨_, _, _, _, _, _⟩ (by assumption) nE' (by first | (with_reducible exact fun _ h9 => h9) | kst_in) (by kst_all) ?_))
  k_with "led" => (first | k_asm | (refine' kst_newsOf (by assumption) (by kst_in)))
  k_with "end" => (first | (refine' retI ?_ (hret _ _ _ (by k_asm) (by k_extra "led"))) | (refine' retS ?_ (hret _ _ _ (by k_asm) (by k_extra "led"))) | (refine' retB ?_ (hret _ _ (by k_asm) (by k_extra "led"))))
  k_with "exec While BoolOp cons nil" => refine Hold.out ?_
  k_with "exec While Compare cons nil" => refine Hold.out ?_
  k_with "exec If" => ((rename Mark => hm9); clear hm9; refine Hold.out ?_)
  k_with "sub" => (first | assumption | exact fun _ h9 => h9 | (intro p9 h9; (try dsimp only at h9); first | exact h9 | (simp only [List.mem_cons, List.mem_append, List.cons_append, List.nil_append] at h9 ⊢; first | (simp only [h9, true_or, or_true]; done) | grind)))
  k_with "FlPost" => (dsimp only [FlPost])
  k_with "FlEnd" => ((rename News _ _ _ _ => nE'); first
  | (refine' fl_end ⟨⟩ (by assumption) nE' (by k_extra "sub") (by k_extra "sub") (by kst_all) (by first | exact ⟨by assumption⟩ | skip) ?_)
  | (refine' fl_end ⟨_, _⟩ (by assumption) nE' (by k_extra "sub") (by k_extra "sub") (by kst_all) (by first | exact ⟨by assumption⟩ | skip) ?_)
  | (refine' fl_end ⟨_, _, _⟩ (by assumption) nE' (by k_extra "sub") (by k_extra "sub") (by kst_all) (by first | exact ⟨by assumption⟩ | skip) ?_)
  | (refine' fl_end ⟨_, _, _, _⟩ (by assumption) nE' (by k_extra "sub") (by k_extra "sub") (by kst_all) (by first | exact ⟨by assumption⟩ | skip) ?_))
  k_with "pyIter str" => refine Hold.out ?_
  k_with "pyIter ref" => refine Hold.out ?_
  k_with "pre" => first | assumption | omega
  exact ⟨h, g⟩
theorem row_fn (w : World) (news : Led) (y : Str) (c : Nat) (tx : Tok) (hy : y = ⟨#[c]⟩) :
    FnC w 334 1 8 news [.str y tx] (fun k => ∀ t, k (.str (rowOf c) t) news) := by
  subst hy
  unfold FnC
  intro mean mg mb dp un gd cn cs a ccd cl outer A₀ base h₀ L m s Q E B F X N T hk hd hu hret
  k_dflt k_extra "enter"
  k_steps
  · k_extra "end"; exact ⟨row1 (by assumption) (by assumption)⟩
  · k_extra "end"; exact ⟨row2 (by assumption) (by assumption)⟩
  · k_extra "end"; exact ⟨row3 (by assumption)⟩
theorem lfit_fn (w : World) (news : Led) (n wd : Int) (t1 t2 : Tok) (h1 : 4 ≤ wd) (h2 : wd ≤ 80) :
    FnC w 426 1 8 news [.int n t1, .int wd t2] (fun k => ∀ t, k (.int (fitN n wd) t) news) := by
  unfold FnC
  intro mean mg mb dp un gd cn cs a ccd cl outer A₀ base h₀ L m s Q E B F X N T hk hd hu hret
  k_dflt k_extra "enter"
  k_steps
  · k_extra "end"; exact ⟨lfit1 h1 (by assumption)⟩
  · k_extra "end"; exact ⟨lfit2 h1 (by assumption)⟩

end Mine
end
section
namespace Mine
theorem reg_F9 (h : PySem.Challenge.rw_nz0185_01 = PySem.Challenge.rw_nz0185_01) (g : ∀ w : World, Mine.mk.heap_1 w.params = Mine.mk.heap_1 w.params) : PySem.Challenge.rw_nz0185_01 = PySem.Challenge.rw_nz0185_01 ∧ ∀ w : World, Mine.mk.heap_1 w.params = Mine.mk.heap_1 w.params := by
  k_fill
  k_with_none
  k_with "enter" => (refine' enterK ?k1 ?k2 ?k3 ?k4 ?k5 ?kA ?kF ?kK ?k6 ?k7 ?k8 ?k9 ?kb ?kB ?_ ?c2 ?c3 ?c4 ?c5; (case kA => exact rfl); (case kF => exact rfl); (case kK => assumption); (case k1 => k_asm); (case k2 => k_asm); (case k3 => k_asm); (case k4 => k_asm); (case k5 => k_asm); (case k6 => k_is); (case k7 => k_is); (case k8 => ktr_room); (case k9 => exact BindsTo.of_eq rfl); (case kb => exact rfl); (case c5 => decide); (case kB => exact rfl); (case c2 => exact rfl); (case c3 => exact rfl); (case c4 => exact rfl); k_whole; intro g' L' h' tk' FG' F' N' B' X' T'; dsimp only [bindsOf, List.map, List.zip, List.zipWith, List.reverse, List.reverseAux] at F'; (try dsimp only); (try k_lift B'); (try k_fold))
  k_with "WlPost" => (dsimp only [WlPost])
  k_with "CutPost" => (dsimp only [CutPost])
  k_with "WlExit" => ((rename News _ _ _ _ => nE'); (refine' wl_exit (by assumption) nE' (by first | (with_reducible exact fun _ h9 => h9) | kst_in) (by kst_all) ?_))
  k_with "WlEnd" => ((rename News _ _ _ _ => nE'); first
  | (refine' wl_end ⟨⟩ (by assumption) nE' (by first | (with_reducible exact fun _ h9 => h9) | kst_in) (by kst_all) ?_)
  | (refine' wl_end ⟨_, _⟩ (by assumption) nE' (by first | (with_reducible exact fun _ h9 => h9) | kst_in) (by kst_all) ?_)
  | (refine' wl_end ⟨_, _, _⟩ (by assumption) nE' (by first | (with_reducible exact fun _ h9 => h9) | kst_in) (by kst_all) ?_)
  | (refine' wl_end ⟨_, _, _, _⟩ (by assumption) nE' (by first | (with_reducible exact fun _ h9 => h9) | kst_in) (by kst_all) ?_)
  | (refine' wl_end ⟨_, _, _, _, _⟩ (by assumption) nE' (by first | (with_reducible exact fun _ h9 => h9) | kst_in) (by kst_all) ?_)
  | (refine' wl_end ⟨_, _, _, _, _, _⟩ (by assumption) nE' (by first | (with_reducible exact fun _ h9 => h9) | kst_in) (by kst_all) ?_))
  k_with "CutEnd" => ((rename News _ _ _ _ => nE'); first
  | (refine' cut_end ⟨⟩ (by assumption) nE' (by first | (with_reducible exact fun _ h9 => h9) | kst_in) (by kst_all) ?_)
  | (refine' cut_end ⟨_, _⟩ (by assumption) nE' (by first | (with_reducible exact fun _ h9 => h9) | kst_in) (by kst_all) ?_)
  | (refine' cut_end ⟨_, _, _⟩ (by assumption) nE' (by first | (with_reducible exact fun _ h9 => h9) | kst_in) (by kst_all) ?_)
  | (refine' cut_end ⟨_, _, _, _⟩ (by assumption) nE' (by first | (with_reducible exact fun _ h9 => h9) | kst_in) (by kst_all) ?_)
  | (refine' cut_end ⟨_, _, _, _, _⟩ (by assumption) nE' (by first | (with_reducible exact fun _ h9 => h9) | kst_in) (by kst_all) ?_)
  | (refine' cut_end ⟨_, _, _, _, _, _⟩ (by assumption) nE' (by first | (with_reducible exact fun _ h9 => h9) | kst_in) (by kst_all) ?_))
  k_with "led" => (first | k_asm | (refine' kst_newsOf (by assumption) (by kst_in)))
  k_with "end" => (first | (refine' retI ?_ (hret _ _ _ (by k_asm) (by k_extra "led"))) | (refine' retS ?_ (hret _ _ _ (by k_asm) (by k_extra "led"))) | (refine' retB ?_ (hret _ _ (by k_asm) (by k_extra "led"))))
  k_with "exec While BoolOp cons nil" => refine Hold.out ?_
  k_with "exec While Compare cons nil" => refine Hold.out ?_
  k_with "exec If" => ((rename Mark => hm9); clear hm9; refine Hold.out ?_)
  k_with "sub" => (first | assumption | exact fun _ h9 => h9 | (intro p9 h9; (try dsimp only at h9); first | exact h9 | (simp only [List.mem_cons, List.mem_append, List.cons_append, List.nil_append] at h9 ⊢; first | (simp only [h9, true_or, or_true]; done) | grind)))
  k_with "FlPost" => (dsimp only [FlPost])
  k_with "FlEnd" => ((rename News _ _ _ _ => nE'); first
  | (refine' fl_end ⟨⟩ (by assumption) nE' (by k_extra "sub") (by k_extra "sub") (by kst_all) (by first | exact ⟨by assumption⟩ | skip) ?_)
  | (refine' fl_end ⟨_, _⟩ (by assumption) nE' (by k_extra "sub") (by k_extra "sub") (by kst_all) (by first | exact ⟨by assumption⟩ | skip) ?_)
  | (refine' fl_end ⟨_, _, _⟩ (by assumption) nE' (by k_extra "sub") (by k_extra "sub") (by kst_all) (by first | exact ⟨by assumption⟩ | skip) ?_)
  | (refine' fl_end ⟨_, _, _, _⟩ (by assumption) nE' (by k_extra "sub") (by k_extra "sub") (by kst_all) (by first | exact ⟨by assumption⟩ | skip) ?_))
  k_with "pyIter str" => refine Hold.out ?_
  k_with "pyIter ref" => refine Hold.out ?_
  k_with "pre" => first | assumption | omega
  exact ⟨h, g⟩
theorem ldigits_fn (w : World) (news : Led) (n : Int) (tn : Tok) (h2 : n.natAbs < 10 ^ 30) :
    FnC w 459 1 8 news [.int n tn] (fun k => ∀ t, k (.str (mkS (numText n)) t) news) := by
  unfold FnC
  intro mean mg mb dp un gd cn cs a ccd cl outer A₀ base h₀ L m s Q E B F X N T hk hd hu hret
  k_dflt k_extra "enter"
  k_steps
  refine ⟨?_⟩
  with_unfolding_all refine' wl_while (σ := Int × Tok × Str × Tok) (fun _ => news) (fun c => [(Str.ofString "n", .int n tn), (Str.ofString "left", .int c.1 c.2.1), (Str.ofString "text", .str c.2.2.1 c.2.2.2)]) (fun c => LdP n c.1 c.2.2.1) (fun c => c.1 ≤ 0 ∧ c.2.2.1 ≠ Str.ofString "") (fun c => 2 * c.1.toNat + if c.2.2.1 = Str.ofString "" then 1 else 0) (⟨_, _, _, _⟩) (by assumption) (by assumption) (by kst_in) (by kst_all) ?start ?turn ?done
  case start => exact ⟨LdP.start⟩
  case turn =>
    rintro ⟨k, tk, x, tx⟩ u hh tkk p F1 N1
    dsimp only at p F1 N1
    have hl := LdP.len h2 p
    k_steps
    · exact ⟨⟨p.step (.inl (by assumption)), LdP.less1 (by assumption)⟩⟩
    · rename (x == Str.ofString "") = true => he
      exact ⟨⟨p.step (.inr (by simpa using he)), LdP.less2 hl.1 (by assumption) (by simpa using he)⟩⟩
    · rename (x == Str.ofString "") = false => he
      exact ⟨⟨by dsimp only; omega, by simpa using he⟩⟩
  case done =>
    rintro ⟨k, tk, x, tx⟩ u hh tkk p p5 F1 N1
    dsimp only at p p5 F1 N1
    have hl := LdP.len h2 p
    k_steps
    · k_extra "end"; exact ⟨p.end1 p5 (by assumption)⟩
    · k_extra "end"; exact ⟨p.end2 p5 (by assumption)⟩

end Mine
end
section
namespace Mine
theorem reg_F12 (h : PySem.Challenge.rw_nz0185_01 = PySem.Challenge.rw_nz0185_01) (g : ∀ w : World, Mine.mk.heap_1 w.params = Mine.mk.heap_1 w.params) : PySem.Challenge.rw_nz0185_01 = PySem.Challenge.rw_nz0185_01 ∧ ∀ w : World, Mine.mk.heap_1 w.params = Mine.mk.heap_1 w.params := by
  k_fill
  k_with_none
  k_with "enter" => (refine' enterK ?k1 ?k2 ?k3 ?k4 ?k5 ?kA ?kF ?kK ?k6 ?k7 ?k8 ?k9 ?kb ?kB ?_ ?c2 ?c3 ?c4 ?c5; (case kA => exact rfl); (case kF => exact rfl); (case kK => assumption); (case k1 => k_asm); (case k2 => k_asm); (case k3 => k_asm); (case k4 => k_asm); (case k5 => k_asm); (case k6 => k_is); (case k7 => k_is); (case k8 => ktr_room); (case k9 => exact BindsTo.of_eq rfl); (case kb => exact rfl); (case c5 => decide); (case kB => exact rfl); (case c2 => exact rfl); (case c3 => exact rfl); (case c4 => exact rfl); k_whole; intro g' L' h' tk' FG' F' N' B' X' T'; dsimp only [bindsOf, List.map, List.zip, List.zipWith, List.reverse, List.reverseAux] at F'; (try dsimp only); (try k_lift B'); (try k_fold))
  k_with "WlPost" => (dsimp only [WlPost])
  k_with "CutPost" => (dsimp only [CutPost])
  k_with "WlExit" => ((rename News _ _ _ _ => nE'); (refine' wl_exit (by assumption) nE' (by first | (with_reducible exact fun _ h9 => h9) | kst_in) (by kst_all) ?_))
  k_with "WlEnd" => ((rename News _ _ _ _ => nE'); first
  | (refine' wl_end ⟨⟩ (by assumption) nE' (by first | (with_reducible exact fun _ h9 => h9) | kst_in) (by kst_all) ?_)
  | (refine' wl_end ⟨_, _⟩ (by assumption) nE' (by first | (with_reducible exact fun _ h9 => h9) | kst_in) (by kst_all) ?_)
  | (refine' wl_end ⟨_, _, _⟩ (by assumption) nE' (by first | (with_reducible exact fun _ h9 => h9) | kst_in) (by kst_all) ?_)
  | (refine' wl_end ⟨_, _, _, _⟩ (by assumption) nE' (by first | (with_reducible exact fun _ h9 => h9) | kst_in) (by kst_all) ?_)
  | (refine' wl_end ⟨_, _, _, _, _⟩ (by assumption) nE' (by first | (with_reducible exact fun _ h9 => h9) | kst_in) (by kst_all) ?_)
  | (refine' wl_end ⟨_, _, _, _, _, _⟩ (by assumption) nE' (by first | (with_reducible exact fun _ h9 => h9) | kst_in) (by kst_all) ?_))
  k_with "CutEnd" => ((rename News _ _ _ _ => nE'); first
  | (refine' cut_end ⟨⟩ (by assumption) nE' (by first | (with_reducible exact fun _ h9 => h9) | kst_in) (by kst_all) ?_)
  | (refine' cut_end ⟨_, _⟩ (by assumption) nE' (by first | (with_reducible exact fun _ h9 => h9) | kst_in) (by kst_all) ?_)
  | (refine' cut_end ⟨_, _, _⟩ (by assumption) nE' (by first | (with_reducible exact fun _ h9 => h9) | kst_in) (by kst_all) ?_)
  | (refine' cut_end ⟨_, _, _, _⟩ (by assumption) nE' (by first | (with_reducible exact fun _ h9 => h9) | kst_in) (by kst_all) ?_)
  | (refine' cut_end ⟨_, _, _, _, _⟩ (by assumption) nE' (by first | (with_reducible exact fun _ h9 => h9) | kst_in) (by kst_all) ?_)
  | (refine' cut_end ⟨_, _, _, _, _, _⟩ (by assumption) nE' (by first | (with_reducible exact fun _ h9 => h9) | kst_in) (by kst_all) ?_))
  k_with "led" => (first | k_asm | (refine' kst_newsOf (by assumption) (by kst_in)))
  k_with "end" => (first | (refine' retI ?_ (hret _ _ _ (by k_asm) (by k_extra "led"))) | (refine' retS ?_ (hret _ _ _ (by k_asm) (by k_extra "led"))) | (refine' retB ?_ (hret _ _ (by k_asm) (by k_extra "led"))))
  k_with "exec While BoolOp cons nil" => refine Hold.out ?_
  k_with "exec While Compare cons nil" => refine Hold.out ?_
  k_with "exec If" => ((rename Mark => hm9); clear hm9; refine Hold.out ?_)
  k_with "sub" => (first | assumption | exact fun _ h9 => h9 | (intro p9 h9; (try dsimp only at h9); first | exact h9 | (simp only [List.mem_cons, List.mem_append, List.cons_append, List.nil_append] at h9 ⊢; first | (simp only [h9, true_or, or_true]; done) | grind)))
  k_with "FlPost" => (dsimp only [FlPost])
  k_with "FlEnd" => ((rename News _ _ _ _ => nE'); first
  | (refine' fl_end ⟨⟩ (by assumption) nE' (by k_extra "sub") (by k_extra "sub") (by kst_all) (by first | exact ⟨by assumption⟩ | skip) ?_)
  | (refine' fl_end ⟨_, _⟩ (by assumption) nE' (by k_extra "sub") (by k_extra "sub") (by kst_all) (by first | exact ⟨by assumption⟩ | skip) ?_)
  | (refine' fl_end ⟨_, _, _⟩ (by assumption) nE' (by k_extra "sub") (by k_extra "sub") (by kst_all) (by first | exact ⟨by assumption⟩ | skip) ?_)
  | (refine' fl_end ⟨_, _, _, _⟩ (by assumption) nE' (by k_extra "sub") (by k_extra "sub") (by kst_all) (by first | exact ⟨by assumption⟩ | skip) ?_))
  k_with "pyIter str" => refine Hold.out ?_
  k_with "pyIter ref" => refine Hold.out ?_
  k_with "call ref" => (k_dflt (refine' enterQ (by exact rfl) (by exact rfl) (by first | exact rfl | assumption) (by k_asm) (by k_asm) (by k_asm) (by k_asm) (by k_asm) (by k_is) (by k_is) (by ktr_room) (by exact BindsTo.of_eq rfl) (by exact rfl) (by exact rfl) (by exact rfl) (by exact rfl) (by exact rfl) (by decide) ?_); k_whole; intro g' L' h' tk' FG' F' N' B' X' T'; dsimp only [bindsOf, List.map, List.zip, List.zipWith, List.reverse, List.reverseAux] at F'; (try dsimp only); (try k_lift B'); (try k_fold))
  k_with "pre" => first | assumption | omega
  exact ⟨h, g⟩
local macro_rules | `(tactic| walk_at "execs cons") => `(tactic| (dsimp only; k_gentoks))
theorem ltext_fn (w : World) (news : Led) (n : Int) (tn : Tok) :
    FnC w 412 2 16 news [.int n tn] (fun k => ∀ t, k (.str (ltx n) t) news) := by
  unfold FnC
  intro mean mg mb dp un gd cn cs a ccd cl outer A₀ base h₀ L m s Q E B F X N T hk hd hu hret
  have hf := fmod5 (n.fdiv 3)
  k_dflt k_extra "enter"
  k_steps
  · k_extra "end"
    rename n.fmod 3 = 0 => h0
    exact ⟨by unfold ltx; rw [if_pos h0]; rfl⟩
  · refine ⟨?_⟩
    rename n.fmod 3 ≠ 0 => h0
    with_unfolding_all refine' fl_range (led := news) (σ := Int × Tok × Str × Tok) (fun c => [(Str.ofString "n", .int c.1 c.2.1), (Str.ofString "text", .str c.2.2.1 c.2.2.2)]) (fun i c => c.2.2.1.length ≤ 20 * i ∧ ltLoop ((1 + (n.fdiv 3).fmod 5).toNat - i) c.1 c.2.2.1 = ltx n) (⟨_, _, _, _⟩) ((1 + (n.fdiv 3).fmod 5).toNat) (by rfl) (by assumption) (by rfl) (by omega) (by omega) (by assumption) (by assumption) (by k_extra "sub") (by kst_all) ?start ?turn ?done
    case start => exact ⟨by show (Str.ofString "").length ≤ _; decide, by unfold ltx; rw [if_neg h0]; rfl⟩
    case turn =>
      rintro i ti ⟨k, tk, x, tx⟩ u hh tkk own wr hi ⟨p1, p2⟩ hw F1 N1
      dsimp only at p1 p2 F1 N1
      have hp := parts_len ((k.fdiv 5).fmod 19).toNat
      k_steps
      exact ⟨ltx_turn hi p1 p2⟩
    case done =>
      rintro ⟨k, tk, x, tx⟩ u hh tkk ⟨p1, p2⟩ F1 N1
      dsimp only at p1 p2 F1 N1
      rw [Nat.sub_self] at p2
      k_steps
      k_extra "end"; exact ⟨p2⟩

end Mine
end
section
namespace Mine
theorem isStr_ne {k : Value} {x y : Str} (h : k.isStr y = true) (hne : x ≠ y) : k.isStr x = false := by
  cases k <;> simp [Value.isStr] at h ⊢
  subst h; exact fun e => hne e.symm
theorem put_any (x y : Str) (hsh : Int) (key v : Value) : ∀ es : List DictEntry, es.any (·.key.isStr y) = true → (putL y hsh key v es).any (·.refKey) = es.any (·.refKey) ∧ (putL y hsh key v es).length = es.length ∧
    (putL y hsh key v es).find? (·.key.isStr y) = (es.find? (·.key.isStr y)).map (fun e => ⟨e.hash, e.key, v⟩) ∧ (x ≠ y → (putL y hsh key v es).find? (·.key.isStr x) = es.find? (·.key.isStr x))
  | [], h => nomatch h
  | e :: r, h => by
    cases he : e.key.isStr y with
    | true =>
      simp only [putL, he, if_true, List.any_cons, List.length_cons, List.find?_cons, Option.map_some, true_and]
      refine ⟨rfl, fun hne => ?_⟩
      rw [isStr_ne he hne]
    | false =>
      rw [List.any_cons, he, Bool.false_or] at h
      obtain ⟨a, b, c, d⟩ := put_any x y hsh key v r h
      simp only [putL, he, Bool.false_eq_true, if_false, List.any_cons, List.length_cons, List.find?_cons, a, b, c, true_and]
      exact fun hne => by rw [d hne]
theorem getL_any {y : Str} {es : List DictEntry} {v : Value} (h : getL y es = some (some v)) : es.any (·.key.isStr y) = true := by
  unfold getL at h
  cases hf : es.find? (·.key.isStr y) with
  | none => rw [hf] at h; dsimp only at h; split at h <;> cases h
  | some e => exact List.any_eq_true.mpr ⟨e, List.mem_of_find?_eq_some hf, List.find?_some (p := fun e : DictEntry => e.key.isStr y) hf⟩
theorem getL_put {y : Str} {es : List DictEntry} {v0 v : Value} {hsh : Int} {key : Value} (h : getL y es = some (some v0)) : getL y (putL y hsh key v es) = some (some v) := by
  have hc := (put_any y y hsh key v es (getL_any h)).2.2.1
  have ha := getL_any h
  unfold getL at h ⊢
  rw [hc]
  cases hf : es.find? (·.key.isStr y) with
  | none => rw [hf] at h; dsimp only at h; split at h <;> cases h
  | some e => rfl
theorem getL_put_ne {x y : Str} {es : List DictEntry} {v0 v : Value} {hsh : Int} {key : Value} (h : getL y es = some (some v0)) (hne : x ≠ y) : getL x (putL y hsh key v es) = getL x es := by
  have hc := put_any x y hsh key v es (getL_any h)
  unfold getL
  rw [hc.2.2.2 hne, hc.1]
theorem getL_put_len {y : Str} {es : List DictEntry} {v0 v : Value} {hsh : Int} {key : Value} (h : getL y es = some (some v0)) : (putL y hsh key v es).length = es.length := (put_any y y hsh key v es (getL_any h)).2.1
theorem newsSnd {h₀ : Heap} {L : Addr} {h : Heap} {news : Led} {p q : Addr × Obj} (N : News h₀ L h (p :: news)) (s : q ∈ news) : News h₀ L h (p :: q :: news) :=
  fun z hz => (List.mem_cons.mp hz).elim (fun e => e ▸ N p (.head _)) fun hz => (List.mem_cons.mp hz).elim (fun e => e ▸ N q (.tail _ s)) fun hz => N z (.tail _ hz)
theorem all_lt {news : Led} {d e : Addr} (h : ∀ p ∈ news, p.1 < d) (he : @LE.le Nat _ d e) : ∀ p ∈ news, p.1 ≠ e := fun p hp => Nat.ne_of_lt (Nat.lt_of_lt_of_le (h p hp) he)
section
variable {prog : Program} {w : World} {A A₀ : Around} {E : Value → Shared → Prop} {s : Shared} {K : Frag} {L : Addr} {h₀ base : Heap} {m mg mb : Str → Option Value} {news : Led} {p : Program} {loose : List Str} {mean : ExcName → Option Value}
theorem set_abs {Q : Unit → Shared → Prop} {x C dx : Addr} {ox : Obj} {es : List DictEntry} {n : Nat} {name : Str} {v v0 : Value} {news' : List DictEntry → Nat → Led} (F : Fr h₀ L s.heap m) (X₀ : K.In h₀) (N : News h₀ L s.heap news) (I : InstAt s.heap x ox C (some (dictOf es n))) (hd : ox.dict = some dx)
    (hs : findIn K (.ref C) "__setattr__" = some (some (.builtin "object.__setattr__"))) (hp : plainOver K C = true) (ht : takerIn K C name = some none) (hh : hasDictIn K C = true) (hl : getL name es = some (some v0)) (hz : es.length ≤ 1000)
    (U : ∀ es' n', Upd dx (dictOf es n) (dictOf es' n') news (news' es' n'))
    (h : ∀ h' es' n', es'.length ≤ 1000 → getL name es' = some (some v) → (∀ y, y ≠ name → getL y es' = getL y es) → Fr h₀ L h' m → News h₀ L h' (news' es' n') → Q () { s with heap := h', toks := s.toks + 2 }) :
    wpAny (model prog w) A (setAttr (.ref x) name v) Q E s :=
  set_dict F X₀ N I hd hs hp ht hh (by rw [hl]; rfl) rfl (U _ _) (by rw [getL_put_len hl]; exact hz) fun h' F' N' => h h' _ _ (by rw [getL_put_len hl]; exact hz) (getL_put hl) (fun y hy => getL_put_ne hl hy) F' N'
theorem enterI {env : Env} {outer : List Env} {R : Result → Shared → Prop} {name qual : Str} {params : Arguments} {body : List Stmt} {scope : Scope} {dV kV doc pm cdv ct oc : Value} {an od : Option Addr} {osl : Array (Option Value)} {f : Addr} {args : Args} {binds bs : List (Str × Value)}
    (hA : A.frames = some (env :: outer)) (hf : env.frame = some L) (hke : env.scope.kind = .function) (B : Below A₀ base outer h₀) (F : Fr h₀ L s.heap m) (X₀ : K.In h₀) (N : News h₀ L s.heap news) (T : Top p loose mean mg mb h₀)
    (ho : K.lookup f = some ⟨oc, od, .func (fnOf name qual params body scope dV kV doc pm an cdv ct), osl⟩) (hcd : codeIn K cdv qual = true) (hroom : A.depth < recursionLimit)
    (hbind : BindsTo s (fnOf name qual params body scope dV kV doc pm an cdv ct) args binds) (hbs : binds.reverse = bs) (hloc : (bs.all fun x => decide (scope.names.lookup x.1 = some .local)) = true)
    (hco : scope.isCoroutine = false) (hgen : scope.isGenerator = false) (hk : scope.kind = .function) (hcell : ∀ x ∈ scope.names, x.2 ≠ .cell)
    (h : ∀ g L' h₁ tk, Fr h₀ L g m → Fr g L' h₁ (kstB (fun _ => none) bs) → News g L' h₁ news → Below A base (env :: outer) g → K.In g → Top p loose mean mg mb g →
      wpAny (model prog w) (A.deeper (envOf qual scope L' f cdv)) (execs body (envOf qual scope L' f cdv))
        (fun fl s' => LeaveK h₀ L m g R (match fl with | .ret v => v | _ => .none) s')
        (fun e s' => wpAny (model prog w) (A.deeper (envOf qual scope L' f cdv)) (leaving (envOf qual scope L' f cdv) e) (fun _ s'' => R (.error e) s'') (fun e' s'' => R (.error e') s'') s')
        { s with heap := h₁, toks := tk }) : codeAny (model prog w) A (.call (.ref f) args) R s :=
  code_def B F X₀ N T hA hf hke ho hcd hroom hbind (locs (by
    rw [← hbs, List.all_reverse] at hloc
    exact hloc)) (fun g L' h₁ a b c d e i => h g L' h₁ _ a (by
      rw [← hbs, ← lookup_kstB]; exact b) c d e i) hco hgen hk hcell
end
end Mine
end
section
namespace Mine
theorem reg_O3 (h : PySem.Challenge.rw_nz0185_01 = PySem.Challenge.rw_nz0185_01) (g : ∀ w : World, Mine.mk.heap_1 w.params = Mine.mk.heap_1 w.params) : PySem.Challenge.rw_nz0185_01 = PySem.Challenge.rw_nz0185_01 ∧ ∀ w : World, Mine.mk.heap_1 w.params = Mine.mk.heap_1 w.params := by
  k_fill
  k_with_none
  k_with "enter" => (refine' enterK ?k1 ?k2 ?k3 ?k4 ?k5 ?kA ?kF ?kK ?k6 ?k7 ?k8 ?k9 ?kb ?kB ?_ ?c2 ?c3 ?c4 ?c5; (case kA => exact rfl); (case kF => exact rfl); (case kK => assumption); (case k1 => k_asm); (case k2 => k_asm); (case k3 => k_asm); (case k4 => k_asm); (case k5 => k_asm); (case k6 => k_is); (case k7 => k_is); (case k8 => ktr_room); (case k9 => exact BindsTo.of_eq rfl); (case kb => exact rfl); (case c5 => decide); (case kB => exact rfl); (case c2 => exact rfl); (case c3 => exact rfl); (case c4 => exact rfl); k_whole; intro g' L' h' tk' FG' F' N' B' X' T'; dsimp only [bindsOf, List.map, List.zip, List.zipWith, List.reverse, List.reverseAux] at F'; (try dsimp only); (try k_lift B'); (try k_fold))
  k_with "WlPost" => (dsimp only [WlPost])
  k_with "CutPost" => (dsimp only [CutPost])
  k_with "WlExit" => ((rename News _ _ _ _ => nE'); (refine' wl_exit (by assumption) nE' (by first | (with_reducible exact fun _ h9 => h9) | kst_in) (by kst_all) ?_))
  k_with "WlEnd" => ((rename News _ _ _ _ => nE'); first
  | (refine' wl_end ⟨⟩ (by assumption) nE' (by first | (with_reducible exact fun _ h9 => h9) | kst_in) (by kst_all) ?_)
  | (refine' wl_end ⟨_, _⟩ (by assumption) nE' (by first | (with_reducible exact fun _ h9 => h9) | kst_in) (by kst_all) ?_)
  | (refine' wl_end ⟨_, _, _⟩ (by assumption) nE' (by first | (with_reducible exact fun _ h9 => h9) | kst_in) (by kst_all) ?_)
  | (refine' wl_end ⟨_, _, _, _⟩ (by assumption) nE' (by first | (with_reducible exact fun _ h9 => h9) | kst_in) (by kst_all) ?_)
  | (refine' wl_end ⟨_, _, _, _, _⟩ (by assumption) nE' (by first | (with_reducible exact fun _ h9 => h9) | kst_in) (by kst_all) ?_)
  | (refine' wl_end ⟨_, _, _, _, _, _⟩ (by assumption) nE' (by first | (with_reducible exact fun _ h9 => h9) | kst_in) (by kst_all) ?_))
  k_with "CutEnd" => ((rename News _ _ _ _ => nE'); first
  | (refine' cut_end ⟨⟩ (by assumption) nE' (by first | (with_reducible exact fun _ h9 => h9) | kst_in) (by kst_all) ?_)
  | (refine' cut_end ⟨_, _⟩ (by assumption) nE' (by first | (with_reducible exact fun _ h9 => h9) | kst_in) (by kst_all) ?_)
  | (refine' cut_end ⟨_, _, _⟩ (by assumption) nE' (by first | (with_reducible exact fun _ h9 => h9) | kst_in) (by kst_all) ?_)
  | (refine' cut_end ⟨_, _, _, _⟩ (by assumption) nE' (by first | (with_reducible exact fun _ h9 => h9) | kst_in) (by kst_all) ?_)
  | (refine' cut_end ⟨_, _, _, _, _⟩ (by assumption) nE' (by first | (with_reducible exact fun _ h9 => h9) | kst_in) (by kst_all) ?_)
  | (refine' cut_end ⟨_, _, _, _, _, _⟩ (by assumption) nE' (by first | (with_reducible exact fun _ h9 => h9) | kst_in) (by kst_all) ?_))
  k_with "led" => (first | k_asm | (refine' kst_newsOf (by assumption) (by kst_in)))
  k_with "end" => (first | (refine' retI ?_ (hret _ _ _ (by k_asm) (by k_extra "led"))) | (refine' retS ?_ (hret _ _ _ (by k_asm) (by k_extra "led"))) | (refine' retB ?_ (hret _ _ (by k_asm) (by k_extra "led"))))
  k_with "exec While BoolOp cons nil" => refine Hold.out ?_
  k_with "exec While Compare cons nil" => refine Hold.out ?_
  k_with "exec If" => ((rename Mark => hm9); clear hm9; refine Hold.out ?_)
  k_with "sub" => (first | assumption | exact fun _ h9 => h9 | (intro p9 h9; (try dsimp only at h9); first | exact h9 | (simp only [List.mem_cons, List.mem_append, List.cons_append, List.nil_append] at h9 ⊢; first | (simp only [h9, true_or, or_true]; done) | grind)))
  k_with "FlPost" => (dsimp only [FlPost])
  k_with "FlEnd" => ((rename News _ _ _ _ => nE'); first
  | (refine' fl_end ⟨⟩ (by assumption) nE' (by k_extra "sub") (by k_extra "sub") (by kst_all) (by first | exact ⟨by assumption⟩ | skip) ?_)
  | (refine' fl_end ⟨_, _⟩ (by assumption) nE' (by k_extra "sub") (by k_extra "sub") (by kst_all) (by first | exact ⟨by assumption⟩ | skip) ?_)
  | (refine' fl_end ⟨_, _, _⟩ (by assumption) nE' (by k_extra "sub") (by k_extra "sub") (by kst_all) (by first | exact ⟨by assumption⟩ | skip) ?_)
  | (refine' fl_end ⟨_, _, _, _⟩ (by assumption) nE' (by k_extra "sub") (by k_extra "sub") (by kst_all) (by first | exact ⟨by assumption⟩ | skip) ?_))
  k_with "pyIter str" => ((with_reducible show wpAny _ _ (pyIter _) (fun it s₂ => LoopAtV _ _ _ _ _ _ _ _ _ it s₂) _ _); refine Hold.out ?_)
  k_with "pyIter ref" => ((with_reducible show wpAny _ _ (pyIter _) (fun it s₂ => LoopAtV _ _ _ _ _ _ _ _ _ it s₂) _ _); refine Hold.out ?_)
  k_with "call ref" => (k_dflt (refine' enterQ (by exact rfl) (by exact rfl) (by first | exact rfl | assumption) (by k_asm) (by k_asm) (by k_asm) (by k_asm) (by k_asm) (by k_is) (by k_is) (by ktr_room) (by exact BindsTo.of_eq rfl) (by exact rfl) (by exact rfl) (by exact rfl) (by exact rfl) (by exact rfl) (by decide) ?_); k_whole; intro g' L' h' tk' FG' F' N' B' X' T'; dsimp only [bindsOf, List.map, List.zip, List.zipWith, List.reverse, List.reverseAux] at F'; (try dsimp only); (try k_lift B'); (try k_fold))
  k_with "pre" => first | assumption | omega
  k_with "getAttr ref" => (k_dflt (refine' get_own (by k_asm) (by k_asm) (by k_inst) (by k_is) (by k_is) (by k_is) (by k_is) (by assumption) (by k_handed) ?_); k_whole)
  exact ⟨h, g⟩
theorem kd_num {prog : Program} {w : World} {A : Around} {E : Value → Shared → Prop} {s : Shared} {h₀ : Heap} {L th dth : Addr} {m : Str → Option Value} {news : Led} {kd : Nat} {et : List DictEntry} {nt : Nat} {v : Value} {Q : Value → Shared → Prop} {expr : Bool}
    (F : Fr h₀ L s.heap m) (X : (Mine.mk.heap_1 w.params).In h₀) (N : News h₀ L s.heap news) (h1 : (th, instObj (clsOf kd) dth) ∈ news) (h2 : (dth, dictOf et nt) ∈ news) (hk : kd < 4) (hl : getL (Str.ofString "number") et = some (some v)) (hv : handedIn v = true) (h : Q v { s with toks := s.toks + 1 }) :
    wpAny (model prog w) A (getAttr (.ref th) (Str.ofString "number") expr) Q E s := by
  rcases kd_cases hk with rfl | rfl | rfl | rfl <;> dsimp only [clsOf] at h1 <;> k_dflt refine' get_own F X (InstAt.of_news N h1 h2) (by k_is) (by k_is) (by k_is) (by k_is) hl hv h
theorem kd_bl {prog : Program} {w : World} {A : Around} {E : Value → Shared → Prop} {s : Shared} {h₀ : Heap} {L th dth : Addr} {m : Str → Option Value} {news : Led} {kd : Nat} {et : List DictEntry} {nt : Nat} {v : Value} {Q : Value → Shared → Prop} {expr : Bool}
    (F : Fr h₀ L s.heap m) (X : (Mine.mk.heap_1 w.params).In h₀) (N : News h₀ L s.heap news) (h1 : (th, instObj (clsOf kd) dth) ∈ news) (h2 : (dth, dictOf et nt) ∈ news) (hk : kd < 4) (hl : getL (Str.ofString "blessed") et = some (some v)) (hv : handedIn v = true) (h : Q v { s with toks := s.toks + 1 }) :
    wpAny (model prog w) A (getAttr (.ref th) (Str.ofString "blessed") expr) Q E s := by
  rcases kd_cases hk with rfl | rfl | rfl | rfl <;> dsimp only [clsOf] at h1 <;> k_dflt refine' get_own F X (InstAt.of_news N h1 h2) (by k_is) (by k_is) (by k_is) (by k_is) hl hv h

end Mine
end
section
open PySem PySem.W PyProof.Rows PySem.Calls PySem.Spec PyProof.V
namespace Mine
theorem reg_B7 (h : PySem.Challenge.rw_nz0185_01 = PySem.Challenge.rw_nz0185_01) (g : ∀ w : World, Mine.mk.heap_1 w.params = Mine.mk.heap_1 w.params) : PySem.Challenge.rw_nz0185_01 = PySem.Challenge.rw_nz0185_01 ∧ ∀ w : World, Mine.mk.heap_1 w.params = Mine.mk.heap_1 w.params := by
  k_fill
  k_with_none
  k_with "enter" => (refine' enterK ?k1 ?k2 ?k3 ?k4 ?k5 ?kA ?kF ?kK ?k6 ?k7 ?k8 ?k9 ?kb ?kB ?_ ?c2 ?c3 ?c4 ?c5; (case kA => exact rfl); (case kF => exact rfl); (case kK => assumption); (case k1 => k_asm); (case k2 => k_asm); (case k3 => k_asm); (case k4 => k_asm); (case k5 => k_asm); (case k6 => k_is); (case k7 => k_is); (case k8 => ktr_room); (case k9 => exact BindsTo.of_eq rfl); (case kb => exact rfl); (case c5 => decide); (case kB => exact rfl); (case c2 => exact rfl); (case c3 => exact rfl); (case c4 => exact rfl); k_whole; intro g' L' h' tk' FG' F' N' B' X' T'; dsimp only [bindsOf, List.map, List.zip, List.zipWith, List.reverse, List.reverseAux] at F'; (try dsimp only); (try k_lift B'); (try k_fold))
  k_with "WlPost" => (dsimp only [WlPost])
  k_with "CutPost" => (dsimp only [CutPost])
  k_with "WlExit" => ((rename News _ _ _ _ => nE'); (refine' wl_exit (by assumption) nE' (by first | (with_reducible exact fun _ h9 => h9) | kst_in) (by kst_all) ?_))
  k_with "WlEnd" => ((rename News _ _ _ _ => nE'); first
  | (refine' wl_end ⟨⟩ (by assumption) nE' (by first | (with_reducible exact fun _ h9 => h9) | kst_in) (by kst_all) ?_)
  | (refine' wl_end ⟨_, _⟩ (by assumption) nE' (by first | (with_reducible exact fun _ h9 => h9) | kst_in) (by kst_all) ?_)
  | (refine' wl_end ⟨_, _, _⟩ (by assumption) nE' (by first | (with_reducible exact fun _ h9 => h9) | kst_in) (by kst_all) ?_)
  | (refine' wl_end ⟨_, _, _, _⟩ (by assumption) nE' (by first | (with_reducible exact fun _ h9 => h9) | kst_in) (by kst_all) ?_)
  | (refine' wl_end ⟨_, _, _, _, _⟩ (by assumption) nE' (by first | (with_reducible exact fun _ h9 => h9) | kst_in) (by kst_all) ?_)
  | (refine' wl_end ⟨_, _, _, _, _, _⟩ (by assumption) nE' (by first | (with_reducible exact fun _ h9 => h9) | kst_in) (by kst_all) ?_))
  k_with "CutEnd" => ((rename News _ _ _ _ => nE'); first
  | (refine' cut_end ⟨⟩ (by assumption) nE' (by first | (with_reducible exact fun _ h9 => h9) | kst_in) (by kst_all) ?_)
  | (refine' cut_end ⟨_, _⟩ (by assumption) nE' (by first | (with_reducible exact fun _ h9 => h9) | kst_in) (by kst_all) ?_)
  | (refine' cut_end ⟨_, _, _⟩ (by assumption) nE' (by first | (with_reducible exact fun _ h9 => h9) | kst_in) (by kst_all) ?_)
  | (refine' cut_end ⟨_, _, _, _⟩ (by assumption) nE' (by first | (with_reducible exact fun _ h9 => h9) | kst_in) (by kst_all) ?_)
  | (refine' cut_end ⟨_, _, _, _, _⟩ (by assumption) nE' (by first | (with_reducible exact fun _ h9 => h9) | kst_in) (by kst_all) ?_)
  | (refine' cut_end ⟨_, _, _, _, _, _⟩ (by assumption) nE' (by first | (with_reducible exact fun _ h9 => h9) | kst_in) (by kst_all) ?_))
  k_with "led" => (first | k_asm | (refine' kst_newsOf (by assumption) (by kst_in)))
  k_with "end" => (first | (refine' retI ?_ (hret _ _ _ (by k_asm) (by k_extra "led"))) | (refine' retS ?_ (hret _ _ _ (by k_asm) (by k_extra "led"))) | (refine' retB ?_ (hret _ _ (by k_asm) (by k_extra "led"))))
  k_with "exec While BoolOp cons nil" => refine Hold.out ?_
  k_with "exec While Compare cons nil" => refine Hold.out ?_
  k_with "exec If" => ((rename Mark => hm9); clear hm9; refine Hold.out ?_)
  k_with "sub" => (first | assumption | exact fun _ h9 => h9 | (intro p9 h9; (try dsimp only at h9); first | exact h9 | (simp only [List.mem_cons, List.mem_append, List.cons_append, List.nil_append] at h9 ⊢; first | (simp only [h9, true_or, or_true]; done) | grind)))
  k_with "FlPost" => (dsimp only [FlPost])
  k_with "FlEnd" => ((rename News _ _ _ _ => nE'); first
  | (refine' fl_end ⟨⟩ (by assumption) nE' (by k_extra "sub") (by k_extra "sub") (by kst_all) (by first | exact ⟨by assumption⟩ | skip) ?_)
  | (refine' fl_end ⟨_, _⟩ (by assumption) nE' (by k_extra "sub") (by k_extra "sub") (by kst_all) (by first | exact ⟨by assumption⟩ | skip) ?_)
  | (refine' fl_end ⟨_, _, _⟩ (by assumption) nE' (by k_extra "sub") (by k_extra "sub") (by kst_all) (by first | exact ⟨by assumption⟩ | skip) ?_)
  | (refine' fl_end ⟨_, _, _, _⟩ (by assumption) nE' (by k_extra "sub") (by k_extra "sub") (by kst_all) (by first | exact ⟨by assumption⟩ | skip) ?_))
  k_with "pyIter str" => ((with_reducible show wpAny _ _ (pyIter _) (fun it s₂ => LoopAtV _ _ _ _ _ _ _ _ _ it s₂) _ _); refine Hold.out ?_)
  k_with "pyIter ref" => ((with_reducible show wpAny _ _ (pyIter _) (fun it s₂ => LoopAtV _ _ _ _ _ _ _ _ _ it s₂) _ _); refine Hold.out ?_)
  k_with "call ref" => (k_dflt (refine' enterQ (by exact rfl) (by exact rfl) (by first | exact rfl | assumption) (by k_asm) (by k_asm) (by k_asm) (by k_asm) (by k_asm) (by k_is) (by k_is) (by ktr_room) (by exact BindsTo.of_eq rfl) (by exact rfl) (by exact rfl) (by exact rfl) (by exact rfl) (by exact rfl) (by decide) ?_); k_whole; intro g' L' h' tk' FG' F' N' B' X' T'; dsimp only [bindsOf, List.map, List.zip, List.zipWith, List.reverse, List.reverseAux] at F'; (try dsimp only); (try k_lift B'); (try k_fold))
  k_with "pre" => first | assumption | omega | exact IsV.mono (by assumption) (by k_extra "sub") | exact LimAt.mono (by assumption) (by k_extra "sub") | exact ThingAt.mono (by assumption) (by k_extra "sub") | exact RefAt.mono (by assumption) (by k_extra "sub") | k_mem | k_extra "ne9"
  k_with "ne9" => (first | assumption | (refine' List.forall_mem_cons.mpr ⟨by k_ne, ?_⟩; k_extra "ne9"))
  k_with "getAttr ref" => (k_dflt (refine' get_own (by k_asm) (by k_asm) (by k_inst) (by k_is) (by k_is) (by k_is) (by k_is) (by assumption) (by k_handed) ?_); k_whole)
  k_with "getAttr ref" => ((with_reducible show wpAny _ _ (getAttr (Value.ref _) (PySem.Str.ofString "number") _) _ _ _); k_dflt (refine' kd_num (by k_asm) (by k_asm) (by k_asm) (by k_mem) (by k_mem) (by assumption) (by assumption) (by k_handed) ?_); k_whole)
  k_with "getAttr ref" => ((with_reducible show wpAny _ _ (getAttr (Value.ref _) (PySem.Str.ofString "blessed") _) _ _ _); k_dflt (refine' kd_bl (by k_asm) (by k_asm) (by k_asm) (by k_mem) (by k_mem) (by assumption) (by assumption) (by k_handed) ?_); k_whole)
  k_with "compareOp NotEq ref str" => (k_dflt (refine' ref_ne_str (by exact Frag.In.keeps (by k_asm) (Fr.keep (by k_asm))) (by k_inst) (by first | ke_room | ktr_units) ?_); k_whole)
  k_with "compareOp NotEq ref int" => (k_dflt (refine' ref_ne_int (by exact Frag.In.keeps (by k_asm) (Fr.keep (by k_asm))) (by k_inst) (by first | ke_room | ktr_units) ?_); k_whole)
  k_with "compareOp NotIn ref ref" => (k_dflt (refine' ref_notIn (News.isList (by k_asm) (by k_mem)) (by exact Frag.In.keeps (by k_asm) (Fr.keep (by k_asm))) (by k_inst) (by first | ke_room | ktr_units) ?_); k_whole)
  k_with "call ref" => (k_dflt (refine' call_cls (by k_asm) (by k_asm) (by k_asm) (by k_is) (by k_is) (by k_is) ?_); k_whole; intro x' d' h' F' N' l1 l2; (try k_lt l1); (try k_lt2 l2); (try k_sweep); refine' enterI (by exact rfl) (by exact rfl) (by first | exact rfl | assumption) (by k_asm) (by k_asm) (by k_asm) (by k_asm) (by k_asm) (by k_is) (by k_is) (by ktr_room) (by first | exact BindsTo.of_eq rfl | exact binds_K (by k_in) rfl (by k_is) rfl rfl rfl) (by exact rfl) (by exact rfl) (by exact rfl) (by exact rfl) (by exact rfl) (by decide) ?_; k_whole; intro g' L' h' tk' FG' F' N' B' X' T'; (try dsimp only); (try k_lift B'); (try k_fold))
  k_with "setAttr ref" => (k_dflt (refine' set_abs (by k_asm) (by k_asm) (by k_asm) (by k_inst) (by exact rfl) (by k_is) (by k_is) (by k_is) (by k_is) (by assumption) (by assumption) (fun es' n' => by k_upd) ?_); k_whole; intro h' es' n' z' g1 g2 F' N'; (try dsimp only at g1); (try k_sweep))
  k_with "getMethod ref" => (k_dflt (refine' method_inst (by k_asm) (by k_asm) (by k_inst) (by k_is) (by k_is) (by k_is) (by first | assumption | exact HpE.a (by assumption) | exact HpE.b (by assumption) | exact HpE.c (by assumption) | exact HpE.d (by assumption)) ?_); k_whole)
  exact ⟨h, g⟩
theorem kd_set {prog : Program} {w : World} {A : Around} {E : Value → Shared → Prop} {s : Shared} {h₀ : Heap} {L th dth : Addr} {m : Str → Option Value} {news : Led} {kd : Nat} {et : List DictEntry} {nt : Nat} {v v0 : Value} {Q : Unit → Shared → Prop} {news' : List DictEntry → Nat → Led}
    (F : Fr h₀ L s.heap m) (X : (Mine.mk.heap_1 w.params).In h₀) (N : News h₀ L s.heap news) (h1 : (th, instObj (clsOf kd) dth) ∈ news) (h2 : (dth, dictOf et nt) ∈ news) (hk : kd < 4) (hl : getL (Str.ofString "blessed") et = some (some v0)) (hz : et.length ≤ 1000)
    (U : ∀ es' n', Upd dth (dictOf et nt) (dictOf es' n') news (news' es' n'))
    (h : ∀ h' es' n', es'.length ≤ 1000 → getL (Str.ofString "blessed") es' = some (some v) → (∀ y, y ≠ Str.ofString "blessed" → getL y es' = getL y et) → Fr h₀ L h' m → News h₀ L h' (news' es' n') → Q () { s with heap := h', toks := s.toks + 2 }) :
    wpAny (model prog w) A (setAttr (.ref th) (Str.ofString "blessed") v) Q E s := by
  rcases kd_cases hk with rfl | rfl | rfl | rfl <;> dsimp only [clsOf] at h1 <;> k_dflt refine' set_abs F X N (InstAt.of_news N h1 h2) rfl (by k_is) (by k_is) (by k_is) (by k_is) hl hz U h
theorem item4 {prog : Program} {w : World} {A : Around} {E : Value → Shared → Prop} {s : Shared} {value slice : Expr} {l : Addr} {v0 v1 v2 v3 : Value} {k : Int} {u : Tok} {Q : Value → Shared → Prop} (hl : s.heap.IsList l [v0, v1, v2, v3].toArray)
    (h0 : 0 ≤ k) (h4 : k < 4) (c0 : k = 0 → Q v0 s) (c1 : k = 1 → Q v1 s) (c2 : k = 2 → Q v2 s) (c3 : k = 3 → Q v3 s)
    (hs : subscripted slice false (.ref l) (.int k u) = operate [.ref l, .int k u] (getItem (.ref l) (.int k u)) := by with_unfolding_all rfl) :
    wpAny (model prog w) A (subscriptTail value slice (.ref l) (.int k u)) Q E s := by
  obtain h | h | h | h : k = 0 ∨ k = 1 ∨ k = 2 ∨ k = 3 := by omega
  · have := c0 h; subst h; exact tail_any hl.typeIs slot_list_getitem.lookup (wpAny_getItem_list hl (by decide) (by decide) (by rfl) this) hs
  · have := c1 h; subst h; exact tail_any hl.typeIs slot_list_getitem.lookup (wpAny_getItem_list hl (by decide) (by decide) (by rfl) this) hs
  · have := c2 h; subst h; exact tail_any hl.typeIs slot_list_getitem.lookup (wpAny_getItem_list hl (by decide) (by decide) (by rfl) this) hs
  · have := c3 h; subst h; exact tail_any hl.typeIs slot_list_getitem.lookup (wpAny_getItem_list hl (by decide) (by decide) (by rfl) this) hs

end Mine
end
section
namespace Mine
theorem reg_O11 (h : PySem.Challenge.rw_nz0185_01 = PySem.Challenge.rw_nz0185_01) (g : ∀ w : World, Mine.mk.heap_1 w.params = Mine.mk.heap_1 w.params) : PySem.Challenge.rw_nz0185_01 = PySem.Challenge.rw_nz0185_01 ∧ ∀ w : World, Mine.mk.heap_1 w.params = Mine.mk.heap_1 w.params := by
  k_fill
  k_with_none
  k_with "enter" => (refine' enterK ?k1 ?k2 ?k3 ?k4 ?k5 ?kA ?kF ?kK ?k6 ?k7 ?k8 ?k9 ?kb ?kB ?_ ?c2 ?c3 ?c4 ?c5; (case kA => exact rfl); (case kF => exact rfl); (case kK => assumption); (case k1 => k_asm); (case k2 => k_asm); (case k3 => k_asm); (case k4 => k_asm); (case k5 => k_asm); (case k6 => k_is); (case k7 => k_is); (case k8 => ktr_room); (case k9 => exact BindsTo.of_eq rfl); (case kb => exact rfl); (case c5 => decide); (case kB => exact rfl); (case c2 => exact rfl); (case c3 => exact rfl); (case c4 => exact rfl); k_whole; intro g' L' h' tk' FG' F' N' B' X' T'; dsimp only [bindsOf, List.map, List.zip, List.zipWith, List.reverse, List.reverseAux] at F'; (try dsimp only); (try k_lift B'); (try k_fold))
  k_with "WlPost" => (dsimp only [WlPost])
  k_with "CutPost" => (dsimp only [CutPost])
  k_with "WlExit" => ((rename News _ _ _ _ => nE'); (refine' wl_exit (by assumption) nE' (by first | (with_reducible exact fun _ h9 => h9) | kst_in) (by kst_all) ?_))
  k_with "WlEnd" => ((rename News _ _ _ _ => nE'); first
  | (refine' wl_end ⟨⟩ (by assumption) nE' (by first | (with_reducible exact fun _ h9 => h9) | kst_in) (by kst_all) ?_)
  | (refine' wl_end ⟨_, _⟩ (by assumption) nE' (by first | (with_reducible exact fun _ h9 => h9) | kst_in) (by kst_all) ?_)
  | (refine' wl_end ⟨_, _, _⟩ (by assumption) nE' (by first | (with_reducible exact fun _ h9 => h9) | kst_in) (by kst_all) ?_)
  | (refine' wl_end ⟨_, _, _, _⟩ (by assumption) nE' (by first | (with_reducible exact fun _ h9 => h9) | kst_in) (by kst_all) ?_)
  | (refine' wl_end ⟨_, _, _, _, _⟩ (by assumption) nE' (by first | (with_reducible exact fun _ h9 => h9) | kst_in) (by kst_all) ?_)
  | (refine' wl_end ⟨_, _, _, _, _, _⟩ (by assumption) nE' (by first | (with_reducible exact fun _ h9 => h9) | kst_in) (by kst_all) ?_))
  k_with "CutEnd" => ((rename News _ _ _ _ => nE'); first
  | (refine' cut_end ⟨⟩ (by assumption) nE' (by first | (with_reducible exact fun _ h9 => h9) | kst_in) (by kst_all) ?_)
  | (refine' cut_end ⟨_, _⟩ (by assumption) nE' (by first | (with_reducible exact fun _ h9 => h9) | kst_in) (by kst_all) ?_)
  | (refine' cut_end ⟨_, _, _⟩ (by assumption) nE' (by first | (with_reducible exact fun _ h9 => h9) | kst_in) (by kst_all) ?_)
  | (refine' cut_end ⟨_, _, _, _⟩ (by assumption) nE' (by first | (with_reducible exact fun _ h9 => h9) | kst_in) (by kst_all) ?_)
  | (refine' cut_end ⟨_, _, _, _, _⟩ (by assumption) nE' (by first | (with_reducible exact fun _ h9 => h9) | kst_in) (by kst_all) ?_)
  | (refine' cut_end ⟨_, _, _, _, _, _⟩ (by assumption) nE' (by first | (with_reducible exact fun _ h9 => h9) | kst_in) (by kst_all) ?_))
  k_with "led" => (first | k_asm | (refine' kst_newsOf (by assumption) (by kst_in)))
  k_with "end" => (first | (refine' retI ?_ (hret _ _ _ (by k_asm) (by k_extra "led"))) | (refine' retS ?_ (hret _ _ _ (by k_asm) (by k_extra "led"))) | (refine' retB ?_ (hret _ _ (by k_asm) (by k_extra "led"))))
  k_with "exec While BoolOp cons nil" => refine Hold.out ?_
  k_with "exec While Compare cons nil" => refine Hold.out ?_
  k_with "exec If" => ((rename Mark => hm9); clear hm9; refine Hold.out ?_)
  k_with "sub" => (first | assumption | exact fun _ h9 => h9 | (intro p9 h9; (try dsimp only at h9); first | exact h9 | (simp only [List.mem_cons, List.mem_append, List.cons_append, List.nil_append] at h9 ⊢; first | (simp only [h9, true_or, or_true]; done) | grind)))
  k_with "FlPost" => (dsimp only [FlPost])
  k_with "FlEnd" => ((rename News _ _ _ _ => nE'); first
  | (refine' fl_end ⟨⟩ (by assumption) nE' (by k_extra "sub") (by k_extra "sub") (by kst_all) (by first | exact ⟨by assumption⟩ | skip) ?_)
  | (refine' fl_end ⟨_, _⟩ (by assumption) nE' (by k_extra "sub") (by k_extra "sub") (by kst_all) (by first | exact ⟨by assumption⟩ | skip) ?_)
  | (refine' fl_end ⟨_, _, _⟩ (by assumption) nE' (by k_extra "sub") (by k_extra "sub") (by kst_all) (by first | exact ⟨by assumption⟩ | skip) ?_)
  | (refine' fl_end ⟨_, _, _, _⟩ (by assumption) nE' (by k_extra "sub") (by k_extra "sub") (by kst_all) (by first | exact ⟨by assumption⟩ | skip) ?_))
  k_with "pyIter str" => ((with_reducible show wpAny _ _ (pyIter _) (fun it s₂ => LoopAtV _ _ _ _ _ _ _ _ _ it s₂) _ _); refine Hold.out ?_)
  k_with "pyIter ref" => ((with_reducible show wpAny _ _ (pyIter _) (fun it s₂ => LoopAtV _ _ _ _ _ _ _ _ _ it s₂) _ _); refine Hold.out ?_)
  k_with "call ref" => (k_dflt (refine' enterQ (by exact rfl) (by exact rfl) (by first | exact rfl | assumption) (by k_asm) (by k_asm) (by k_asm) (by k_asm) (by k_asm) (by k_is) (by k_is) (by ktr_room) (by exact BindsTo.of_eq rfl) (by exact rfl) (by exact rfl) (by exact rfl) (by exact rfl) (by exact rfl) (by decide) ?_); k_whole; intro g' L' h' tk' FG' F' N' B' X' T'; dsimp only [bindsOf, List.map, List.zip, List.zipWith, List.reverse, List.reverseAux] at F'; (try dsimp only); (try k_lift B'); (try k_fold))
  k_with "pre" => first | assumption | omega | exact IsV.mono (by assumption) (by k_extra "sub") | exact LimAt.mono (by assumption) (by k_extra "sub") | exact ThingAt.mono (by assumption) (by k_extra "sub") | exact RefAt.mono (by assumption) (by k_extra "sub")
  k_with "getAttr ref" => (k_dflt (refine' get_own (by k_asm) (by k_asm) (by k_inst) (by k_is) (by k_is) (by k_is) (by k_is) (by assumption) (by k_handed) ?_); k_whole)
  k_with "getAttr ref" => ((with_reducible show wpAny _ _ (getAttr (Value.ref _) (PySem.Str.ofString "number") _) _ _ _); k_dflt (refine' kd_num (by k_asm) (by k_asm) (by k_asm) (by k_mem) (by k_mem) (by assumption) (by assumption) (by k_handed) ?_); k_whole)
  k_with "getAttr ref" => ((with_reducible show wpAny _ _ (getAttr (Value.ref _) (PySem.Str.ofString "blessed") _) _ _ _); k_dflt (refine' kd_bl (by k_asm) (by k_asm) (by k_asm) (by k_mem) (by k_mem) (by assumption) (by assumption) (by k_handed) ?_); k_whole)
  k_with "compareOp NotEq ref str" => (k_dflt (refine' ref_ne_str (by exact Frag.In.keeps (by k_asm) (Fr.keep (by k_asm))) (by k_inst) (by first | ke_room | ktr_units) ?_); k_whole)
  k_with "compareOp NotEq ref int" => (k_dflt (refine' ref_ne_int (by exact Frag.In.keeps (by k_asm) (Fr.keep (by k_asm))) (by k_inst) (by first | ke_room | ktr_units) ?_); k_whole)
  k_with "compareOp NotIn ref ref" => (k_dflt (refine' ref_notIn (News.isList (by k_asm) (by k_mem)) (by exact Frag.In.keeps (by k_asm) (Fr.keep (by k_asm))) (by k_inst) (by first | ke_room | ktr_units) ?_); k_whole)
  k_with "call ref" => (k_dflt (refine' call_cls (by k_asm) (by k_asm) (by k_asm) (by k_is) (by k_is) (by k_is) ?_); k_whole; intro x' d' h' F' N' l1 l2; (try k_lt l1); (try k_lt2 l2); (try k_sweep); refine' enterI (by exact rfl) (by exact rfl) (by first | exact rfl | assumption) (by k_asm) (by k_asm) (by k_asm) (by k_asm) (by k_asm) (by k_is) (by k_is) (by ktr_room) (by first | exact BindsTo.of_eq rfl | exact binds_K (by k_in) rfl (by k_is) rfl rfl rfl) (by exact rfl) (by exact rfl) (by exact rfl) (by exact rfl) (by exact rfl) (by decide) ?_; k_whole; intro g' L' h' tk' FG' F' N' B' X' T'; (try dsimp only); (try k_lift B'); (try k_fold))
  k_with "setAttr ref" => (k_dflt (refine' set_abs (by k_asm) (by k_asm) (by k_asm) (by k_inst) (by exact rfl) (by k_is) (by k_is) (by k_is) (by k_is) (by assumption) (by assumption) (fun es' n' => by k_upd) ?_); k_whole; intro h' es' n' z' g1 g2 F' N'; (try dsimp only at g1); (try k_sweep))
  k_with "getMethod ref" => (k_dflt (refine' method_inst (by k_asm) (by k_asm) (by k_inst) (by k_is) (by k_is) (by k_is) (by assumption) ?_); k_whole)
  exact ⟨h, g⟩
theorem of_allLt {d : Addr} : ∀ {l : Led}, AllLt d l → ∀ p ∈ l, p.1 < d
  | [], _, _, h => nomatch h
  | _ :: _, h, p, hp => (List.mem_cons.mp hp).elim (fun e => e ▸ h.1) (of_allLt h.2 p)
theorem mkref_fn (w : World) (q : Addr × Obj) (news : Led) (v : Value) :
    FnC w 204 3 24 (q :: news) [v] (fun k => ∀ r dr er nr, getL (Str.ofString "target") er = some (some v) → @LT.lt Nat _ q.1 dr → (∀ p ∈ news, p.1 < dr) → @LT.lt Nat _ dr r → k (.ref r) (q :: (r, instObj 204 dr) :: (dr, dictOf er nr) :: news)) := by
  unfold FnC
  intro mean mg mb dp un gd cn cs a ccd cl outer A₀ base h₀ L m s Q E B F X N T hk hd hu hret
  k_steps
  rename _ ∧ AllLt _ news => l9
  refine' hret _ _ _ _ ?a ?b ?f ?c _ _ ?d ?e
  case e => k_extra "led"
  case d => k_asm
  case b => exact l9.1
  case f => exact of_allLt l9.2
  case c => assumption
  case a => exact rfl
structure HpE (eh : List DictEntry) (n : Int) : Prop where
  last : ∃ t, getL (Str.ofString "last") eh = some (some (.int n t))
  len : eh.length ≤ 1000
  a : getL (Str.ofString "next_number") eh = some none
  b : getL (Str.ofString "new_scalar") eh = some none
  c : getL (Str.ofString "new_array") eh = some none
  d : getL (Str.ofString "new_hash") eh = some none
theorem HpE.put {eh e' : List DictEntry} {n k : Int} {t : Tok} (H : HpE eh n) (hl : e'.length ≤ 1000) (h1 : getL (Str.ofString "last") e' = some (some (.int k t))) (h2 : ∀ y, y ≠ Str.ofString "last" → getL y e' = getL y eh) : HpE e' k :=
  ⟨⟨_, h1⟩, hl, (h2 _ (by decide)).trans H.a, (h2 _ (by decide)).trans H.b, (h2 _ (by decide)).trans H.c, (h2 _ (by decide)).trans H.d⟩
structure ThE (es : List DictEntry) (num : Int) (bl : Value) : Prop where
  num : ∃ t, getL (Str.ofString "number") es = some (some (.int num t))
  bl : getL (Str.ofString "blessed") es = some (some bl)
  len : es.length ≤ 1000
local macro_rules | `(tactic| k_all) => `(tactic| first | assumption | exact all_lt (by assumption) (by first | exact Nat.le_refl _ | omega))
theorem newsc_fn (w : World) (news : Led) (H dH : Addr) (eh : List DictEntry) (nh : Nat) (n0 : Int) (v : Value) (hH : (H, instObj 267 dH) ∈ news) (hne : ∀ p ∈ news, p.1 ≠ dH) (hE : HpE eh n0) :
    FnC w 236 5 40 ((dH, dictOf eh nh) :: news) [.ref H, v] (fun k => ∀ x dx es n eh' nh', ThE es (n0 + 1) .none → getL (Str.ofString "value") es = some (some v) → getL (Str.ofString "magic") es = some (some .none) → HpE eh' (n0 + 1) → @LT.lt Nat _ dH dx → @LT.lt Nat _ dx x → (∀ p ∈ news, p.1 < dx) → k (.ref x) ((dH, dictOf eh' nh') :: (dx, dictOf es n) :: (x, instObj 108 dx) :: news)) := by
  unfold FnC
  intro mean mg mb dp un gd cn cs a ccd cl outer A₀ base h₀ L m s Q E B F X N T hk hd hu hret
  have hHd : H ≠ dH := hne _ hH
  replace N := newsCons N (.tail _ hH)
  obtain ⟨⟨t0, e1⟩, e2, e3, e4, e5, e6⟩ := id hE
  k_dflt k_extra "enter"
  k_steps
  rename _ ∧ _ ∧ AllLt _ news => l9
  refine' hret _ _ _ _ _ _ ⟨⟨_, ?a⟩, ?b, ?c⟩ ?e ?f (HpE.put hE (by assumption) (by assumption) (by assumption)) l9.2.1 (by assumption) (of_allLt l9.2.2) _ _ (by k_asm) ?d
  case d => k_extra "led"
  case c => exact Nat.le_of_ble_eq_true rfl
  case a => exact rfl
  case b => exact rfl
  case e => exact rfl
  case f => exact rfl
theorem newar_fn (w : World) (news : Led) (H dH : Addr) (eh : List DictEntry) (nh : Nat) (n0 : Int) (hH : (H, instObj 267 dH) ∈ news) (hne : ∀ p ∈ news, p.1 ≠ dH) (hE : HpE eh n0) :
    FnC w 243 5 40 ((dH, dictOf eh nh) :: news) [.ref H] (fun k => ∀ x dx es n eh' nh', ThE es (n0 + 1) .none → HpE eh' (n0 + 1) → @LT.lt Nat _ dH dx → @LT.lt Nat _ dx x → (∀ p ∈ news, p.1 < dx) → k (.ref x) ((dH, dictOf eh' nh') :: (dx, dictOf es n) :: (x, instObj 127 dx) :: news)) := by
  unfold FnC
  intro mean mg mb dp un gd cn cs a ccd cl outer A₀ base h₀ L m s Q E B F X N T hk hd hu hret
  have hHd : H ≠ dH := hne _ hH
  replace N := newsCons N (.tail _ hH)
  obtain ⟨⟨t0, e1⟩, e2, e3, e4, e5, e6⟩ := id hE
  k_dflt k_extra "enter"
  k_steps
  rename _ ∧ _ ∧ AllLt _ news => l9
  refine' hret _ _ _ _ _ _ ⟨⟨_, ?a⟩, ?b, ?c⟩ (HpE.put hE (by assumption) (by assumption) (by assumption)) l9.2.1 (by assumption) (of_allLt l9.2.2) _ _ (by k_asm) ?d
  case d => k_extra "led"
  case c => exact Nat.le_of_ble_eq_true rfl
  case a => exact rfl
  case b => exact rfl
theorem newha_fn (w : World) (news : Led) (H dH : Addr) (eh : List DictEntry) (nh : Nat) (n0 : Int) (hH : (H, instObj 267 dH) ∈ news) (hne : ∀ p ∈ news, p.1 ≠ dH) (hE : HpE eh n0) :
    FnC w 250 5 40 ((dH, dictOf eh nh) :: news) [.ref H] (fun k => ∀ x dx es n eh' nh', ThE es (n0 + 1) .none → HpE eh' (n0 + 1) → @LT.lt Nat _ dH dx → @LT.lt Nat _ dx x → (∀ p ∈ news, p.1 < dx) → k (.ref x) ((dH, dictOf eh' nh') :: (dx, dictOf es n) :: (x, instObj 146 dx) :: news)) := by
  unfold FnC
  intro mean mg mb dp un gd cn cs a ccd cl outer A₀ base h₀ L m s Q E B F X N T hk hd hu hret
  have hHd : H ≠ dH := hne _ hH
  replace N := newsCons N (.tail _ hH)
  obtain ⟨⟨t0, e1⟩, e2, e3, e4, e5, e6⟩ := id hE
  k_dflt k_extra "enter"
  k_steps
  rename _ ∧ _ ∧ AllLt _ news => l9
  refine' hret _ _ _ _ _ _ ⟨⟨_, ?a⟩, ?b, ?c⟩ (HpE.put hE (by assumption) (by assumption) (by assumption)) l9.2.1 (by assumption) (of_allLt l9.2.2) _ _ (by k_asm) ?d
  case d => k_extra "led"
  case c => exact Nat.le_of_ble_eq_true rfl
  case a => exact rfl
  case b => exact rfl

end Mine
end
section
namespace Mine
theorem ipow_le {a b : Nat} (h : a ≤ b) : (2 : Int) ^ a ≤ 2 ^ b := by exact_mod_cast Nat.pow_le_pow_right (by decide) h
theorem fitN_abs (m : Int) {wd : Int} (h1 : 4 ≤ wd) (h2 : wd ≤ 80) : (fitN m wd).natAbs < 2 ^ 80 := by
  have hp : (2 : Int) ^ (wd.toNat - 1) ≤ 2 ^ 79 := ipow_le (by omega)
  have he : (2 : Int) ^ wd.toNat = 2 * 2 ^ (wd.toNat - 1) := by
    rw [show wd.toNat = (wd.toNat - 1) + 1 by omega, Int.pow_succ, Int.mul_comm]; rfl
  have hq : (0 : Int) < 2 ^ (wd.toNat - 1) := Int.pow_pos (by decide)
  unfold fitN
  rw [he]
  generalize (2 : Int) ^ (wd.toNat - 1) = P at *
  have a := Int.emod_nonneg m (b := 2 * P) (by omega)
  have b := Int.emod_lt_of_pos m (b := 2 * P) (by omega)
  split <;> omega
noncomputable def pairObj (v : Value) (x : Str) (t : Tok) : Obj := { cls := .type "tuple", data := .seq #[v, .str x t] }
noncomputable def vnum (m wd : Int) : Int := [fitN m wd, 2 ^ (wd - 1).toNat - 1 - m.fmod 3, m.fmod 3 - 2 ^ (wd - 1).toNat].getD ((m.fdiv 3).fmod 3).toNat 0
theorem vnum_ok (m : Int) {wd : Int} (h1 : 4 ≤ wd) (h2 : wd ≤ 80) : (vnum m wd).natAbs < 2 ^ 80 := by
  have hp1 : (8 : Int) ≤ 2 ^ (wd - 1).toNat := Int.le_trans (by decide) (ipow_le (a := 3) (by omega))
  have hp2 : (2 : Int) ^ (wd - 1).toNat ≤ 2 ^ 79 := ipow_le (by omega)
  have hf := fitN_abs m h1 h2
  have hm : 0 ≤ m.fmod 3 ∧ m.fmod 3 < 3 := by rw [Int.fmod_eq_emod_of_nonneg _ (by decide)]; omega
  have hi : 0 ≤ (m.fdiv 3).fmod 3 ∧ (m.fdiv 3).fmod 3 < 3 := by rw [Int.fmod_eq_emod_of_nonneg _ (by decide)]; omega
  unfold vnum
  obtain h | h | h : ((m.fdiv 3).fmod 3).toNat = 0 ∨ ((m.fdiv 3).fmod 3).toNat = 1 ∨ ((m.fdiv 3).fmod 3).toNat = 2 := by omega
  · rw [h]; exact hf
  · rw [h]; show (2 ^ (wd - 1).toNat - 1 - m.fmod 3 : Int).natAbs < _; omega
  · rw [h]; show (m.fmod 3 - 2 ^ (wd - 1).toNat : Int).natAbs < _; omega
end Mine
end
section
open PySem PySem.W PyProof.Rows PySem.Calls PySem.Spec PyProof.V
namespace Mine
noncomputable def hx0 (n : Nat) : List Nat := if n = 0 then [] else hexs n
theorem hx0_pre (n : Nat) : preHexs n = hx0 (n / 16) := by
  unfold preHexs hx0
  by_cases h : n < 16
  · rw [if_pos h, if_pos (by omega)]
  · rw [if_neg h, if_neg (by omega)]
theorem hy_start {n : Int} (h : 0 < n) : hexs n.toNat = hx0 n.toNat ++ lst (Str.ofString "") := by
  unfold hx0
  rw [if_neg (by omega), show lst (Str.ofString "") = [] from rfl, List.append_nil]
theorem hy_step {n k : Int} {x : Str} (hk : 0 < k) (p : hexs n.toNat = hx0 k.toNat ++ lst x) :
    hexs n.toNat = hx0 (k.fdiv 16).toNat ++ lst (Txt.item (Str.ofString "0123456789abcdef") (k.fmod 16) ++ x) := by
  rw [Int.fdiv_eq_ediv_of_nonneg _ (by decide), Int.fmod_eq_emod_of_nonneg _ (by decide)]
  rw [cod_hex (by omega) (by omega), lst_append, lst_single, p]
  conv => lhs; unfold hx0
  rw [if_neg (by omega), hexs_pre, hx0_pre, List.append_assoc]
  congr 2
  · congr 1; omega
  · congr 2; omega
theorem hy_end {n k : Int} {x : Str} (hk : 0 ≤ k) (h9 : k ≤ 0) (p : hexs n.toNat = hx0 k.toNat ++ lst x) : x = mkS (hexs n.toNat) := by
  apply ext_lst
  rw [lst_mkS, p]
  unfold hx0; rw [if_pos (by omega)]; rfl
theorem word_at {kd : Nat} (h : kd < 4) : [Str.ofString "SCALAR", Str.ofString "ARRAY", Str.ofString "HASH", Str.ofString "REF"].getD kd Str.empty = wordOf kd := by
  rcases kd_cases h with rfl | rfl | rfl | rfl <;> rfl
theorem str_assoc (a b c : Str) : a ++ b ++ c = a ++ (b ++ c) := by
  apply ext_lst
  simp only [lst_append, List.append_assoc]
theorem fmod4 (n : Int) : 0 ≤ n.fmod 4 ∧ n.fmod 4 < 4 := by
  rw [Int.fmod_eq_emod_of_nonneg _ (by decide)]; omega
theorem lt_sub {l l' : Led} {d : Addr} (h : ∀ p ∈ l, p.1 < d) (s : ∀ p ∈ l', p ∈ l) : ∀ p ∈ l', p.1 < d := fun p hp => h p (s p hp)
theorem thing_at {led ex : Led} {th dth : Addr} {kd : Nat} {nm : Int} {bl : Bool} {es es' : List DictEntry} {n' : Nat} (m1 : (th, instObj (clsOf kd) dth) ∈ led) (m2 : (dth, dictOf es' n') ∈ led) (num : ∃ t, getL (Str.ofString "number") es = some (some (.int nm t)))
    (hb : ∃ tb, getL (Str.ofString "blessed") es' = some (some (if bl then .str (Str.ofString "A::B") tb else .none))) (v0 : kd = 0 → getL (Str.ofString "value") es = some (some .none))
    (v3 : kd = 3 → ∃ r2 dr2 e2 n2, getL (Str.ofString "value") es = some (some (.ref r2)) ∧ (r2, instObj 204 dr2) ∈ ex ∧ (dr2, dictOf e2 n2) ∈ ex) (g : ∀ y, y ≠ Str.ofString "blessed" → getL y es' = getL y es) (hs : ∀ p ∈ ex, p ∈ led) : ThingAt led th kd nm bl := by
  obtain ⟨t, num⟩ := num
  refine ⟨dth, es', n', t, m1, m2, (g _ (by decide)).trans num, hb, fun k => (g _ (by decide)).trans (v0 k), fun k => ?_⟩
  obtain ⟨r2, dr2, e2, n2, a, b, c⟩ := v3 k
  exact ⟨r2, dr2, e2, n2, (g _ (by decide)).trans a, hs _ b, hs _ c⟩
theorem lv_end {h₀ : Heap} {L : Addr} {h : Heap} {D l r dr th dth dH H : Addr} {o lo oh : Obj} {er es es' eh : List DictEntry} {nr n' nh : Nat} {kd : Nat} {nm : Int} {bl : Bool} {ex news : Led}
    (N : News h₀ L h ((D, o) :: (l, lo) :: (r, instObj 204 dr) :: (dr, dictOf er nr) :: (th, instObj (clsOf kd) dth) :: (dth, dictOf es' n') :: (dH, dictOf eh nh) :: (ex ++ (H, oh) :: news)))
    (hD : @LT.lt Nat _ dH D) (h9 : ∀ p ∈ (th, instObj (clsOf kd) dth) :: (dth, dictOf es' n') :: (dH, dictOf eh nh) :: (ex ++ (H, oh) :: news), p.1 < dr) (hr : @LT.lt Nat _ dr r) (a1 : @LT.lt Nat _ dH dth) (a2 : @LT.lt Nat _ dth th) (a3 : ∀ p ∈ ex, @LT.lt Nat _ dH p.1 ∧ p.1 < dth) (a5 : ∀ p ∈ ex, ∀ q ∈ news, @LT.lt Nat _ q.1 p.1) (hD2 : ∀ q ∈ news, @LT.lt Nat _ q.1 D) (a4 : ∀ p ∈ (H, oh) :: news, p.1 < dth)
    (ht : getL (Str.ofString "target") er = some (some (.ref th))) (num : ∃ t, getL (Str.ofString "number") es = some (some (.int nm t))) (hb : ∃ tb, getL (Str.ofString "blessed") es' = some (some (if bl then .str (Str.ofString "A::B") tb else .none)))
    (v0 : kd = 0 → getL (Str.ofString "value") es = some (some .none)) (v3 : kd = 3 → ∃ r2 dr2 e2 n2, getL (Str.ofString "value") es = some (some (.ref r2)) ∧ (r2, instObj 204 dr2) ∈ ex ∧ (dr2, dictOf e2 n2) ∈ ex) (g : ∀ y, y ≠ Str.ofString "blessed" → getL y es' = getL y es) :
    ∃ ex', News h₀ L h ((dH, dictOf eh nh) :: (ex' ++ news)) ∧ IsV ex' (.ref r) (.ref kd nm bl) ∧ (∀ p ∈ ex', p.1 ≠ dH) ∧ (D, o) ∈ ex' ∧ (∀ p ∈ ex', ∀ q ∈ news, @LT.lt Nat _ q.1 p.1) := by
  have hdr : @LT.lt Nat _ dH dr := h9 _ (.tail _ (.tail _ (.head _)))
  have hn1 : ∀ q ∈ news, @LT.lt Nat _ q.1 dr := fun q hq => h9 q (.tail _ (.tail _ (.tail _ (List.mem_append_right _ (.tail _ hq)))))
  have hn2 : ∀ q ∈ news, @LT.lt Nat _ q.1 dth := fun q hq => a4 q (.tail _ hq)
  refine ⟨(D, o) :: (r, instObj 204 dr) :: (dr, dictOf er nr) :: (th, instObj (clsOf kd) dth) :: (dth, dictOf es' n') :: ex, kst_newsOf N ?_, ⟨r, th, rfl, dr, er, nr, .tail _ (.head _), .tail _ (.tail _ (.head _)), ht, thing_at (ex := ex) (.tail _ (.tail _ (.tail _ (.head _)))) (.tail _ (.tail _ (.tail _ (.tail _ (.head _))))) num hb v0 v3 g ?_⟩, ?_, .head _, ?_⟩
  · intro p hp
    simp only [List.mem_cons, List.mem_append, List.cons_append] at hp ⊢
    grind
  · intro p hp
    exact .tail _ (.tail _ (.tail _ (.tail _ (.tail _ hp))))
  · intro p hp
    simp only [List.mem_cons] at hp
    rcases hp with rfl | rfl | rfl | rfl | rfl | hp
    · exact Nat.ne_of_gt hD
    · exact Nat.ne_of_gt (Nat.lt_trans hdr hr)
    · exact Nat.ne_of_gt hdr
    · exact Nat.ne_of_gt (Nat.lt_trans a1 a2)
    · exact Nat.ne_of_gt a1
    · exact Nat.ne_of_gt (a3 p hp).1
  · intro p hp q hq
    simp only [List.mem_cons] at hp
    rcases hp with rfl | rfl | rfl | rfl | rfl | hp
    · exact hD2 q hq
    · exact Nat.lt_trans (hn1 q hq) hr
    · exact hn1 q hq
    · exact Nat.lt_trans (hn2 q hq) a2
    · exact hn2 q hq
    · exact a5 p hp q hq
theorem lv_end1 {h₀ : Heap} {L : Addr} {h : Heap} {D dH : Addr} {o : Obj} {v : Value} {x : Str} {t : Tok} {rest news : Led} (N : News h₀ L h ((D, { cls := .type "tuple", data := .seq #[v, .str x t] }) :: rest)) (hs : ∀ p ∈ (dH, o) :: news, p ∈ rest) : News h₀ L h ((dH, o) :: ([(D, pairObj v x t)] ++ news)) := by
  refine kst_newsOf N fun p hp => ?_
  simp only [List.mem_cons, List.cons_append, List.nil_append] at hp
  rcases hp with rfl | rfl | hp
  · exact .tail _ (hs _ (.head _))
  · exact .head _
  · exact .tail _ (hs _ (.tail _ hp))
theorem item_str4 {prog : Program} {w : World} {A : Around} {E : Value → Shared → Prop} {s : Shared} {value slice : Expr} {l : Addr} {a b c d : Str} {ta tb tc td : Tok} {k : Int} {u : Tok} {Q : Value → Shared → Prop} (hl : s.heap.IsList l [.str a ta, .str b tb, .str c tc, .str d td].toArray)
    (h0 : 0 ≤ k) (h4 : k < 4) (h : ∀ t, Q (.str ([a, b, c, d].getD k.toNat Str.empty) t) s)
    (hs : subscripted slice false (.ref l) (.int k u) = operate [.ref l, .int k u] (getItem (.ref l) (.int k u)) := by with_unfolding_all rfl) :
    wpAny (model prog w) A (subscriptTail value slice (.ref l) (.int k u)) Q E s :=
  item4 hl h0 h4 (fun e => by subst e; exact h _) (fun e => by subst e; exact h _) (fun e => by subst e; exact h _) (fun e => by subst e; exact h _) hs
theorem rt_no {kd : Nat} (h : kd < 4) (nm : Int) : [Str.ofString "SCALAR", Str.ofString "ARRAY", Str.ofString "HASH", Str.ofString "REF"].getD kd Str.empty ++ Str.ofString "(0x" ++ mkS (hexs nm.toNat) ++ Str.ofString ")" = textOf (.ref kd nm false) := by rw [word_at h]; rfl
theorem rt_yes {kd : Nat} (nm : Int) : Str.ofString "A::B=" ++ textOf (.ref kd nm false) = textOf (.ref kd nm true) := rfl
end Mine
end
section
namespace Mine
theorem reg_O13 (h : PySem.Challenge.rw_nz0185_01 = PySem.Challenge.rw_nz0185_01) (g : ∀ w : World, Mine.mk.heap_1 w.params = Mine.mk.heap_1 w.params) : PySem.Challenge.rw_nz0185_01 = PySem.Challenge.rw_nz0185_01 ∧ ∀ w : World, Mine.mk.heap_1 w.params = Mine.mk.heap_1 w.params := by
  k_fill
  k_with_none
  k_with "enter" => (refine' enterK ?k1 ?k2 ?k3 ?k4 ?k5 ?kA ?kF ?kK ?k6 ?k7 ?k8 ?k9 ?kb ?kB ?_ ?c2 ?c3 ?c4 ?c5; (case kA => exact rfl); (case kF => exact rfl); (case kK => assumption); (case k1 => k_asm); (case k2 => k_asm); (case k3 => k_asm); (case k4 => k_asm); (case k5 => k_asm); (case k6 => k_is); (case k7 => k_is); (case k8 => ktr_room); (case k9 => exact BindsTo.of_eq rfl); (case kb => exact rfl); (case c5 => decide); (case kB => exact rfl); (case c2 => exact rfl); (case c3 => exact rfl); (case c4 => exact rfl); k_whole; intro g' L' h' tk' FG' F' N' B' X' T'; dsimp only [bindsOf, List.map, List.zip, List.zipWith, List.reverse, List.reverseAux] at F'; (try dsimp only); (try k_lift B'); (try k_fold))
  k_with "WlPost" => (dsimp only [WlPost])
  k_with "CutPost" => (dsimp only [CutPost])
  k_with "WlExit" => ((rename News _ _ _ _ => nE'); (refine' wl_exit (by assumption) nE' (by first | (with_reducible exact fun _ h9 => h9) | kst_in) (by kst_all) ?_))
  k_with "WlEnd" => ((rename News _ _ _ _ => nE'); first
  | (refine' wl_end ⟨⟩ (by assumption) nE' (by first | (with_reducible exact fun _ h9 => h9) | kst_in) (by kst_all) ?_)
  | (refine' wl_end ⟨_, _⟩ (by assumption) nE' (by first | (with_reducible exact fun _ h9 => h9) | kst_in) (by kst_all) ?_)
  | (refine' wl_end ⟨_, _, _⟩ (by assumption) nE' (by first | (with_reducible exact fun _ h9 => h9) | kst_in) (by kst_all) ?_)
  | (refine' wl_end ⟨_, _, _, _⟩ (by assumption) nE' (by first | (with_reducible exact fun _ h9 => h9) | kst_in) (by kst_all) ?_)
  | (refine' wl_end ⟨_, _, _, _, _⟩ (by assumption) nE' (by first | (with_reducible exact fun _ h9 => h9) | kst_in) (by kst_all) ?_)
  | (refine' wl_end ⟨_, _, _, _, _, _⟩ (by assumption) nE' (by first | (with_reducible exact fun _ h9 => h9) | kst_in) (by kst_all) ?_))
  k_with "led" => (first | k_asm | (refine' kst_newsOf (by assumption) (by kst_in)))
  k_with "end" => (first | (refine' retI ?_ (hret _ _ _ (by k_asm) (by k_extra "led"))) | (refine' retS ?_ (hret _ _ _ (by k_asm) (by k_extra "led"))) | (refine' retB ?_ (hret _ _ (by k_asm) (by k_extra "led"))))
  k_with "exec While BoolOp cons nil" => refine Hold.out ?_
  k_with "exec While Compare cons nil" => refine Hold.out ?_
  k_with "exec If" => ((rename Mark => hm9); clear hm9; refine Hold.out ?_)
  k_with "sub" => (first | assumption | exact fun _ h9 => h9 | (intro p9 h9; (try dsimp only at h9); first | exact h9 | (simp only [List.mem_cons, List.mem_append, List.cons_append, List.nil_append] at h9 ⊢; first | (simp only [h9, true_or, or_true]; done) | grind)))
  k_with "FlPost" => (dsimp only [FlPost])
  k_with "FlEnd" => ((rename News _ _ _ _ => nE'); first
  | (refine' fl_end ⟨⟩ (by assumption) nE' (by k_extra "sub") (by k_extra "sub") (by kst_all) (by first | exact ⟨by assumption⟩ | skip) ?_)
  | (refine' fl_end ⟨_, _⟩ (by assumption) nE' (by k_extra "sub") (by k_extra "sub") (by kst_all) (by first | exact ⟨by assumption⟩ | skip) ?_)
  | (refine' fl_end ⟨_, _, _⟩ (by assumption) nE' (by k_extra "sub") (by k_extra "sub") (by kst_all) (by first | exact ⟨by assumption⟩ | skip) ?_)
  | (refine' fl_end ⟨_, _, _, _⟩ (by assumption) nE' (by k_extra "sub") (by k_extra "sub") (by kst_all) (by first | exact ⟨by assumption⟩ | skip) ?_))
  k_with "pyIter str" => ((with_reducible show wpAny _ _ (pyIter _) (fun it s₂ => LoopAtV _ _ _ _ _ _ _ _ _ it s₂) _ _); refine Hold.out ?_)
  k_with "pyIter ref" => ((with_reducible show wpAny _ _ (pyIter _) (fun it s₂ => LoopAtV _ _ _ _ _ _ _ _ _ it s₂) _ _); refine Hold.out ?_)
  k_with "call ref" => (k_dflt (refine' enterQ (by exact rfl) (by exact rfl) (by first | exact rfl | assumption) (by k_asm) (by k_asm) (by k_asm) (by k_asm) (by k_asm) (by k_is) (by k_is) (by ktr_room) (by exact BindsTo.of_eq rfl) (by exact rfl) (by exact rfl) (by exact rfl) (by exact rfl) (by exact rfl) (by decide) ?_); k_whole; intro g' L' h' tk' FG' F' N' B' X' T'; dsimp only [bindsOf, List.map, List.zip, List.zipWith, List.reverse, List.reverseAux] at F'; (try dsimp only); (try k_lift B'); (try k_fold))
  k_with "pre" => first | assumption | omega | exact IsV.mono (by assumption) (by k_extra "sub") | exact LimAt.mono (by assumption) (by k_extra "sub") | exact ThingAt.mono (by assumption) (by k_extra "sub") | exact RefAt.mono (by assumption) (by k_extra "sub") | k_mem | k_extra "ne9"
  k_with "ne9" => (first | assumption | (refine' List.forall_mem_cons.mpr ⟨by k_ne, ?_⟩; k_extra "ne9"))
  k_with "getAttr ref" => (k_dflt (refine' get_own (by k_asm) (by k_asm) (by k_inst) (by k_is) (by k_is) (by k_is) (by k_is) (by assumption) (by k_handed) ?_); k_whole)
  k_with "getAttr ref" => ((with_reducible show wpAny _ _ (getAttr (Value.ref _) (PySem.Str.ofString "number") _) _ _ _); k_dflt (refine' kd_num (by k_asm) (by k_asm) (by k_asm) (by k_mem) (by k_mem) (by assumption) (by assumption) (by k_handed) ?_); k_whole)
  k_with "getAttr ref" => ((with_reducible show wpAny _ _ (getAttr (Value.ref _) (PySem.Str.ofString "blessed") _) _ _ _); k_dflt (refine' kd_bl (by k_asm) (by k_asm) (by k_asm) (by k_mem) (by k_mem) (by assumption) (by assumption) (by k_handed) ?_); k_whole)
  k_with "compareOp NotEq ref str" => (k_dflt (refine' ref_ne_str (by exact Frag.In.keeps (by k_asm) (Fr.keep (by k_asm))) (by k_inst) (by first | ke_room | ktr_units) ?_); k_whole)
  k_with "compareOp NotEq ref int" => (k_dflt (refine' ref_ne_int (by exact Frag.In.keeps (by k_asm) (Fr.keep (by k_asm))) (by k_inst) (by first | ke_room | ktr_units) ?_); k_whole)
  k_with "compareOp NotIn ref ref" => (k_dflt (refine' ref_notIn (News.isList (by k_asm) (by k_mem)) (by exact Frag.In.keeps (by k_asm) (Fr.keep (by k_asm))) (by k_inst) (by first | ke_room | ktr_units) ?_); k_whole)
  k_with "call ref" => (k_dflt (refine' FnC.use (ltext_fn _ _ _ _) (by k_asm) (by k_asm) (by k_asm) (by k_asm) (by k_asm) (by first | exact rfl | assumption) (by ktr_room) (by ktr_units) ?_); (try dsimp only); intros; (try k_fold))
  k_with "call ref" => (k_dflt (refine' FnC.use (lfit_fn _ _ _ _ _ _ (by k_extra "pre") (by k_extra "pre")) (by k_asm) (by k_asm) (by k_asm) (by k_asm) (by k_asm) (by first | exact rfl | assumption) (by ktr_room) (by ktr_units) ?_); (try dsimp only); intros; (try k_fold))
  k_with "call ref" => (k_dflt (refine' FnC.use (ldigits_fn _ _ _ _ (by k_extra "pre")) (by k_asm) (by k_asm) (by k_asm) (by k_asm) (by k_asm) (by first | exact rfl | assumption) (by ktr_room) (by ktr_units) ?_); (try dsimp only); intros; (try k_fold))
  k_with "call ref" => (k_dflt (refine' FnC.useN (by k_asm) (newsc_fn _ _ _ _ _ _ _ _ (by k_extra "pre") (by k_extra "pre") (by k_extra "pre")) (by k_asm) (by k_asm) (by k_asm) (by k_asm) (by first | exact rfl | assumption) (by ktr_room) (by ktr_units) ?_); (try dsimp only); intros; (try k_fold))
  k_with "call ref" => (k_dflt (refine' FnC.useN (by k_asm) (newar_fn _ _ _ _ _ _ _ (by k_extra "pre") (by k_extra "pre") (by k_extra "pre")) (by k_asm) (by k_asm) (by k_asm) (by k_asm) (by first | exact rfl | assumption) (by ktr_room) (by ktr_units) ?_); (try dsimp only); intros; (try k_fold))
  k_with "call ref" => (k_dflt (refine' FnC.useN (by k_asm) (newha_fn _ _ _ _ _ _ _ (by k_extra "pre") (by k_extra "pre") (by k_extra "pre")) (by k_asm) (by k_asm) (by k_asm) (by k_asm) (by first | exact rfl | assumption) (by ktr_room) (by ktr_units) ?_); (try dsimp only); intros; (try k_fold))
  k_with "call ref" => (k_dflt (refine' FnC.useN (by k_asm) (mkref_fn _ _ _ _) (by k_asm) (by k_asm) (by k_asm) (by k_asm) (by first | exact rfl | assumption) (by ktr_room) (by ktr_units) ?_); (try dsimp only); intros; (try k_fold))
  k_with "subscriptTail" => ((with_reducible show wpAny _ _ (subscriptTail _ _ (Value.ref _) (Value.int _ _)) _ _ _); (refine' item_str4 (News.isList (by k_asm) (by k_mem)) (by omega) (by omega) ?_); intro t9; (try dsimp only))
  k_with "setAttr ref" => ((with_reducible show wpAny _ _ (setAttr (Value.ref _) (PySem.Str.ofString "blessed") _) _ _ _); k_dflt (refine' kd_set (by k_asm) (by k_asm) (by k_asm) (by k_mem) (by k_mem) (by assumption) (by assumption) (by assumption) (fun es' n' => Upd.tail (by k_ne) (Upd.tail (by k_ne) (Upd.head (by assumption)))) ?_); k_whole; intro h' es' n' z' g1 g2 F' N'; (try dsimp only at g1); (try k_sweep))
  k_with "subscriptTail" => ((with_reducible show wpAny _ _ (subscriptTail (Expr.List [Expr.Call _ _ _ _, _, _, _] _) _ (Value.ref _) _) _ _ _); refine' item4 (News.isList (by k_asm) (by k_mem)) (by omega) (by omega) ?_ ?_ ?_ ?_ <;> (intro hi9; (try dsimp only)))
  k_with "exec Assign" => ((with_reducible show wpAny _ _ (exec (Stmt.Assign _ (Expr.Subscript (Expr.List [_, _, _, _] _) _ _) _) _) _ _ _); (rename Todo True => hm9); clear hm9; refine Hold.out ?_)
  k_with "exec Assign" => ((with_reducible show wpAny _ _ (exec (Stmt.Assign _ (Expr.Subscript (Expr.List [_, _, _] _) _ _) _) _) _ _ _); (rename Todo True => hm9); clear hm9; refine Hold.out ?_)
  k_with "call ref" => (k_dflt (refine' call_cls (by k_asm) (by k_asm) (by k_asm) (by k_is) (by k_is) (by k_is) ?_); k_whole; intro x' d' h' F' N' l1 l2; (try k_lt l1); (try k_lt2 l2); (try k_sweep); refine' enterI (by exact rfl) (by exact rfl) (by first | exact rfl | assumption) (by k_asm) (by k_asm) (by k_asm) (by k_asm) (by k_asm) (by k_is) (by k_is) (by ktr_room) (by first | exact BindsTo.of_eq rfl | exact binds_K (by k_in) rfl (by k_is) rfl rfl rfl) (by exact rfl) (by exact rfl) (by exact rfl) (by exact rfl) (by exact rfl) (by decide) ?_; k_whole; intro g' L' h' tk' FG' F' N' B' X' T'; (try dsimp only); (try k_lift B'); (try k_fold))
  k_with "setAttr ref" => (k_dflt (refine' set_abs (by k_asm) (by k_asm) (by k_asm) (by k_inst) (by exact rfl) (by k_is) (by k_is) (by k_is) (by k_is) (by assumption) (by assumption) (fun es' n' => by k_upd) ?_); k_whole; intro h' es' n' z' g1 g2 F' N'; (try dsimp only at g1); (try k_sweep))
  k_with "getMethod ref" => (k_dflt (refine' method_inst (by k_asm) (by k_asm) (by k_inst) (by k_is) (by k_is) (by k_is) (by first | assumption | exact HpE.a (by assumption) | exact HpE.b (by assumption) | exact HpE.c (by assumption) | exact HpE.d (by assumption)) ?_); k_whole)
  k_with "mO130" => (((with_reducible refine pow_int_small (by omega) (by omega) (by decide) ?_); (try dsimp only)))
  exact ⟨h, g⟩
structure TC where
  th : Addr
  dth : Addr
  C : Addr
  es : List DictEntry
  n : Nat
  eh : List DictEntry
  nh : Nat
  nm : Int
  ex : Led
  t1 : Tok
  t2 : Tok
structure ThC (news ex : Led) (H dH th dth C : Addr) (kd : Nat) (nm n0 : Int) (es eh2 : List DictEntry) : Prop where
  c : C = clsOf kd
  e : ThE es nm .none
  h : HpE eh2 (n0 + 1 + 1 + 1 + 1 + 1)
  lo : n0 < nm
  hi : nm ≤ n0 + 5
  v0 : kd = 0 → getL (Str.ofString "value") es = some (some .none)
  v3 : kd = 3 → ∃ r2 dr2 e2 n2, getL (Str.ofString "value") es = some (some (.ref r2)) ∧ (r2, instObj 204 dr2) ∈ ex ∧ (dr2, dictOf e2 n2) ∈ ex
  a1 : @LT.lt Nat _ dH dth
  a2 : @LT.lt Nat _ dth th
  a3 : ∀ p ∈ ex, @LT.lt Nat _ dH p.1 ∧ p.1 < dth
  a4 : ∀ p ∈ (H, instObj 267 dH) :: news, p.1 < dth
  a5 : ∀ p ∈ ex, ∀ q ∈ news, @LT.lt Nat _ q.1 p.1
local macro_rules | `(tactic| walk_at "execs cons") => `(tactic| (dsimp only; k_gentoks))
local macro_rules | `(tactic| walk_at "binaryOp Pow int int") => `(tactic| k_extra "mO130")
theorem lvalue_fn (w : World) (news : Led) (H dH : Addr) (eh : List DictEntry) (nh : Nat) (n0 wd n : Int) (tw tn : Tok) (hH : (H, instObj 267 dH) ∈ news) (hne : ∀ p ∈ news, p.1 ≠ dH) (hE : HpE eh n0) (h1 : 4 ≤ wd) (h2 : wd ≤ 80) (h3 : 0 ≤ n0) (h4 : n0 < 1000) :
    FnC w 419 7 56 ((dH, dictOf eh nh) :: news) [.ref H, .int wd tw, .int n tn] (fun k => ∀ tup d v t ex eh' nh' n1, IsV ex v d → d.ok → n0 ≤ n1 → n1 ≤ n0 + 5 → HpE eh' n1 → (∀ p ∈ ex, p.1 ≠ dH) → (∀ p ∈ ex, ∀ q ∈ news, @LT.lt Nat _ q.1 p.1) → (tup, pairObj v (textOf d) t) ∈ ex → k (.ref tup) ((dH, dictOf eh' nh') :: (ex ++ news))) := by
  unfold FnC
  intro mean mg mb dp un gd cn cs a ccd cl outer A₀ base h₀ L m s Q E B F X N T hk hd hu hret
  replace N := newsSnd N hH
  have hHd : H ≠ dH := hne _ hH
  have mk : Todo True := ⟨⟨⟩⟩
  k_dflt k_extra "enter"
  k_steps
  · rename _ ∧ _ ∧ AllLt _ news => l9
    refine' hret _ (.str (ltx (n.fdiv 5))) _ _ [(_, _)] _ _ n0 ⟨_, rfl⟩ (ltx_len _) (Int.le_refl _) (by omega) hE (List.forall_mem_cons.mpr ⟨fun e => Nat.ne_of_gt l9.1 e, List.forall_mem_nil _⟩) (List.forall_mem_cons.mpr ⟨of_allLt l9.2.2, List.forall_mem_nil _⟩) (.head _) _ _ (by k_asm) (by k_extra "led")
  · rename _ ∧ _ ∧ AllLt _ news => l9
    refine' hret _ .none _ _ [(_, _)] _ _ n0 rfl trivial (Int.le_refl _) (by omega) hE (List.forall_mem_cons.mpr ⟨fun e => Nat.ne_of_gt l9.1 e, List.forall_mem_nil _⟩) (List.forall_mem_cons.mpr ⟨of_allLt l9.2.2, List.forall_mem_nil _⟩) (.head _) _ _ (by k_asm) (by k_extra "led")
  · refine ⟨?_⟩
    have hb := vnum_ok (n.fdiv 5) h1 h2
    have hb9 : (vnum (n.fdiv 5) wd).natAbs < 10 ^ 30 := Nat.lt_trans hb (by decide)
    k_steps
    rename _ ∧ _ ∧ _ ∧ AllLt _ news => l9
    (rename News _ _ _ _ => nE')
    refine' hret _ (.int (List.getD [fitN (n.fdiv 5) wd, 2 ^ (wd - 1).toNat - 1 - (n.fdiv 5).fmod 3, (n.fdiv 5).fmod 3 - 2 ^ (wd - 1).toNat] (((n.fdiv 5).fdiv 3).fmod 3).toNat 0)) (.int _ _) _ [(_, _)] _ _ n0 ⟨_, rfl⟩ ?okA (Int.le_refl _) (by omega) hE (List.forall_mem_cons.mpr ⟨fun e => Nat.ne_of_gt l9.2.1 e, List.forall_mem_nil _⟩) (List.forall_mem_cons.mpr ⟨of_allLt l9.2.2.2, List.forall_mem_nil _⟩) (.head _) _ _ (by k_asm) (lv_end1 nE' (by kst_in))
    exact hb
  · refine ⟨?_⟩
    have hb := vnum_ok (n.fdiv 5) h1 h2
    have hb9 : (vnum (n.fdiv 5) wd).natAbs < 10 ^ 30 := Nat.lt_trans hb (by decide)
    k_steps
    rename _ ∧ _ ∧ _ ∧ AllLt _ news => l9
    (rename News _ _ _ _ => nE')
    refine' hret _ (.int (List.getD [fitN (n.fdiv 5) wd, 2 ^ (wd - 1).toNat - 1 - (n.fdiv 5).fmod 3, (n.fdiv 5).fmod 3 - 2 ^ (wd - 1).toNat] (((n.fdiv 5).fdiv 3).fmod 3).toNat 0)) (.int _ _) _ [(_, _)] _ _ n0 ⟨_, rfl⟩ ?okB (Int.le_refl _) (by omega) hE (List.forall_mem_cons.mpr ⟨fun e => Nat.ne_of_gt l9.2.1 e, List.forall_mem_nil _⟩) (List.forall_mem_cons.mpr ⟨of_allLt l9.2.2.2, List.forall_mem_nil _⟩) (.head _) _ _ (by k_asm) (lv_end1 nE' (by kst_in))
    exact hb
  · refine ⟨?_⟩
    have hw := fmod4 (n.fdiv 5)
    with_unfolding_all refine' wl_cut (σ := TC) (fun c => (c.th, instObj c.C c.dth) :: (c.dth, dictOf c.es c.n) :: (dH, dictOf c.eh c.nh) :: (c.ex ++ (H, instObj 267 dH) :: news)) (fun c => [(Str.ofString "thing", .ref c.th), (Str.ofString "n", .int (n.fdiv 5) c.t1), (Str.ofString "which", .int ((n.fdiv 5).fmod 4) c.t2)]) (fun c => ThC news c.ex H dH c.th c.dth c.C ((n.fdiv 5).fmod 4).toNat c.nm n0 c.es c.eh) (by assumption) ?s1 ?s2
    case s1 =>
      k_steps
      · (rename News _ _ _ _ => nE'); refine' cut_end (⟨_, _, _, _, _, _, _, n0 + 1, [], _, _⟩ : TC) (by assumption) nE' ?hn1 ?hk1 ⟨?hp1⟩
        case hk1 => kst_all
        case hn1 => kst_in
        case hp1 =>
          dsimp only
          exact ⟨by rw [hi9]; rfl, by assumption, by assumption, by omega, by omega, fun _ => by assumption, fun h9 => absurd h9 (by rw [hi9]; decide), by assumption, by assumption, List.forall_mem_nil _, lt_sub (by assumption) (by k_extra "sub"), List.forall_mem_nil _⟩
      · (rename News _ _ _ _ => nE'); refine' cut_end (⟨_, _, _, _, _, _, _, n0 + 1 + 1, [], _, _⟩ : TC) (by assumption) nE' ?hn2 ?hk2 ⟨?hp2⟩
        case hk2 => kst_all
        case hn2 => kst_in
        case hp2 =>
          dsimp only
          exact ⟨by rw [hi9]; rfl, by assumption, by assumption, by omega, by omega, fun h9 => absurd h9 (by rw [hi9]; decide), fun h9 => absurd h9 (by rw [hi9]; decide), by assumption, by assumption, List.forall_mem_nil _, lt_sub (by assumption) (by k_extra "sub"), List.forall_mem_nil _⟩
      · (rename News _ _ _ _ => nE'); refine' cut_end (⟨_, _, _, _, _, _, _, n0 + 1 + 1 + 1, [], _, _⟩ : TC) (by assumption) nE' ?hn3 ?hk3 ⟨?hp3⟩
        case hk3 => kst_all
        case hn3 => kst_in
        case hp3 =>
          dsimp only
          exact ⟨by rw [hi9]; rfl, by assumption, by assumption, by omega, by omega, fun h9 => absurd h9 (by rw [hi9]; decide), fun h9 => absurd h9 (by rw [hi9]; decide), by assumption, by assumption, List.forall_mem_nil _, lt_sub (by assumption) (by k_extra "sub"), List.forall_mem_nil _⟩
      · (rename News _ _ _ _ => nE'); refine' cut_end (⟨_, _, _, _, _, _, _, n0 + 1 + 1 + 1 + 1 + 1, [(?r3, instObj 204 ?d3), (?d3, dictOf ?e3 ?n3)], _, _⟩ : TC) (by assumption) nE' ?hn5 ?hk5 ⟨?hp5⟩
        case hk5 => kst_all
        case hn5 => kst_in
        case hp5 =>
          dsimp only
          rename ∀ (p : Addr × Obj), p ∈ _ → p.1 < _ => q9
          revert q9
          rename ∀ (p : Addr × Obj), p ∈ _ → p.1 < _ => q7
          intro q9
          refine ⟨by rw [hi9]; rfl, by assumption, by assumption, by omega, by omega, fun h9 => absurd h9 (by rw [hi9]; decide), fun _ => ⟨_, _, _, _, by assumption, .head _, .tail _ (.head _)⟩, by assumption, by assumption, List.forall_mem_cons.mpr ⟨⟨by dsimp only; omega, q9 _ (.head _)⟩, List.forall_mem_cons.mpr ⟨⟨by dsimp only; omega, q9 _ (.tail _ (.head _))⟩, List.forall_mem_nil _⟩⟩, lt_sub q9 (by k_extra "sub"), ?a5⟩
          have hdr := lt_sub (l' := news) q7 (by k_extra "sub")
          exact List.forall_mem_cons.mpr ⟨fun q hq => Nat.lt_trans (hdr q hq) (by dsimp only; omega), List.forall_mem_cons.mpr ⟨fun q hq => hdr q hq, List.forall_mem_nil _⟩⟩
    case s2 =>
      rintro ⟨th, dth, C, es, n2, eh2, nh2, nm, ex, t1, t2⟩ u2 hh2 tkk2 p F1 N1
      dsimp only at p F1 N1
      obtain ⟨rfl, pe, ph, lo, hi, v0, v3, a1, a2, a3, a4, a5⟩ := p
      have hkd : ((n.fdiv 5).fmod 4).toNat < 4 := by omega
      obtain ⟨⟨tn5, gn⟩, gb, gl⟩ := id pe
      have hall : ∀ p ∈ (dH, dictOf eh2 nh2) :: (ex ++ (H, instObj 267 dH) :: news), p.1 ≠ dth := List.forall_mem_cons.mpr ⟨Nat.ne_of_lt a1, fun p hp => Nat.ne_of_lt ((List.mem_append.mp hp).elim (fun q => (a3 p q).2) (a4 p))⟩
      k_steps
      refine ⟨?_⟩
      with_unfolding_all refine' wl_while (σ := Int × Tok × Str × Tok) (fun _ => (th, instObj (clsOf ((n.fdiv 5).fmod 4).toNat) dth) :: (dth, dictOf es n2) :: (dH, dictOf eh2 nh2) :: (ex ++ (H, instObj 267 dH) :: news)) (fun c => [(Str.ofString "left", .int c.1 c.2.1), (Str.ofString "figures", .str c.2.2.1 c.2.2.2), (Str.ofString "thing", .ref th), (Str.ofString "n", .int (n.fdiv 5) t1), (Str.ofString "which", .int ((n.fdiv 5).fmod 4) t2)]) (fun c => 0 ≤ c.1 ∧ c.2.2.1.length ≤ 20 ∧ hexs nm.toNat = hx0 c.1.toNat ++ lst c.2.2.1) (fun c => c.1 ≤ 0) (fun c => c.1.toNat) (⟨_, _, _, _⟩) (by assumption) (by assumption) (by kst_in) (by kst_all) ?start ?turn ?done
      case start => exact ⟨by omega, by show (Str.ofString "").length ≤ 20; decide, hy_start (by omega)⟩
      case turn =>
        rintro ⟨k, tk, x, tx⟩ u hh tkk ⟨p1, p3, p4⟩ F1 N1
        dsimp only at p1 p3 p4 F1 N1
        k_steps
        · have hk : 0 < k := by assumption
          have e := hy_step hk p4
          exact ⟨⟨⟨by dsimp only; rw [Int.fdiv_eq_ediv_of_nonneg _ (by decide)]; omega, hx_len (by omega) (by omega) e, e⟩, by dsimp only; rw [Int.fdiv_eq_ediv_of_nonneg _ (by decide)]; omega⟩⟩
        · exact ⟨by dsimp only; omega⟩
      case done =>
        rintro ⟨k, tk, x, tx⟩ u hh tkk ⟨p1, p3, p4⟩ p5 F1 N1
        dsimp only at p1 p3 p4 p5 F1 N1
        obtain rfl := hy_end p1 p5 p4
        k_steps
        · rename getL (Str.ofString "target") _ = _ => q7
          rename ∀ (p : Addr × Obj), p ∈ _ → p.1 < _ => q9
          (rename News _ _ _ _ => nE')
          rw [rt_no hkd, rt_yes] at nE'
          obtain ⟨ex', nF, f1, f2, f3, f4⟩ := lv_end nE' (by omega) q9 (by assumption) a1 a2 a3 a5 (fun q hq => Nat.lt_trans (q9 q (.tail _ (.tail _ (.tail _ (List.mem_append_right _ (.tail _ hq)))))) (by omega)) a4 q7 ⟨_, gn⟩ (bl := true) ⟨_, by assumption⟩ v0 v3 (by assumption)
          exact hret _ _ _ _ ex' _ _ _ f1 ⟨hkd, by omega, by omega⟩ (by omega) (by omega) ph f2 f4 f3 _ _ (by k_asm) nF
        · rename getL (Str.ofString "target") _ = _ => q7
          rename ∀ (p : Addr × Obj), p ∈ _ → p.1 < _ => q9
          (rename News _ _ _ _ => nE')
          rw [rt_no hkd] at nE'
          obtain ⟨ex', nF, f1, f2, f3, f4⟩ := lv_end nE' (by omega) q9 (by assumption) a1 a2 a3 a5 (fun q hq => Nat.lt_trans (q9 q (.tail _ (.tail _ (.tail _ (List.mem_append_right _ (.tail _ hq)))))) (by omega)) a4 q7 ⟨_, gn⟩ (bl := false) ⟨0, gb⟩ v0 v3 (fun _ _ => rfl)
          exact hret _ _ _ _ ex' _ _ _ f1 ⟨hkd, by omega, by omega⟩ (by omega) (by omega) ph f2 f4 f3 _ _ (by k_asm) nF

end Mine
end
section
namespace Mine
section
variable {prog : Program} {w : World} {A : Around} {E : Value → Shared → Prop} {Q : Flow → Shared → Prop} {s : Shared} {env : Env} {h₀ : Heap} {x : Str} {body : List Stmt}
theorem fl_rangeG {σ : Type} {r : Addr} {a₀ b₀ : Int} {t₀ u₀ v₀ : Tok} {m₀ : Str → Option Value} {led₀ : Led} (Ld : σ → Led) (ps : σ → List (Str × Value)) (P : Nat → σ → Prop) (c₀ : σ) (n : Nat)
    (hh : A.handled = none) (hr : IsRange s.heap r a₀ b₀ 1 t₀ u₀ v₀) (ha : a₀ = 0) (hb : b₀ = (n : Int)) (hn : n < 2 ^ 60) (F : Fr h₀ env.locals s.heap m₀) (N : News h₀ env.locals s.heap led₀) (hs : ∀ p ∈ Ld c₀, p ∈ led₀) (hk : ∀ p ∈ ps c₀, m₀ p.1 = some p.2) (hp : P 0 c₀)
    (turn : ∀ (i : Nat) t (c : σ) (u : Str → Option Value) h tk own wr, i < n → P i c → (∀ p ∈ Ld c, p.1 ∉ wr) → (∀ p ∈ own, p.1 ∈ wr) → Fr h₀ env.locals h (fun y => if y = x then some (.int (i : Int) t) else kstB u (ps c) y) → News h₀ env.locals h (Ld c ++ own) →
      wpAny (model prog w) A (execs body env) (FlPost h₀ env.locals s own wr Ld ps (P (i + 1)) Q) E { s with heap := h, toks := tk })
    (done : ∀ (c : σ) (u : Str → Option Value) h tk, P n c → Fr h₀ env.locals h (kstB u (ps c)) → News h₀ env.locals h (Ld c) → Q .next { s with heap := h, toks := tk }) :
    wpAny (model prog w) A (pyIter (.ref r)) (fun it s₂ => LoopAtV prog w A h₀ env x body Q E it s₂) E s := by
  subst ha hb
  have hsmall : Builtin.Range.small 0 (n : Int) 1 = true := small_one (by omega) (by omega) (by omega) (by omega)
  have hsz : Builtin.Range.rangeSize 0 (n : Int) 1 = (n : Int) := by
    unfold Builtin.Range.rangeSize; simp; omega
  refine wpAny_pyIter_range hr hsmall ?_
  have N1 : News h₀ env.locals s.heap (Ld c₀) := kst_newsOf N hs
  have W : Walks prog w A s.heap.objs.size [s.heap.objs.size] [s.heap.objs.size] n (fun i v => i < n ∧ ∃ t, v = .int (0 + i * 1) t)
      (fun i h => IsRangeIter h s.heap.objs.size (0 + (i : Nat) * 1) ((n : Int) - (i : Nat)) 1) := (Walks.range hh _ 0 1 n).bound
  refine fl_gen Ld ps P c₀ W ?_ ?_ ?_ (by show IsRangeIter _ _ _ _ _; rw [hsz]; simpa using Heap.get?_push_size _ rfl) (F.push _) (fun p hp => ⟨Heap.get?_push_of_some _ (N1 p hp).1, (N1 p hp).2⟩) hk hp ?_ ?_
  · intro hm
    exact absurd F.ns.lt ((List.mem_singleton.mp hm) ▸ Nat.lt_irrefl _)
  · intro b' hb
    rw [List.mem_singleton.mp hb]
    exact next_is_new F
  · intro p hp hI
    exact absurd (Heap.lt_size (N1 p hp).1) ((List.mem_singleton.mp hI) ▸ Nat.lt_irrefl _)
  · rintro i v c u h tk own hi ⟨_, t, rfl⟩ hpc hoff hown _ F₁ N₁
    rw [show (0 : Int) + (i : Int) * 1 = i by omega] at F₁
    exact turn i t c u h tk own _ hi hpc hoff hown F₁ N₁
  · exact fun c u h tk => done c u h tk
end
section
open LCg
variable {prog : Program} {w : World} {A : Around} {s : Shared} {h₀ : Heap} {L : Addr} {m : Str → Option Value} {env : Env}
theorem comp_ind {σ : Type} {elt : Expr} {x : Str} {scope : Scope} {cl : List (Str × Addr)} {S : Led → Prop} {Pv : Nat → Value → Prop} {Fin : List Value → Led → Prop} {n : Nat} (Ld : σ → Led) (I : Nat → List Value → σ → Prop)
    (turn : ∀ i v ys c J oI C oC D m₂ h tk (E' : Value → Shared → Prop), i < n → Pv i v → I i ys c → NsObj oC m₂ → m₂ x = some v → Fr h₀ L h m → News h₀ L h ((J, oI) :: (C, oC) :: (D, LCg.lst ys) :: Ld c) → Off3 J C D (Ld c) → ((@Ne Nat J C) ∧ (@Ne Nat J D) ∧ (@Ne Nat C D)) →
      wpAny (model prog w) A (eval elt (compEnvC scope cl C env)) (CompEnd h₀ L m { s with heap := h, toks := tk } J oI C oC D (LCg.lst ys) S (fun y news' => ∃ c', news' = Ld c' ∧ I (i + 1) (ys ++ [y]) c')) E' { s with heap := h, toks := tk })
    (fin : ∀ ys c, I n ys c → Fin ys (Ld c)) : ∀ (k i : Nat) (ys : List Value) (c : σ), i + k = n → I i ys c → CompRest prog w A h₀ L m env elt x scope cl s S Pv Fin k i ys (Ld c)
  | 0, i, ys, c, e, hI => by
    rw [Nat.add_zero] at e; subst e
    exact fin ys c hI
  | k + 1, i, ys, c, e, hI => by
    refine CompRest.succ fun v J oI C oC D m₂ h tk E' hv hC hx F N off ne => ?_
    refine wpAny_mono (turn i v ys c J oI C oC D m₂ h tk E' (by omega) hv hI hC hx F N off ne) (fun y s' p => ?_) fun _ _ e => e
    obtain ⟨h', tk', news', e1, F', N', off', hS, c', rfl, hI'⟩ := p
    exact ⟨h', tk', _, e1, F', N', off', hS, comp_ind Ld I turn fin k (i + 1) (ys ++ [y]) c' (by omega) hI'⟩
end
end Mine
end
section
namespace Mine
theorem reg_B4 (h : PySem.Challenge.rw_nz0185_01 = PySem.Challenge.rw_nz0185_01) (g : ∀ w : World, Mine.mk.heap_1 w.params = Mine.mk.heap_1 w.params) : PySem.Challenge.rw_nz0185_01 = PySem.Challenge.rw_nz0185_01 ∧ ∀ w : World, Mine.mk.heap_1 w.params = Mine.mk.heap_1 w.params := by
  k_fill
  k_with_none
  k_with "enter" => (refine' enterK ?k1 ?k2 ?k3 ?k4 ?k5 ?kA ?kF ?kK ?k6 ?k7 ?k8 ?k9 ?kb ?kB ?_ ?c2 ?c3 ?c4 ?c5; (case kA => exact rfl); (case kF => exact rfl); (case kK => assumption); (case k1 => k_asm); (case k2 => k_asm); (case k3 => k_asm); (case k4 => k_asm); (case k5 => k_asm); (case k6 => k_is); (case k7 => k_is); (case k8 => ktr_room); (case k9 => exact BindsTo.of_eq rfl); (case kb => exact rfl); (case c5 => decide); (case kB => exact rfl); (case c2 => exact rfl); (case c3 => exact rfl); (case c4 => exact rfl); k_whole; intro g' L' h' tk' FG' F' N' B' X' T'; dsimp only [bindsOf, List.map, List.zip, List.zipWith, List.reverse, List.reverseAux] at F'; (try dsimp only); (try k_lift B'); (try k_fold))
  k_with "WlPost" => (dsimp only [WlPost])
  k_with "CutPost" => (dsimp only [CutPost])
  k_with "WlExit" => ((rename News _ _ _ _ => nE'); (refine' wl_exit (by assumption) nE' (by first | (with_reducible exact fun _ h9 => h9) | kst_in) (by kst_all) ?_))
  k_with "WlEnd" => ((rename News _ _ _ _ => nE'); first
  | (refine' wl_end ⟨⟩ (by assumption) nE' (by first | (with_reducible exact fun _ h9 => h9) | kst_in) (by kst_all) ?_)
  | (refine' wl_end ⟨_, _⟩ (by assumption) nE' (by first | (with_reducible exact fun _ h9 => h9) | kst_in) (by kst_all) ?_)
  | (refine' wl_end ⟨_, _, _⟩ (by assumption) nE' (by first | (with_reducible exact fun _ h9 => h9) | kst_in) (by kst_all) ?_)
  | (refine' wl_end ⟨_, _, _, _⟩ (by assumption) nE' (by first | (with_reducible exact fun _ h9 => h9) | kst_in) (by kst_all) ?_)
  | (refine' wl_end ⟨_, _, _, _, _⟩ (by assumption) nE' (by first | (with_reducible exact fun _ h9 => h9) | kst_in) (by kst_all) ?_)
  | (refine' wl_end ⟨_, _, _, _, _, _⟩ (by assumption) nE' (by first | (with_reducible exact fun _ h9 => h9) | kst_in) (by kst_all) ?_))
  k_with "CutEnd" => ((rename News _ _ _ _ => nE'); first
  | (refine' cut_end ⟨⟩ (by assumption) nE' (by first | (with_reducible exact fun _ h9 => h9) | kst_in) (by kst_all) ?_)
  | (refine' cut_end ⟨_, _⟩ (by assumption) nE' (by first | (with_reducible exact fun _ h9 => h9) | kst_in) (by kst_all) ?_)
  | (refine' cut_end ⟨_, _, _⟩ (by assumption) nE' (by first | (with_reducible exact fun _ h9 => h9) | kst_in) (by kst_all) ?_)
  | (refine' cut_end ⟨_, _, _, _⟩ (by assumption) nE' (by first | (with_reducible exact fun _ h9 => h9) | kst_in) (by kst_all) ?_)
  | (refine' cut_end ⟨_, _, _, _, _⟩ (by assumption) nE' (by first | (with_reducible exact fun _ h9 => h9) | kst_in) (by kst_all) ?_)
  | (refine' cut_end ⟨_, _, _, _, _, _⟩ (by assumption) nE' (by first | (with_reducible exact fun _ h9 => h9) | kst_in) (by kst_all) ?_))
  k_with "led" => (first | k_asm | (refine' kst_newsOf (by assumption) (by kst_in)))
  k_with "end" => (first | (refine' retI ?_ (hret _ _ _ (by k_asm) (by k_extra "led"))) | (refine' retS ?_ (hret _ _ _ (by k_asm) (by k_extra "led"))) | (refine' retB ?_ (hret _ _ (by k_asm) (by k_extra "led"))))
  k_with "exec While BoolOp cons nil" => refine Hold.out ?_
  k_with "exec While Compare cons nil" => refine Hold.out ?_
  k_with "exec If" => ((rename Mark => hm9); clear hm9; refine Hold.out ?_)
  k_with "sub" => (first | assumption | exact fun _ h9 => h9 | (intro p9 h9; (try dsimp only at h9); first | exact h9 | (simp only [List.mem_cons, List.mem_append, List.cons_append, List.nil_append] at h9 ⊢; first | (simp only [h9, true_or, or_true]; done) | grind)))
  k_with "FlPost" => (dsimp only [FlPost])
  k_with "FlEnd" => ((rename News _ _ _ _ => nE'); first
  | (refine' fl_end ⟨⟩ (by assumption) nE' (by k_extra "sub") (by k_extra "sub") (by kst_all) (by first | exact ⟨by assumption⟩ | skip) ?_)
  | (refine' fl_end ⟨_, _⟩ (by assumption) nE' (by k_extra "sub") (by k_extra "sub") (by kst_all) (by first | exact ⟨by assumption⟩ | skip) ?_)
  | (refine' fl_end ⟨_, _, _⟩ (by assumption) nE' (by k_extra "sub") (by k_extra "sub") (by kst_all) (by first | exact ⟨by assumption⟩ | skip) ?_)
  | (refine' fl_end ⟨_, _, _, _⟩ (by assumption) nE' (by k_extra "sub") (by k_extra "sub") (by kst_all) (by first | exact ⟨by assumption⟩ | skip) ?_))
  k_with "pyIter str" => ((with_reducible show wpAny _ _ (pyIter _) (fun it s₂ => LoopAtV _ _ _ _ _ _ _ _ _ it s₂) _ _); refine Hold.out ?_)
  k_with "pyIter ref" => ((with_reducible show wpAny _ _ (pyIter _) (fun it s₂ => LoopAtV _ _ _ _ _ _ _ _ _ it s₂) _ _); refine Hold.out ?_)
  k_with "call ref" => (k_dflt (refine' enterQ (by exact rfl) (by exact rfl) (by first | exact rfl | assumption) (by k_asm) (by k_asm) (by k_asm) (by k_asm) (by k_asm) (by k_is) (by k_is) (by ktr_room) (by exact BindsTo.of_eq rfl) (by exact rfl) (by exact rfl) (by exact rfl) (by exact rfl) (by exact rfl) (by decide) ?_); k_whole; intro g' L' h' tk' FG' F' N' B' X' T'; dsimp only [bindsOf, List.map, List.zip, List.zipWith, List.reverse, List.reverseAux] at F'; (try dsimp only); (try k_lift B'); (try k_fold))
  k_with "pre" => first | assumption | omega | exact IsV.mono (by assumption) (by k_extra "sub") | exact LimAt.mono (by assumption) (by k_extra "sub") | exact ThingAt.mono (by assumption) (by k_extra "sub") | exact RefAt.mono (by assumption) (by k_extra "sub")
  k_with "getAttr ref" => (k_dflt (refine' get_own (by k_asm) (by k_asm) (by k_inst) (by k_is) (by k_is) (by k_is) (by k_is) (by assumption) (by k_handed) ?_); k_whole)
  k_with "getAttr ref" => ((with_reducible show wpAny _ _ (getAttr (Value.ref _) (PySem.Str.ofString "number") _) _ _ _); k_dflt (refine' kd_num (by k_asm) (by k_asm) (by k_asm) (by k_mem) (by k_mem) (by assumption) (by assumption) (by k_handed) ?_); k_whole)
  k_with "getAttr ref" => ((with_reducible show wpAny _ _ (getAttr (Value.ref _) (PySem.Str.ofString "blessed") _) _ _ _); k_dflt (refine' kd_bl (by k_asm) (by k_asm) (by k_asm) (by k_mem) (by k_mem) (by assumption) (by assumption) (by k_handed) ?_); k_whole)
  exact ⟨h, g⟩
section
open Builtin AutoSeq1
variable {prog : Program} {w : World} {A : Around} {E : Value → Shared → Prop} {s : Shared} {K : Frag} {x C L : Addr} {h₀ : Heap} {m : Str → Option Value} {dx : Addr} {od : Obj} {news : Led}
theorem ifBound_slot {B id : String} {name : Str} {od : Option Obj} {ox : Obj} {args : List Value} {Q : Option Value → Shared → Prop} (X : K.In s.heap) (I : InstAt s.heap x ox C od) (hs : findIn K (.ref C) name = some (some (.builtin id))) (S : Slot B name id)
    (hcall : wpAny (model prog w) A (call (.builtin id) (.ref x :: args)) (fun v => Q (some v)) E s) : wpAny (model prog w) A (callSpecialIfBound? (.ref x) name args) Q E s := by
  simp only [callSpecialIfBound?, bindSpecialIfBound?]
  refine wpAny_holding (wpAny_bind (wpAny_bind (wpAny_bind (I.type.here ((looks_findIn X hs).here ?_)))))
  simp only [S.bind]
  refine wpAny_bind (wpAny_askSetting (wpAny_ite ?_))
  have fin : wpAny (model prog w) A (call (.builtin id) ([.ref x] ++ args) >>= fun v => pure (some v)) Q E s := wpAny_bind (wpAny_mono hcall (fun v s' h' => wpAny_pure h') fun _ _ h' => h')
  split
  · exact wpAny_bind (wpAny_pure (wpAny_pure fin))
  · exact wpAny_tryCatch (wpAny_bind (wpAny_pure (wpAny_pure fin)))
theorem obj_eq_declines {v : Value} {ox : Obj} {Q : Value → Shared → Prop} (X : K.In s.heap) (I : InstAt s.heap x ox C (some od)) (hm : mroIn K C (.type "object") = some true) (hv : isSame (.ref x) v = pure false) (h : Q .notImplemented s) :
    wpAny (model prog w) A (call (.builtin "object.__eq__") [.ref x, v]) Q E s := by
  have t : Looks (model prog w) s.heap (isInstance (.ref x) (.type "object")) true := I.type.andThen (looks_mroIn X hm)
  refine wpAny_call (codeAny_call_builtin F.cmp_object.eq.plain F.cmpEntry_eq (@check_slot (model prog w) _ _ _ "object.__eq__" "object" "__eq__" (.ref x) [v] [] _ F.cmpKind_eq F.cmpSplit_eq t (F.cmpArgs_eq _ _) ?_))
  unfold Builtin.«object.__eq__»
  repeat (first | with_reducible refine wpAny_of_eq hv ?_ | wp_step)
  exact h
theorem obj_ne_declines {v : Value} {ox : Obj} {Q : Value → Shared → Prop} (X : K.In s.heap) (I : InstAt s.heap x ox C (some od)) (hm : mroIn K C (.type "object") = some true) (he : findIn K (.ref C) "__eq__" = some (some (.builtin "object.__eq__"))) (hv : isSame (.ref x) v = pure false) (hu : A.units + 1 < cLine) (h : Q .notImplemented s) :
    wpAny (model prog w) A (call (.builtin "object.__ne__") [.ref x, v]) Q E s := by
  have t : Looks (model prog w) s.heap (isInstance (.ref x) (.type "object")) true := I.type.andThen (looks_mroIn X hm)
  refine wpAny_call (codeAny_call_builtin F.cmp_object.ne.plain F.cmpEntry_ne (@check_slot (model prog w) _ _ _ "object.__ne__" "object" "__ne__" (.ref x) [v] [] _ F.cmpKind_ne F.cmpSplit_ne t (F.cmpArgs_ne _ _) ?_))
  unfold Builtin.«object.__ne__»
  repeat (first | with_reducible refine wpAny_cRoomFor hu ?_ | with_reducible refine ifBound_slot X I he F.cmp_object.eq (obj_eq_declines X I hm hv ?_) | wp_step)
  exact h
theorem try_declines {v b : Value} {T id : String} {name : Str} {Q : Option Value → Shared → Prop} (hT : s.TypeIs v T) (h : Slot T name id) (hc : ∀ Q' : Value → Shared → Prop, Q' .notImplemented s → wpAny (model prog w) A (call (.builtin id) [v, b]) Q' E s) (hq : Q none s) :
    wpAny (model prog w) A (tryCompare v name b) Q E s := wpAny_tryCompare_declines hT h (hc _ ⟨rfl, hq⟩)
theorem try_obj {v : Value} {ox : Obj} {id B : String} {name : Str} {Q : Option Value → Shared → Prop} (X : K.In s.heap) (I : InstAt s.heap x ox C (some od)) (hs : findIn K (.ref C) name = some (some (.builtin id))) (S : Slot B name id)
    (hc : ∀ Q' : Value → Shared → Prop, Q' .notImplemented s → wpAny (model prog w) A (call (.builtin id) [.ref x, v]) Q' E s) (hq : Q none s) : wpAny (model prog w) A (tryCompare (.ref x) name v) Q E s := by
  unfold tryCompare
  exact wpAny_bind (ifBound_slot X I hs S (hc _ (wpAny_pure hq)))
theorem rc_decl {op : CmpOp} {a b ta tb : Value} {f r : Str} {sy : String} {Q : Value → Shared → Prop} (hi : cmpInfo op = (sy, f, r)) (ho : op = .Eq ∨ op = .NotEq) (h1 : oneThing? op a b = none) (hu : A.units < cLine) (ha : Looks (model prog w) s.heap (typeOf a) ta) (hb : Looks (model prog w) s.heap (typeOf b) tb) (hne : (ta != tb) = true)
    (hs : Looks (model prog w) s.heap (isSubtype tb ta) false) (c1 : ∀ Q' : Option Value → Shared → Prop, Q' none s → wpAny (model prog w) A (tryCompare a f b) Q' E s) (c2 : ∀ Q' : Option Value → Shared → Prop, Q' none s → wpAny (model prog w) A (tryCompare b r a) Q' E s)
    (hk : isSame a b = pure false) (h : Q (.bool (op == .NotEq)) s) : wpAny (model prog w) A (richCompare op a b) Q E s := by
  unfold richCompare
  simp only [h1, hi]
  refine wpAny_holding (wpAny_bind (wpAny_cRoomFor hu ?_))
  refine wpAny_bind (ha.here (wpAny_bind (hb.here ?_)))
  simp only [hne, if_true]
  refine wpAny_bind (hs.here ?_)
  simp only [Bool.false_eq_true, if_false, Bool.not_false, if_true]
  refine wpAny_bind (m := tryCompare a _ b) (c1 _ ?_)
  refine wpAny_bind (m := tryCompare b _ a) (c2 _ ?_)
  rcases ho with rfl | rfl <;> exact wpAny_bind (wpAny_rule (wpAny_bind (wpAny_of_eq hk (wpAny_pure h))))
theorem str_ne_inst (b : Str) (u : Tok) (l : Addr) (c : Value) (dd : Option Addr) (sl : Array (Option Value)) :
    Meets (Builtin.«str.__ne__» ⟨[.str b u, .ref l], []⟩) (fun _ R s => s.heap.get? l = some { cls := c, dict := dd, data := .plain, slots := sl } ∧ R (.ok (.ret .notImplemented)) s) :=
  .of_wp fun prog w A R s h => by obtain ⟨hp, g, d, tk, os⟩ := s; obtain ⟨hl, h⟩ := h; wp_walk using wpAny_loadPart' hl, wpAny_load hl; exact ⟨_, rfl, h⟩
theorem int_ne_inst (b : Int) (u : Tok) (l : Addr) (c : Value) (dd : Option Addr) (sl : Array (Option Value)) :
    Meets (Builtin.«int.__ne__» ⟨[.int b u, .ref l], []⟩) (fun _ R s => s.heap.get? l = some { cls := c, dict := dd, data := .plain, slots := sl } ∧ R (.ok (.ret .notImplemented)) s) :=
  .of_wp fun prog w A R s h => by obtain ⟨hp, g, d, tk, os⟩ := s; obtain ⟨hl, h⟩ := h; wp_walk using wpAny_loadPart' hl, wpAny_load hl; exact ⟨_, rfl, h⟩
theorem str_eq_inst (b : Str) (u : Tok) (l : Addr) (c : Value) (dd : Option Addr) (sl : Array (Option Value)) :
    Meets (Builtin.«str.__eq__» ⟨[.str b u, .ref l], []⟩) (fun _ R s => s.heap.get? l = some { cls := c, dict := dd, data := .plain, slots := sl } ∧ R (.ok (.ret .notImplemented)) s) :=
  .of_wp fun prog w A R s h => by obtain ⟨hp, g, d, tk, os⟩ := s; obtain ⟨hl, h⟩ := h; wp_walk using wpAny_loadPart' hl, wpAny_load hl; exact ⟨_, rfl, h⟩
theorem int_eq_inst (b : Int) (u : Tok) (l : Addr) (c : Value) (dd : Option Addr) (sl : Array (Option Value)) :
    Meets (Builtin.«int.__eq__» ⟨[.int b u, .ref l], []⟩) (fun _ R s => s.heap.get? l = some { cls := c, dict := dd, data := .plain, slots := sl } ∧ R (.ok (.ret .notImplemented)) s) :=
  .of_wp fun prog w A R s h => by obtain ⟨hp, g, d, tk, os⟩ := s; obtain ⟨hl, h⟩ := h; wp_walk using wpAny_loadPart' hl, wpAny_load hl; exact ⟨_, rfl, h⟩
end

end Mine
end
section
namespace Mine
theorem reg_B5 (h : PySem.Challenge.rw_nz0185_01 = PySem.Challenge.rw_nz0185_01) (g : ∀ w : World, Mine.mk.heap_1 w.params = Mine.mk.heap_1 w.params) : PySem.Challenge.rw_nz0185_01 = PySem.Challenge.rw_nz0185_01 ∧ ∀ w : World, Mine.mk.heap_1 w.params = Mine.mk.heap_1 w.params := by
  k_fill
  k_with_none
  k_with "enter" => (refine' enterK ?k1 ?k2 ?k3 ?k4 ?k5 ?kA ?kF ?kK ?k6 ?k7 ?k8 ?k9 ?kb ?kB ?_ ?c2 ?c3 ?c4 ?c5; (case kA => exact rfl); (case kF => exact rfl); (case kK => assumption); (case k1 => k_asm); (case k2 => k_asm); (case k3 => k_asm); (case k4 => k_asm); (case k5 => k_asm); (case k6 => k_is); (case k7 => k_is); (case k8 => ktr_room); (case k9 => exact BindsTo.of_eq rfl); (case kb => exact rfl); (case c5 => decide); (case kB => exact rfl); (case c2 => exact rfl); (case c3 => exact rfl); (case c4 => exact rfl); k_whole; intro g' L' h' tk' FG' F' N' B' X' T'; dsimp only [bindsOf, List.map, List.zip, List.zipWith, List.reverse, List.reverseAux] at F'; (try dsimp only); (try k_lift B'); (try k_fold))
  k_with "WlPost" => (dsimp only [WlPost])
  k_with "CutPost" => (dsimp only [CutPost])
  k_with "WlExit" => ((rename News _ _ _ _ => nE'); (refine' wl_exit (by assumption) nE' (by first | (with_reducible exact fun _ h9 => h9) | kst_in) (by kst_all) ?_))
  k_with "WlEnd" => ((rename News _ _ _ _ => nE'); first
  | (refine' wl_end ⟨⟩ (by assumption) nE' (by first | (with_reducible exact fun _ h9 => h9) | kst_in) (by kst_all) ?_)
  | (refine' wl_end ⟨_, _⟩ (by assumption) nE' (by first | (with_reducible exact fun _ h9 => h9) | kst_in) (by kst_all) ?_)
  | (refine' wl_end ⟨_, _, _⟩ (by assumption) nE' (by first | (with_reducible exact fun _ h9 => h9) | kst_in) (by kst_all) ?_)
  | (refine' wl_end ⟨_, _, _, _⟩ (by assumption) nE' (by first | (with_reducible exact fun _ h9 => h9) | kst_in) (by kst_all) ?_)
  | (refine' wl_end ⟨_, _, _, _, _⟩ (by assumption) nE' (by first | (with_reducible exact fun _ h9 => h9) | kst_in) (by kst_all) ?_)
  | (refine' wl_end ⟨_, _, _, _, _, _⟩ (by assumption) nE' (by first | (with_reducible exact fun _ h9 => h9) | kst_in) (by kst_all) ?_))
  k_with "CutEnd" => ((rename News _ _ _ _ => nE'); first
  | (refine' cut_end ⟨⟩ (by assumption) nE' (by first | (with_reducible exact fun _ h9 => h9) | kst_in) (by kst_all) ?_)
  | (refine' cut_end ⟨_, _⟩ (by assumption) nE' (by first | (with_reducible exact fun _ h9 => h9) | kst_in) (by kst_all) ?_)
  | (refine' cut_end ⟨_, _, _⟩ (by assumption) nE' (by first | (with_reducible exact fun _ h9 => h9) | kst_in) (by kst_all) ?_)
  | (refine' cut_end ⟨_, _, _, _⟩ (by assumption) nE' (by first | (with_reducible exact fun _ h9 => h9) | kst_in) (by kst_all) ?_)
  | (refine' cut_end ⟨_, _, _, _, _⟩ (by assumption) nE' (by first | (with_reducible exact fun _ h9 => h9) | kst_in) (by kst_all) ?_)
  | (refine' cut_end ⟨_, _, _, _, _, _⟩ (by assumption) nE' (by first | (with_reducible exact fun _ h9 => h9) | kst_in) (by kst_all) ?_))
  k_with "led" => (first | k_asm | (refine' kst_newsOf (by assumption) (by kst_in)))
  k_with "end" => (first | (refine' retI ?_ (hret _ _ _ (by k_asm) (by k_extra "led"))) | (refine' retS ?_ (hret _ _ _ (by k_asm) (by k_extra "led"))) | (refine' retB ?_ (hret _ _ (by k_asm) (by k_extra "led"))))
  k_with "exec While BoolOp cons nil" => refine Hold.out ?_
  k_with "exec While Compare cons nil" => refine Hold.out ?_
  k_with "exec If" => ((rename Mark => hm9); clear hm9; refine Hold.out ?_)
  k_with "sub" => (first | assumption | exact fun _ h9 => h9 | (intro p9 h9; (try dsimp only at h9); first | exact h9 | (simp only [List.mem_cons, List.mem_append, List.cons_append, List.nil_append] at h9 ⊢; first | (simp only [h9, true_or, or_true]; done) | grind)))
  k_with "FlPost" => (dsimp only [FlPost])
  k_with "FlEnd" => ((rename News _ _ _ _ => nE'); first
  | (refine' fl_end ⟨⟩ (by assumption) nE' (by k_extra "sub") (by k_extra "sub") (by kst_all) (by first | exact ⟨by assumption⟩ | skip) ?_)
  | (refine' fl_end ⟨_, _⟩ (by assumption) nE' (by k_extra "sub") (by k_extra "sub") (by kst_all) (by first | exact ⟨by assumption⟩ | skip) ?_)
  | (refine' fl_end ⟨_, _, _⟩ (by assumption) nE' (by k_extra "sub") (by k_extra "sub") (by kst_all) (by first | exact ⟨by assumption⟩ | skip) ?_)
  | (refine' fl_end ⟨_, _, _, _⟩ (by assumption) nE' (by k_extra "sub") (by k_extra "sub") (by kst_all) (by first | exact ⟨by assumption⟩ | skip) ?_))
  k_with "pyIter str" => ((with_reducible show wpAny _ _ (pyIter _) (fun it s₂ => LoopAtV _ _ _ _ _ _ _ _ _ it s₂) _ _); refine Hold.out ?_)
  k_with "pyIter ref" => ((with_reducible show wpAny _ _ (pyIter _) (fun it s₂ => LoopAtV _ _ _ _ _ _ _ _ _ it s₂) _ _); refine Hold.out ?_)
  k_with "call ref" => (k_dflt (refine' enterQ (by exact rfl) (by exact rfl) (by first | exact rfl | assumption) (by k_asm) (by k_asm) (by k_asm) (by k_asm) (by k_asm) (by k_is) (by k_is) (by ktr_room) (by exact BindsTo.of_eq rfl) (by exact rfl) (by exact rfl) (by exact rfl) (by exact rfl) (by exact rfl) (by decide) ?_); k_whole; intro g' L' h' tk' FG' F' N' B' X' T'; dsimp only [bindsOf, List.map, List.zip, List.zipWith, List.reverse, List.reverseAux] at F'; (try dsimp only); (try k_lift B'); (try k_fold))
  k_with "pre" => first | assumption | omega | exact IsV.mono (by assumption) (by k_extra "sub") | exact LimAt.mono (by assumption) (by k_extra "sub") | exact ThingAt.mono (by assumption) (by k_extra "sub") | exact RefAt.mono (by assumption) (by k_extra "sub")
  k_with "getAttr ref" => (k_dflt (refine' get_own (by k_asm) (by k_asm) (by k_inst) (by k_is) (by k_is) (by k_is) (by k_is) (by assumption) (by k_handed) ?_); k_whole)
  k_with "getAttr ref" => ((with_reducible show wpAny _ _ (getAttr (Value.ref _) (PySem.Str.ofString "number") _) _ _ _); k_dflt (refine' kd_num (by k_asm) (by k_asm) (by k_asm) (by k_mem) (by k_mem) (by assumption) (by assumption) (by k_handed) ?_); k_whole)
  k_with "getAttr ref" => ((with_reducible show wpAny _ _ (getAttr (Value.ref _) (PySem.Str.ofString "blessed") _) _ _ _); k_dflt (refine' kd_bl (by k_asm) (by k_asm) (by k_asm) (by k_mem) (by k_mem) (by assumption) (by assumption) (by k_handed) ?_); k_whole)
  exact ⟨h, g⟩
section
open SeqAt PyProof.V
variable {w : World} {prog : Program} {w' : World} {A : Around} {E : Value → Shared → Prop} {s : Shared} {x L : Addr} {h₀ : Heap} {m : Str → Option Value} {dx : Addr} {od : Obj} {news : Led}
theorem ref_mro : mroIn (Mine.mk.heap_1 w.params) 204 (.type "object") = some true := by k_is
theorem ref_eq : findIn (Mine.mk.heap_1 w.params) (.ref 204) "__eq__" = some (some (.builtin "object.__eq__")) := by k_is
theorem ref_ne : findIn (Mine.mk.heap_1 w.params) (.ref 204) "__ne__" = some (some (.builtin "object.__ne__")) := by k_is
theorem ref_ne_str {b : Str} {u : Tok} {Q : Value → Shared → Prop} (X : (Mine.mk.heap_1 w.params).In s.heap) (I : InstAt s.heap x (instObj 204 dx) 204 (some od)) (hu : A.units + 1 < cLine) (h : Q (.bool true) s) :
    wpAny (model prog w') A (compareOp .NotEq (.ref x) (.str b u)) Q E s :=
  rc_decl (op := .NotEq) rfl (.inr rfl) rfl (Nat.lt_of_succ_lt hu) I.type (Looks.of_pure rfl) rfl (looks_subIn X (by k_is))
    (fun _ hq => try_obj X I ref_ne F.cmp_object.ne (fun _ hq => obj_ne_declines X I ref_mro ref_eq rfl hu hq) hq)
    (fun _ hq => try_declines (typeIs_str s b u) F.slot_str_ne (fun _ hq => call_meets F.slot_str_ne (typeIs_str s b u) F.entry_str_ne (F.args_str_ne_2 _ _) (str_ne_inst b u x _ _ _) ⟨I.at_, hq⟩) hq) rfl h
theorem ref_ne_int {b : Int} {u : Tok} {Q : Value → Shared → Prop} (X : (Mine.mk.heap_1 w.params).In s.heap) (I : InstAt s.heap x (instObj 204 dx) 204 (some od)) (hu : A.units + 1 < cLine) (h : Q (.bool true) s) :
    wpAny (model prog w') A (compareOp .NotEq (.ref x) (.int b u)) Q E s :=
  rc_decl (op := .NotEq) rfl (.inr rfl) rfl (Nat.lt_of_succ_lt hu) I.type (Looks.of_pure rfl) rfl (looks_subIn X (by k_is))
    (fun _ hq => try_obj X I ref_ne F.cmp_object.ne (fun _ hq => obj_ne_declines X I ref_mro ref_eq rfl hu hq) hq)
    (fun _ hq => try_declines (typeIs_int s b u) F.slot_int_ne (fun _ hq => call_meets F.slot_int_ne (typeIs_int s b u) F.entry_int_ne (F.args_int_ne_2 _ _) (int_ne_inst b u x _ _ _) ⟨I.at_, hq⟩) hq) rfl h
theorem eqAt_of_rc {a : Value} (hne : a ≠ .ref x) (hf : ∀ b t, a ≠ .float b t) (h : ∀ (prog : Program) (w' : World) (E Q : Value → Shared → Prop), Q (.bool false) s → wpAny (model prog w') A (richCompare .Eq a (.ref x)) Q E s) : EqAt A s a (.ref x) false := fun prog w E Q hq => by
  unfold eqBool
  refine wpAny_holding ?_
  refine wpAny_ite_split (fun hab => absurd (eq_of_beq hab) hne) (fun _ => ?_)
  cases a with
  | float b t => exact absurd rfl (hf b t)
  | _ => exact wpAny_bind (h prog w E _ (wpAny_truthy_bool hq))
theorem eqAt_str {b : Str} {u : Tok} (X : (Mine.mk.heap_1 w.params).In s.heap) (I : InstAt s.heap x (instObj 204 dx) 204 (some od)) (hu : A.units < cLine) : EqAt A s (.str b u) (.ref x) false := eqAt_of_rc nofun nofun fun prog w' E Q h =>
  rc_decl (op := .Eq) rfl (.inl rfl) rfl hu (Looks.of_pure rfl) I.type rfl (looks_subIn X (by k_is))
    (fun _ hq => try_declines (typeIs_str s b u) F.slot_str_eq (fun _ hq => call_meets F.slot_str_eq (typeIs_str s b u) F.entry_str_eq (F.args_str_eq_2 _ _) (str_eq_inst b u x _ _ _) ⟨I.at_, hq⟩) hq)
    (fun _ hq => try_obj X I ref_eq F.cmp_object.eq (fun _ hq => obj_eq_declines X I ref_mro rfl hq) hq) rfl h
theorem eqAt_int {b : Int} {u : Tok} (X : (Mine.mk.heap_1 w.params).In s.heap) (I : InstAt s.heap x (instObj 204 dx) 204 (some od)) (hu : A.units < cLine) : EqAt A s (.int b u) (.ref x) false := eqAt_of_rc nofun nofun fun prog w' E Q h =>
  rc_decl (op := .Eq) rfl (.inl rfl) rfl hu (Looks.of_pure rfl) I.type rfl (looks_subIn X (by k_is))
    (fun _ hq => try_declines (typeIs_int s b u) F.slot_int_eq (fun _ hq => call_meets F.slot_int_eq (typeIs_int s b u) F.entry_int_eq (F.args_int_eq_2 _ _) (int_eq_inst b u x _ _ _) ⟨I.at_, hq⟩) hq)
    (fun _ hq => try_obj X I ref_eq F.cmp_object.eq (fun _ hq => obj_eq_declines X I ref_mro rfl hq) hq) rfl h
theorem eqAt_none (X : (Mine.mk.heap_1 w.params).In s.heap) (I : InstAt s.heap x (instObj 204 dx) 204 (some od)) (hu : A.units < cLine) : EqAt A s .none (.ref x) false := eqAt_of_rc nofun nofun fun prog w' E Q h =>
  rc_decl (op := .Eq) rfl (.inl rfl) rfl hu (Looks.of_pure rfl) I.type rfl (looks_subIn X (by k_is))
    (fun _ hq => try_declines (v := .none) (T := "NoneType") rfl F.slot_NoneType_eq (fun _ hq => call_gives F.slot_NoneType_eq rfl F.entry_NoneType_eq (F.args_NoneType_eq_2 _ _) (NoneType___eq___none_ref_0 x) hq) hq)
    (fun _ hq => try_obj X I ref_eq F.cmp_object.eq (fun _ hq => obj_eq_declines X I ref_mro rfl hq) hq) rfl h
theorem ref_notIn {a : Addr} {i0 i1 i2 i3 : Tok} {Q : Value → Shared → Prop} (hl : s.heap.IsList a #[.none, .str (Str.ofString "") i0, .str (Str.ofString "0") i1, .int 0 i2]) (X : (Mine.mk.heap_1 w.params).In s.heap) (I : InstAt s.heap x (instObj 204 dx) 204 (some od)) (hu : A.in1.units < cLine) (h : Q (.bool true) s) :
    wpAny (model prog w') A (compareOp .NotIn (.ref x) (.ref a)) Q E s :=
  notIn_listAt (fun _ => false) hl (fun y hy => by
    simp only [List.mem_toArray, List.mem_cons, List.not_mem_nil, or_false] at hy
    rcases hy with rfl | rfl | rfl | rfl
    · exact eqAt_none X I hu
    · exact eqAt_str X I hu
    · exact eqAt_str X I hu
    · exact eqAt_int X I hu) (by simpa using h)
end

end Mine
end
section
namespace Mine
theorem reg_O16 (h : PySem.Challenge.rw_nz0185_01 = PySem.Challenge.rw_nz0185_01) (g : ∀ w : World, Mine.mk.heap_1 w.params = Mine.mk.heap_1 w.params) : PySem.Challenge.rw_nz0185_01 = PySem.Challenge.rw_nz0185_01 ∧ ∀ w : World, Mine.mk.heap_1 w.params = Mine.mk.heap_1 w.params := by
  k_fill
  k_with_none
  k_with "enter" => (refine' enterK ?k1 ?k2 ?k3 ?k4 ?k5 ?kA ?kF ?kK ?k6 ?k7 ?k8 ?k9 ?kb ?kB ?_ ?c2 ?c3 ?c4 ?c5; (case kA => exact rfl); (case kF => exact rfl); (case kK => assumption); (case k1 => k_asm); (case k2 => k_asm); (case k3 => k_asm); (case k4 => k_asm); (case k5 => k_asm); (case k6 => k_is); (case k7 => k_is); (case k8 => ktr_room); (case k9 => exact BindsTo.of_eq rfl); (case kb => exact rfl); (case c5 => decide); (case kB => exact rfl); (case c2 => exact rfl); (case c3 => exact rfl); (case c4 => exact rfl); k_whole; intro g' L' h' tk' FG' F' N' B' X' T'; dsimp only [bindsOf, List.map, List.zip, List.zipWith, List.reverse, List.reverseAux] at F'; (try dsimp only); (try k_lift B'); (try k_fold))
  k_with "WlPost" => (dsimp only [WlPost])
  k_with "CutPost" => (dsimp only [CutPost])
  k_with "WlExit" => ((rename News _ _ _ _ => nE'); (refine' wl_exit (by assumption) nE' (by first | (with_reducible exact fun _ h9 => h9) | kst_in) (by kst_all) ?_))
  k_with "WlEnd" => ((rename News _ _ _ _ => nE'); first
  | (refine' wl_end ⟨⟩ (by assumption) nE' (by first | (with_reducible exact fun _ h9 => h9) | kst_in) (by kst_all) ?_)
  | (refine' wl_end ⟨_, _⟩ (by assumption) nE' (by first | (with_reducible exact fun _ h9 => h9) | kst_in) (by kst_all) ?_)
  | (refine' wl_end ⟨_, _, _⟩ (by assumption) nE' (by first | (with_reducible exact fun _ h9 => h9) | kst_in) (by kst_all) ?_)
  | (refine' wl_end ⟨_, _, _, _⟩ (by assumption) nE' (by first | (with_reducible exact fun _ h9 => h9) | kst_in) (by kst_all) ?_)
  | (refine' wl_end ⟨_, _, _, _, _⟩ (by assumption) nE' (by first | (with_reducible exact fun _ h9 => h9) | kst_in) (by kst_all) ?_)
  | (refine' wl_end ⟨_, _, _, _, _, _⟩ (by assumption) nE' (by first | (with_reducible exact fun _ h9 => h9) | kst_in) (by kst_all) ?_))
  k_with "CutEnd" => ((rename News _ _ _ _ => nE'); first
  | (refine' cut_end ⟨⟩ (by assumption) nE' (by first | (with_reducible exact fun _ h9 => h9) | kst_in) (by kst_all) ?_)
  | (refine' cut_end ⟨_, _⟩ (by assumption) nE' (by first | (with_reducible exact fun _ h9 => h9) | kst_in) (by kst_all) ?_)
  | (refine' cut_end ⟨_, _, _⟩ (by assumption) nE' (by first | (with_reducible exact fun _ h9 => h9) | kst_in) (by kst_all) ?_)
  | (refine' cut_end ⟨_, _, _, _⟩ (by assumption) nE' (by first | (with_reducible exact fun _ h9 => h9) | kst_in) (by kst_all) ?_)
  | (refine' cut_end ⟨_, _, _, _, _⟩ (by assumption) nE' (by first | (with_reducible exact fun _ h9 => h9) | kst_in) (by kst_all) ?_)
  | (refine' cut_end ⟨_, _, _, _, _, _⟩ (by assumption) nE' (by first | (with_reducible exact fun _ h9 => h9) | kst_in) (by kst_all) ?_))
  k_with "led" => (first | k_asm | (refine' kst_newsOf (by assumption) (by kst_in)))
  k_with "end" => (first | (refine' retI ?_ (hret _ _ _ (by k_asm) (by k_extra "led"))) | (refine' retS ?_ (hret _ _ _ (by k_asm) (by k_extra "led"))) | (refine' retB ?_ (hret _ _ (by k_asm) (by k_extra "led"))))
  k_with "exec While BoolOp cons nil" => refine Hold.out ?_
  k_with "exec While Compare cons nil" => refine Hold.out ?_
  k_with "exec If" => ((rename Mark => hm9); clear hm9; refine Hold.out ?_)
  k_with "sub" => (first | assumption | exact fun _ h9 => h9 | (intro p9 h9; (try dsimp only at h9); first | exact h9 | (simp only [List.mem_cons, List.mem_append, List.cons_append, List.nil_append] at h9 ⊢; first | (simp only [h9, true_or, or_true]; done) | grind)))
  k_with "FlPost" => (dsimp only [FlPost])
  k_with "FlEnd" => ((rename News _ _ _ _ => nE'); first
  | (refine' fl_end ⟨⟩ (by assumption) nE' (by k_extra "sub") (by k_extra "sub") (by kst_all) (by first | exact ⟨by assumption⟩ | skip) ?_)
  | (refine' fl_end ⟨_, _⟩ (by assumption) nE' (by k_extra "sub") (by k_extra "sub") (by kst_all) (by first | exact ⟨by assumption⟩ | skip) ?_)
  | (refine' fl_end ⟨_, _, _⟩ (by assumption) nE' (by k_extra "sub") (by k_extra "sub") (by kst_all) (by first | exact ⟨by assumption⟩ | skip) ?_)
  | (refine' fl_end ⟨_, _, _, _⟩ (by assumption) nE' (by k_extra "sub") (by k_extra "sub") (by kst_all) (by first | exact ⟨by assumption⟩ | skip) ?_))
  k_with "pyIter str" => ((with_reducible show wpAny _ _ (pyIter _) (fun it s₂ => LoopAtV _ _ _ _ _ _ _ _ _ it s₂) _ _); refine Hold.out ?_)
  k_with "pyIter ref" => ((with_reducible show wpAny _ _ (pyIter _) (fun it s₂ => LoopAtV _ _ _ _ _ _ _ _ _ it s₂) _ _); refine Hold.out ?_)
  k_with "call ref" => (k_dflt (refine' enterQ (by exact rfl) (by exact rfl) (by first | exact rfl | assumption) (by k_asm) (by k_asm) (by k_asm) (by k_asm) (by k_asm) (by k_is) (by k_is) (by ktr_room) (by exact BindsTo.of_eq rfl) (by exact rfl) (by exact rfl) (by exact rfl) (by exact rfl) (by exact rfl) (by decide) ?_); k_whole; intro g' L' h' tk' FG' F' N' B' X' T'; dsimp only [bindsOf, List.map, List.zip, List.zipWith, List.reverse, List.reverseAux] at F'; (try dsimp only); (try k_lift B'); (try k_fold))
  k_with "pre" => first | assumption | omega | exact IsV.mono (by assumption) (by k_extra "sub") | exact LimAt.mono (by assumption) (by k_extra "sub") | exact ThingAt.mono (by assumption) (by k_extra "sub") | exact RefAt.mono (by assumption) (by k_extra "sub") | k_mem | k_extra "ne9"
  k_with "ne9" => (first | assumption | (refine' List.forall_mem_cons.mpr ⟨by k_ne, ?_⟩; k_extra "ne9"))
  k_with "getAttr ref" => (k_dflt (refine' get_own (by k_asm) (by k_asm) (by k_inst) (by k_is) (by k_is) (by k_is) (by k_is) (by assumption) (by k_handed) ?_); k_whole)
  k_with "getAttr ref" => ((with_reducible show wpAny _ _ (getAttr (Value.ref _) (PySem.Str.ofString "number") _) _ _ _); k_dflt (refine' kd_num (by k_asm) (by k_asm) (by k_asm) (by k_mem) (by k_mem) (by assumption) (by assumption) (by k_handed) ?_); k_whole)
  k_with "getAttr ref" => ((with_reducible show wpAny _ _ (getAttr (Value.ref _) (PySem.Str.ofString "blessed") _) _ _ _); k_dflt (refine' kd_bl (by k_asm) (by k_asm) (by k_asm) (by k_mem) (by k_mem) (by assumption) (by assumption) (by k_handed) ?_); k_whole)
  k_with "compareOp NotEq ref str" => (k_dflt (refine' ref_ne_str (by exact Frag.In.keeps (by k_asm) (Fr.keep (by k_asm))) (by k_inst) (by first | ke_room | ktr_units) ?_); k_whole)
  k_with "compareOp NotEq ref int" => (k_dflt (refine' ref_ne_int (by exact Frag.In.keeps (by k_asm) (Fr.keep (by k_asm))) (by k_inst) (by first | ke_room | ktr_units) ?_); k_whole)
  k_with "compareOp NotIn ref ref" => (k_dflt (refine' ref_notIn (News.isList (by k_asm) (by k_mem)) (by exact Frag.In.keeps (by k_asm) (Fr.keep (by k_asm))) (by k_inst) (by first | ke_room | ktr_units) ?_); k_whole)
  exact ⟨h, g⟩
open SeqAt PyProof.V in
theorem notin_v {w w' : World} {prog : Program} {A : Around} {E : Value → Shared → Prop} {s : Shared} {h₀ : Heap} {L l : Addr} {m : Str → Option Value} {news : Led} {v : Value} {d : Vl} {t1 t2 t3 : Tok} {Q : Value → Shared → Prop}
    (F : Fr h₀ L s.heap m) (X : (Mine.mk.heap_1 w.params).In h₀) (N : News h₀ L s.heap news) (hl : s.heap.IsList l #[.none, .str (Str.ofString "") t1, .str (Str.ofString "0") t2, .int 0 t3]) (hv : IsV news v d) (hu : A.in1.units < cLine) (h : Q (.bool (truthOf d)) s) :
    wpAny (model prog w') A (compareOp .NotIn v (.ref l)) Q E s := by
  cases d with
  | none =>
    obtain rfl := hv
    refine notIn_listAt (fun y => match y with | .none => true | _ => false) hl (fun y hy => ?_) (by rw [List.any_toArray]; exact h)
    simp only [List.mem_toArray, List.mem_cons, List.not_mem_nil, or_false] at hy
    rcases hy with rfl | rfl | rfl | rfl
    · exact EqAt.same _
    · exact EqAt.str_none _ _
    · exact EqAt.str_none _ _
    · exact EqAt.int_none _ _
  | int n =>
    obtain ⟨t, rfl⟩ := hv
    refine notIn_listAt (fun y => match y with | .int a _ => a == n | _ => false) hl (fun y hy => ?_) ?_
    · simp only [List.mem_toArray, List.mem_cons, List.not_mem_nil, or_false] at hy
      rcases hy with rfl | rfl | rfl | rfl
      · exact EqAt.none_int _ _
      · exact EqAt.str_int _ _ _ _
      · exact EqAt.str_int _ _ _ _
      · exact EqAt.int_int _ _ _ _
    · have e : (!(#[Value.none, .str (Str.ofString "") t1, .str (Str.ofString "0") t2, .int 0 t3].any fun y => match y with | .int a _ => a == n | _ => false)) = truthOf (.int n) := by
        rw [List.any_toArray]
        show (!(false || (false || (false || ((0 : Int) == n || false))))) = !(n == 0)
        rw [Bool.or_false, Bool.false_or, Bool.false_or, Bool.false_or, Bool.beq_comm]
      rw [e]; exact h
  | str x =>
    obtain ⟨t, rfl⟩ := hv
    refine notIn_listAt (fun y => match y with | .str a _ => a == x | _ => false) hl (fun y hy => ?_) ?_
    · simp only [List.mem_toArray, List.mem_cons, List.not_mem_nil, or_false] at hy
      rcases hy with rfl | rfl | rfl | rfl
      · exact EqAt.none_str _ _
      · exact EqAt.str_str _ _ _ _
      · exact EqAt.str_str _ _ _ _
      · exact EqAt.int_str _ _ _ _
    · have e : (!(#[Value.none, .str (Str.ofString "") t1, .str (Str.ofString "0") t2, .int 0 t3].any fun y => match y with | .str a _ => a == x | _ => false)) = truthOf (.str x) := by
        rw [List.any_toArray]
        show (!(false || (Str.ofString "" == x || (Str.ofString "0" == x || (false || false))))) = (!(x == Str.ofString "") && !(x == Str.ofString "0"))
        rw [Bool.or_false, Bool.or_false, Bool.false_or, Bool.not_or, Bool.beq_comm (a := Str.ofString ""), Bool.beq_comm (a := Str.ofString "0")]
      rw [e]; exact h
  | ref kd nm bl =>
    obtain ⟨r, th, rfl, dr, er, nr, r1, r2, -⟩ := hv
    exact ref_notIn (i3 := 0) hl (X.keeps F.keep) (InstAt.of_news N r1 r2) hu h

end Mine
end
section
namespace Mine
theorem reg_O14a (h : PySem.Challenge.rw_nz0185_01 = PySem.Challenge.rw_nz0185_01) (g : ∀ w : World, Mine.mk.heap_1 w.params = Mine.mk.heap_1 w.params) : PySem.Challenge.rw_nz0185_01 = PySem.Challenge.rw_nz0185_01 ∧ ∀ w : World, Mine.mk.heap_1 w.params = Mine.mk.heap_1 w.params := by
  k_fill
  k_with_none
  k_with "enter" => (refine' enterK ?k1 ?k2 ?k3 ?k4 ?k5 ?kA ?kF ?kK ?k6 ?k7 ?k8 ?k9 ?kb ?kB ?_ ?c2 ?c3 ?c4 ?c5; (case kA => exact rfl); (case kF => exact rfl); (case kK => assumption); (case k1 => k_asm); (case k2 => k_asm); (case k3 => k_asm); (case k4 => k_asm); (case k5 => k_asm); (case k6 => k_is); (case k7 => k_is); (case k8 => ktr_room); (case k9 => exact BindsTo.of_eq rfl); (case kb => exact rfl); (case c5 => decide); (case kB => exact rfl); (case c2 => exact rfl); (case c3 => exact rfl); (case c4 => exact rfl); k_whole; intro g' L' h' tk' FG' F' N' B' X' T'; dsimp only [bindsOf, List.map, List.zip, List.zipWith, List.reverse, List.reverseAux] at F'; (try dsimp only); (try k_lift B'); (try k_fold))
  k_with "WlPost" => (dsimp only [WlPost])
  k_with "CutPost" => (dsimp only [CutPost])
  k_with "WlExit" => ((rename News _ _ _ _ => nE'); (refine' wl_exit (by assumption) nE' (by first | (with_reducible exact fun _ h9 => h9) | kst_in) (by kst_all) ?_))
  k_with "WlEnd" => ((rename News _ _ _ _ => nE'); first
  | (refine' wl_end ⟨⟩ (by assumption) nE' (by first | (with_reducible exact fun _ h9 => h9) | kst_in) (by kst_all) ?_)
  | (refine' wl_end ⟨_, _⟩ (by assumption) nE' (by first | (with_reducible exact fun _ h9 => h9) | kst_in) (by kst_all) ?_)
  | (refine' wl_end ⟨_, _, _⟩ (by assumption) nE' (by first | (with_reducible exact fun _ h9 => h9) | kst_in) (by kst_all) ?_)
  | (refine' wl_end ⟨_, _, _, _⟩ (by assumption) nE' (by first | (with_reducible exact fun _ h9 => h9) | kst_in) (by kst_all) ?_)
  | (refine' wl_end ⟨_, _, _, _, _⟩ (by assumption) nE' (by first | (with_reducible exact fun _ h9 => h9) | kst_in) (by kst_all) ?_)
  | (refine' wl_end ⟨_, _, _, _, _, _⟩ (by assumption) nE' (by first | (with_reducible exact fun _ h9 => h9) | kst_in) (by kst_all) ?_))
  k_with "CutEnd" => ((rename News _ _ _ _ => nE'); first
  | (refine' cut_end ⟨⟩ (by assumption) nE' (by first | (with_reducible exact fun _ h9 => h9) | kst_in) (by kst_all) ?_)
  | (refine' cut_end ⟨_, _⟩ (by assumption) nE' (by first | (with_reducible exact fun _ h9 => h9) | kst_in) (by kst_all) ?_)
  | (refine' cut_end ⟨_, _, _⟩ (by assumption) nE' (by first | (with_reducible exact fun _ h9 => h9) | kst_in) (by kst_all) ?_)
  | (refine' cut_end ⟨_, _, _, _⟩ (by assumption) nE' (by first | (with_reducible exact fun _ h9 => h9) | kst_in) (by kst_all) ?_)
  | (refine' cut_end ⟨_, _, _, _, _⟩ (by assumption) nE' (by first | (with_reducible exact fun _ h9 => h9) | kst_in) (by kst_all) ?_)
  | (refine' cut_end ⟨_, _, _, _, _, _⟩ (by assumption) nE' (by first | (with_reducible exact fun _ h9 => h9) | kst_in) (by kst_all) ?_))
  k_with "led" => (first | k_asm | (refine' kst_newsOf (by assumption) (by kst_in)))
  k_with "end" => (first | (refine' retI ?_ (hret _ _ _ (by k_asm) (by k_extra "led"))) | (refine' retS ?_ (hret _ _ _ (by k_asm) (by k_extra "led"))) | (refine' retB ?_ (hret _ _ (by k_asm) (by k_extra "led"))))
  k_with "exec While BoolOp cons nil" => refine Hold.out ?_
  k_with "exec While Compare cons nil" => refine Hold.out ?_
  k_with "exec If" => ((rename Mark => hm9); clear hm9; refine Hold.out ?_)
  k_with "sub" => (first | assumption | exact fun _ h9 => h9 | (intro p9 h9; (try dsimp only at h9); first | exact h9 | (simp only [List.mem_cons, List.mem_append, List.cons_append, List.nil_append] at h9 ⊢; first | (simp only [h9, true_or, or_true]; done) | grind)))
  k_with "FlPost" => (dsimp only [FlPost])
  k_with "FlEnd" => ((rename News _ _ _ _ => nE'); first
  | (refine' fl_end ⟨⟩ (by assumption) nE' (by k_extra "sub") (by k_extra "sub") (by kst_all) (by first | exact ⟨by assumption⟩ | skip) ?_)
  | (refine' fl_end ⟨_, _⟩ (by assumption) nE' (by k_extra "sub") (by k_extra "sub") (by kst_all) (by first | exact ⟨by assumption⟩ | skip) ?_)
  | (refine' fl_end ⟨_, _, _⟩ (by assumption) nE' (by k_extra "sub") (by k_extra "sub") (by kst_all) (by first | exact ⟨by assumption⟩ | skip) ?_)
  | (refine' fl_end ⟨_, _, _, _⟩ (by assumption) nE' (by k_extra "sub") (by k_extra "sub") (by kst_all) (by first | exact ⟨by assumption⟩ | skip) ?_))
  k_with "pyIter str" => ((with_reducible show wpAny _ _ (pyIter _) (fun it s₂ => LoopAtV _ _ _ _ _ _ _ _ _ it s₂) _ _); refine Hold.out ?_)
  k_with "pyIter ref" => ((with_reducible show wpAny _ _ (pyIter _) (fun it s₂ => LoopAtV _ _ _ _ _ _ _ _ _ it s₂) _ _); refine Hold.out ?_)
  k_with "call ref" => (k_dflt (refine' enterQ (by exact rfl) (by exact rfl) (by first | exact rfl | assumption) (by k_asm) (by k_asm) (by k_asm) (by k_asm) (by k_asm) (by k_is) (by k_is) (by ktr_room) (by exact BindsTo.of_eq rfl) (by exact rfl) (by exact rfl) (by exact rfl) (by exact rfl) (by exact rfl) (by decide) ?_); k_whole; intro g' L' h' tk' FG' F' N' B' X' T'; dsimp only [bindsOf, List.map, List.zip, List.zipWith, List.reverse, List.reverseAux] at F'; (try dsimp only); (try k_lift B'); (try k_fold))
  k_with "pre" => first | assumption | omega | exact IsV.mono (by assumption) (by k_extra "sub") | exact LimAt.mono (by assumption) (by k_extra "sub") | exact ThingAt.mono (by assumption) (by k_extra "sub") | exact RefAt.mono (by assumption) (by k_extra "sub") | k_mem | k_extra "ne9"
  k_with "ne9" => (first | assumption | (refine' List.forall_mem_cons.mpr ⟨by k_ne, ?_⟩; k_extra "ne9"))
  k_with "getAttr ref" => (k_dflt (refine' get_own (by k_asm) (by k_asm) (by k_inst) (by k_is) (by k_is) (by k_is) (by k_is) (by assumption) (by k_handed) ?_); k_whole)
  k_with "getAttr ref" => ((with_reducible show wpAny _ _ (getAttr (Value.ref _) (PySem.Str.ofString "number") _) _ _ _); k_dflt (refine' kd_num (by k_asm) (by k_asm) (by k_asm) (by k_mem) (by k_mem) (by assumption) (by assumption) (by k_handed) ?_); k_whole)
  k_with "getAttr ref" => ((with_reducible show wpAny _ _ (getAttr (Value.ref _) (PySem.Str.ofString "blessed") _) _ _ _); k_dflt (refine' kd_bl (by k_asm) (by k_asm) (by k_asm) (by k_mem) (by k_mem) (by assumption) (by assumption) (by k_handed) ?_); k_whole)
  k_with "compareOp NotEq ref str" => (k_dflt (refine' ref_ne_str (by exact Frag.In.keeps (by k_asm) (Fr.keep (by k_asm))) (by k_inst) (by first | ke_room | ktr_units) ?_); k_whole)
  k_with "compareOp NotEq ref int" => (k_dflt (refine' ref_ne_int (by exact Frag.In.keeps (by k_asm) (Fr.keep (by k_asm))) (by k_inst) (by first | ke_room | ktr_units) ?_); k_whole)
  k_with "compareOp NotIn ref ref" => (k_dflt (refine' ref_notIn (News.isList (by k_asm) (by k_mem)) (by exact Frag.In.keeps (by k_asm) (Fr.keep (by k_asm))) (by k_inst) (by first | ke_room | ktr_units) ?_); k_whole)
  exact ⟨h, g⟩
noncomputable def kindIs : Nat → Vl → Bool | 0, .int _ => true | 1, .str _ => true | 2, .ref _ _ _ => true | _, _ => false
noncomputable def sortV : Nat → Value | 0 => .type "int" | 1 => .type "str" | _ => .ref 204
theorem isi_v {w : World} {A : Around} {E : Value → Shared → Prop} {s : Shared} {h₀ : Heap} {L : Addr} {m : Str → Option Value} {news : Led} {v sv : Value} {d : Vl} {i : Nat} {Q : Value → Shared → Prop}
    (F : Fr h₀ L s.heap m) (X : (Mine.mk.heap_1 w.params).In h₀) (N : News h₀ L s.heap news) (hv : IsV news v d) (hi : i < 3) (hs : sv = sortV i) (h : ∀ tk, Q (.bool (kindIs i d)) { s with toks := tk }) :
    wpAny (model pw w) A (call (.builtin "isinstance") [v, sv]) Q E s := by
  obtain h0 | h0 | h0 : i = 0 ∨ i = 1 ∨ i = 2 := by omega
  all_goals
    subst h0; subst hs
    cases d with
    | none => obtain rfl := hv; dsimp only [sortV]; k_here; k_dflt (refine' kia_one kitx_none ?X trivial ?ee ?nb ?_; (case X => k_in); (case ee => kit_is); (case nb => kit_nb); k_whole; intro _); exact h _
    | int n => obtain ⟨t, rfl⟩ := hv; dsimp only [sortV]; k_here; k_dflt (refine' kia_one kitx_int ?X trivial ?ee ?nb ?_; (case X => k_in); (case ee => kit_is); (case nb => kit_nb); k_whole; intro _); exact h _
    | str x => obtain ⟨t, rfl⟩ := hv; dsimp only [sortV]; k_here; k_dflt (refine' kia_one kitx_str ?X trivial ?ee ?nb ?_; (case X => k_in); (case ee => kit_is); (case nb => kit_nb); k_whole; intro _); exact h _
    | ref kd nm bl => obtain ⟨r, th, rfl, dr, er, nr, r1, r2, -⟩ := hv; replace N := news2 N r1 r2; dsimp only [sortV]; first | (k_dflt (refine' kin_callT (by k_in) (by k_inst) (by kin_no) (by kernel_rfl) (by k_is) (by k_is) (by k_is) (by k_is) (by k_is) (by k_is) ?_); exact h _) | (k_dflt (refine' isi_call (by k_in) (by k_types) (by k_is) (by intro e; cases e) ?_); exact h _) | (k_dflt (refine' kin_callT ?k1 ?k2 ?k3 ?ty ?k4 ?k5 ?k6 ?k7 ?k8 ?k9 ?_); (case k2 => k_inst); (case k3 => kin_no))
theorem kind_ref {d : Vl} (h : kindIs 2 d = true) : ∃ kd nm bl, d = .ref kd nm bl := by
  cases d <;> first | exact ⟨_, _, _, rfl⟩ | cases h
theorem sort_at {i : Nat} {v : Value} (h : ([.type "int", .type "str", .ref 204] : List Value)[i]? = some v) (hi : i < 3) : v = sortV i := by
  obtain rfl | rfl | rfl : i = 0 ∨ i = 1 ∨ i = 2 := by omega
  all_goals exact (Option.some.inj h).symm
theorem same_no {i : Nat} {d1 d2 : Vl} (h : (kindIs i d1 != kindIs i d2) = true) : sameV d1 d2 = false := by
  cases d1 <;> cases d2 <;> first | rfl | (exfalso; revert h; obtain _ | _ | _ | i := i <;> simp [kindIs])
theorem reg_O14 (h : PySem.Challenge.rw_nz0185_01 = PySem.Challenge.rw_nz0185_01) (g : ∀ w : World, Mine.mk.heap_1 w.params = Mine.mk.heap_1 w.params) : PySem.Challenge.rw_nz0185_01 = PySem.Challenge.rw_nz0185_01 ∧ ∀ w : World, Mine.mk.heap_1 w.params = Mine.mk.heap_1 w.params := by
  k_fill
  k_with_none
  k_with "enter" => (refine' enterK ?k1 ?k2 ?k3 ?k4 ?k5 ?kA ?kF ?kK ?k6 ?k7 ?k8 ?k9 ?kb ?kB ?_ ?c2 ?c3 ?c4 ?c5; (case kA => exact rfl); (case kF => exact rfl); (case kK => assumption); (case k1 => k_asm); (case k2 => k_asm); (case k3 => k_asm); (case k4 => k_asm); (case k5 => k_asm); (case k6 => k_is); (case k7 => k_is); (case k8 => ktr_room); (case k9 => exact BindsTo.of_eq rfl); (case kb => exact rfl); (case c5 => decide); (case kB => exact rfl); (case c2 => exact rfl); (case c3 => exact rfl); (case c4 => exact rfl); k_whole; intro g' L' h' tk' FG' F' N' B' X' T'; dsimp only [bindsOf, List.map, List.zip, List.zipWith, List.reverse, List.reverseAux] at F'; (try dsimp only); (try k_lift B'); (try k_fold))
  k_with "WlPost" => (dsimp only [WlPost])
  k_with "CutPost" => (dsimp only [CutPost])
  k_with "WlExit" => ((rename News _ _ _ _ => nE'); (refine' wl_exit (by assumption) nE' (by first | (with_reducible exact fun _ h9 => h9) | kst_in) (by kst_all) ?_))
  k_with "WlEnd" => ((rename News _ _ _ _ => nE'); first
  | (refine' wl_end ⟨⟩ (by assumption) nE' (by first | (with_reducible exact fun _ h9 => h9) | kst_in) (by kst_all) ?_)
  | (refine' wl_end ⟨_, _⟩ (by assumption) nE' (by first | (with_reducible exact fun _ h9 => h9) | kst_in) (by kst_all) ?_)
  | (refine' wl_end ⟨_, _, _⟩ (by assumption) nE' (by first | (with_reducible exact fun _ h9 => h9) | kst_in) (by kst_all) ?_)
  | (refine' wl_end ⟨_, _, _, _⟩ (by assumption) nE' (by first | (with_reducible exact fun _ h9 => h9) | kst_in) (by kst_all) ?_)
  | (refine' wl_end ⟨_, _, _, _, _⟩ (by assumption) nE' (by first | (with_reducible exact fun _ h9 => h9) | kst_in) (by kst_all) ?_)
  | (refine' wl_end ⟨_, _, _, _, _, _⟩ (by assumption) nE' (by first | (with_reducible exact fun _ h9 => h9) | kst_in) (by kst_all) ?_))
  k_with "CutEnd" => ((rename News _ _ _ _ => nE'); first
  | (refine' cut_end ⟨⟩ (by assumption) nE' (by first | (with_reducible exact fun _ h9 => h9) | kst_in) (by kst_all) ?_)
  | (refine' cut_end ⟨_, _⟩ (by assumption) nE' (by first | (with_reducible exact fun _ h9 => h9) | kst_in) (by kst_all) ?_)
  | (refine' cut_end ⟨_, _, _⟩ (by assumption) nE' (by first | (with_reducible exact fun _ h9 => h9) | kst_in) (by kst_all) ?_)
  | (refine' cut_end ⟨_, _, _, _⟩ (by assumption) nE' (by first | (with_reducible exact fun _ h9 => h9) | kst_in) (by kst_all) ?_)
  | (refine' cut_end ⟨_, _, _, _, _⟩ (by assumption) nE' (by first | (with_reducible exact fun _ h9 => h9) | kst_in) (by kst_all) ?_)
  | (refine' cut_end ⟨_, _, _, _, _, _⟩ (by assumption) nE' (by first | (with_reducible exact fun _ h9 => h9) | kst_in) (by kst_all) ?_))
  k_with "led" => (first | k_asm | (refine' kst_newsOf (by assumption) (by kst_in)))
  k_with "end" => (first | (refine' retI ?_ (hret _ _ _ (by k_asm) (by k_extra "led"))) | (refine' retS ?_ (hret _ _ _ (by k_asm) (by k_extra "led"))) | (refine' retB ?_ (hret _ _ (by k_asm) (by k_extra "led"))))
  k_with "exec While BoolOp cons nil" => refine Hold.out ?_
  k_with "exec While Compare cons nil" => refine Hold.out ?_
  k_with "exec If" => ((rename Mark => hm9); clear hm9; refine Hold.out ?_)
  k_with "sub" => (first | assumption | exact fun _ h9 => h9 | (intro p9 h9; (try dsimp only at h9); first | exact h9 | (simp only [List.mem_cons, List.mem_append, List.cons_append, List.nil_append] at h9 ⊢; first | (simp only [h9, true_or, or_true]; done) | grind)))
  k_with "FlPost" => (dsimp only [FlPost])
  k_with "FlEnd" => ((rename News _ _ _ _ => nE'); first
  | (refine' fl_end ⟨⟩ (by assumption) nE' (by k_extra "sub") (by k_extra "sub") (by kst_all) (by first | exact ⟨by assumption⟩ | skip) ?_)
  | (refine' fl_end ⟨_, _⟩ (by assumption) nE' (by k_extra "sub") (by k_extra "sub") (by kst_all) (by first | exact ⟨by assumption⟩ | skip) ?_)
  | (refine' fl_end ⟨_, _, _⟩ (by assumption) nE' (by k_extra "sub") (by k_extra "sub") (by kst_all) (by first | exact ⟨by assumption⟩ | skip) ?_)
  | (refine' fl_end ⟨_, _, _, _⟩ (by assumption) nE' (by k_extra "sub") (by k_extra "sub") (by kst_all) (by first | exact ⟨by assumption⟩ | skip) ?_))
  k_with "pyIter str" => ((with_reducible show wpAny _ _ (pyIter _) (fun it s₂ => LoopAtV _ _ _ _ _ _ _ _ _ it s₂) _ _); refine Hold.out ?_)
  k_with "pyIter ref" => ((with_reducible show wpAny _ _ (pyIter _) (fun it s₂ => LoopAtV _ _ _ _ _ _ _ _ _ it s₂) _ _); refine Hold.out ?_)
  k_with "call ref" => (k_dflt (refine' enterQ (by exact rfl) (by exact rfl) (by first | exact rfl | assumption) (by k_asm) (by k_asm) (by k_asm) (by k_asm) (by k_asm) (by k_is) (by k_is) (by ktr_room) (by exact BindsTo.of_eq rfl) (by exact rfl) (by exact rfl) (by exact rfl) (by exact rfl) (by exact rfl) (by decide) ?_); k_whole; intro g' L' h' tk' FG' F' N' B' X' T'; dsimp only [bindsOf, List.map, List.zip, List.zipWith, List.reverse, List.reverseAux] at F'; (try dsimp only); (try k_lift B'); (try k_fold))
  k_with "pre" => first | assumption | omega | exact IsV.mono (by assumption) (by k_extra "sub") | exact LimAt.mono (by assumption) (by k_extra "sub") | exact ThingAt.mono (by assumption) (by k_extra "sub") | exact RefAt.mono (by assumption) (by k_extra "sub") | k_mem | k_extra "ne9"
  k_with "ne9" => (first | assumption | (refine' List.forall_mem_cons.mpr ⟨by k_ne, ?_⟩; k_extra "ne9"))
  k_with "getAttr ref" => (k_dflt (refine' get_own (by k_asm) (by k_asm) (by k_inst) (by k_is) (by k_is) (by k_is) (by k_is) (by assumption) (by k_handed) ?_); k_whole)
  k_with "getAttr ref" => ((with_reducible show wpAny _ _ (getAttr (Value.ref _) (PySem.Str.ofString "number") _) _ _ _); k_dflt (refine' kd_num (by k_asm) (by k_asm) (by k_asm) (by k_mem) (by k_mem) (by assumption) (by assumption) (by k_handed) ?_); k_whole)
  k_with "getAttr ref" => ((with_reducible show wpAny _ _ (getAttr (Value.ref _) (PySem.Str.ofString "blessed") _) _ _ _); k_dflt (refine' kd_bl (by k_asm) (by k_asm) (by k_asm) (by k_mem) (by k_mem) (by assumption) (by assumption) (by k_handed) ?_); k_whole)
  k_with "compareOp NotEq ref str" => (k_dflt (refine' ref_ne_str (by exact Frag.In.keeps (by k_asm) (Fr.keep (by k_asm))) (by k_inst) (by first | ke_room | ktr_units) ?_); k_whole)
  k_with "compareOp NotEq ref int" => (k_dflt (refine' ref_ne_int (by exact Frag.In.keeps (by k_asm) (Fr.keep (by k_asm))) (by k_inst) (by first | ke_room | ktr_units) ?_); k_whole)
  k_with "compareOp NotIn ref ref" => (k_dflt (refine' ref_notIn (News.isList (by k_asm) (by k_mem)) (by exact Frag.In.keeps (by k_asm) (Fr.keep (by k_asm))) (by k_inst) (by first | ke_room | ktr_units) ?_); k_whole)
  k_with "call builtin:isinstance" => (k_dflt (refine' isi_v (by k_asm) (by k_asm) (by k_asm) (by first | assumption | exact IsV.mono (by assumption) (by k_extra "sub")) (i := 2) (by decide) (by exact rfl) ?_); k_whole; intro _)
  k_with "call builtin:isinstance" => (k_dflt (refine' isi_v (by k_asm) (by k_asm) (by k_asm) (by first | assumption | exact IsV.mono (by assumption) (by k_extra "sub")) (by assumption) (by assumption) ?_); k_whole; intro _)
  exact ⟨h, g⟩
theorem lsame_fn (w : World) (news : Led) (v1 v2 : Value) (d1 d2 : Vl) (hv1 : IsV news v1 d1) (hv2 : IsV news v2 d2) (ho1 : d1.ok) (ho2 : d2.ok) :
    FnC w 473 1 8 news [v1, v2] (fun k => k (.bool (sameV d1 d2)) news) := by
  unfold FnC
  intro mean mg mb dp un gd cn cs a ccd cl outer A₀ base h₀ L m s Q E B F X N T hk hd hu hret
  have mk : Mark := ⟨⟩
  k_dflt k_extra "enter"
  k_steps
  refine ⟨?_⟩
  with_unfolding_all refine' wl_cut (σ := Unit) (fun _ => news) (fun _ => [(Str.ofString "one", v1), (Str.ofString "two", v2)]) (fun _ => (kindIs 2 d1 && kindIs 2 d2) = false) (by assumption) ?s1 ?s2
  case s1 =>
    k_steps
    · rename kindIs 2 d1 = true => q1
      rename kindIs 2 d2 = true => q2
      obtain ⟨kd1, nm1, bl1, rfl⟩ := kind_ref q1
      obtain ⟨kd2, nm2, bl2, rfl⟩ := kind_ref q2
      obtain ⟨r1, th1, rfl, dr1, er1, nr1, ra1, rb1, rc1, dth1, et1, nt1, tn1, rd1, re1, rf1, rg1⟩ := hv1
      obtain ⟨r2, th2, rfl, dr2, er2, nr2, ra2, rb2, rc2, dth2, et2, nt2, tn2, rd2, re2, rf2, rg2⟩ := hv2
      obtain ⟨hkd1, -⟩ := ho1
      obtain ⟨hkd2, -⟩ := ho2
      (rename News _ _ _ _ => nE')
      replace nE' := news4 (news4 nE' ra2 rb2 rd2 re2) (.tail _ (.tail _ (.tail _ (.tail _ ra1)))) (.tail _ (.tail _ (.tail _ (.tail _ rb1)))) (.tail _ (.tail _ (.tail _ (.tail _ rd1)))) (.tail _ (.tail _ (.tail _ (.tail _ re1))))
      k_steps
      exact hret _ _ (by k_asm) (by k_extra "led")
    · rename kindIs 2 d2 = false => q2
      exact ⟨by rw [q2, Bool.and_false]⟩
    · rename kindIs 2 d1 = false => q1
      exact ⟨by rw [q1, Bool.false_and]⟩
  case s2 =>
    rintro ⟨⟩ u2 h2 tk2 hnr F2 N2
    (try dsimp only at F2 N2)
    k_steps
    refine ⟨?_⟩
    with_unfolding_all refine' fl_list (led := news) (σ := Unit) (fun _ => [(Str.ofString "one", v1), (Str.ofString "two", v2)]) (fun i _ => ∀ j, j < i → kindIs j d1 = kindIs j d2) () (by rfl) (News.isList (by k_asm) (by k_mem)) (.head _) (by assumption) (by assumption) (by k_extra "sub") (by kst_all) (fun _ h9 => nomatch h9) ?turn ?done
    case turn =>
      rintro i v ⟨⟩ u hh tkk own wr hi hv p hw F1 N1
      have hi3 : i < 3 := hi
      have hs := sort_at hv hi3
      (try dsimp only at F1 N1)
      k_steps
      · rename (kindIs i d1 != kindIs i d2) = true => q
        exact retB ⟨(same_no q).symm⟩ (hret _ _ (by k_asm) (by k_extra "led"))
      · rename (kindIs i d1 != kindIs i d2) = false => q
        exact ⟨fun j hj => by
          by_cases e : j = i
          · subst e; simpa using q
          · exact p j (by omega)⟩
    case done =>
      rintro ⟨⟩ u hh tkk p F1 N1
      (try dsimp only at F1 N1)
      have q0 := p 0 (by decide); have q1 := p 1 (by decide); have q2 := p 2 (by decide)
      cases d1 <;> cases d2 <;> first | (exfalso; revert q0 q1 q2 hnr; simp [kindIs]; done) | skip
      · obtain rfl := hv1; obtain rfl := hv2
        k_steps
        exact hret _ _ (by k_asm) (by k_extra "led")
      · obtain ⟨t1, rfl⟩ := hv1; obtain ⟨t2, rfl⟩ := hv2
        k_steps
        exact hret _ _ (by k_asm) (by k_extra "led")
      · obtain ⟨t1, rfl⟩ := hv1; obtain ⟨t2, rfl⟩ := hv2
        k_steps
        exact hret _ _ (by k_asm) (by k_extra "led")

end Mine
end
section
namespace Mine
theorem kind_str {d : Vl} (h : kindIs 1 d = true) : ∃ x, d = .str x := by
  cases d <;> first | exact ⟨_, rfl⟩ | cases h
theorem inc_no {d : Vl} {wd : Int} {t : Tok} (h : kindIs 1 d = false) : incV wd d t = .int (fitN (numOf wd d + 1) wd) t := by
  cases d <;> first | rfl | cases h
theorem isi_b {w : World} {A : Around} {E : Value → Shared → Prop} {s : Shared} {h₀ : Heap} {L : Addr} {m : Str → Option Value} {news : Led} {v : Value} {d : Vl} {b : Bool} {Q : Value → Shared → Prop}
    (hb : kindIs 1 d = b) (F : Fr h₀ L s.heap m) (X : (Mine.mk.heap_1 w.params).In h₀) (N : News h₀ L s.heap news) (hv : IsV news v d) (h : ∀ tk, Q (.bool b) { s with toks := tk }) :
    wpAny (model pw w) A (call (.builtin "isinstance") [v, .type "str"]) Q E s := by
  subst hb; exact isi_v F X N hv (i := 1) (by decide) rfl h
end Mine
end
section
namespace Mine
theorem reg_F4 (h : PySem.Challenge.rw_nz0185_01 = PySem.Challenge.rw_nz0185_01) (g : ∀ w : World, Mine.mk.heap_1 w.params = Mine.mk.heap_1 w.params) : PySem.Challenge.rw_nz0185_01 = PySem.Challenge.rw_nz0185_01 ∧ ∀ w : World, Mine.mk.heap_1 w.params = Mine.mk.heap_1 w.params := by
  k_fill
  k_with_none
  k_with "enter" => (refine' enterK ?k1 ?k2 ?k3 ?k4 ?k5 ?kA ?kF ?kK ?k6 ?k7 ?k8 ?k9 ?kb ?kB ?_ ?c2 ?c3 ?c4 ?c5; (case kA => exact rfl); (case kF => exact rfl); (case kK => assumption); (case k1 => k_asm); (case k2 => k_asm); (case k3 => k_asm); (case k4 => k_asm); (case k5 => k_asm); (case k6 => k_is); (case k7 => k_is); (case k8 => ktr_room); (case k9 => exact BindsTo.of_eq rfl); (case kb => exact rfl); (case c5 => decide); (case kB => exact rfl); (case c2 => exact rfl); (case c3 => exact rfl); (case c4 => exact rfl); k_whole; intro g' L' h' tk' FG' F' N' B' X' T'; dsimp only [bindsOf, List.map, List.zip, List.zipWith, List.reverse, List.reverseAux] at F'; (try dsimp only); (try k_lift B'); (try k_fold))
  k_with "WlPost" => (dsimp only [WlPost])
  k_with "CutPost" => (dsimp only [CutPost])
  k_with "WlExit" => ((rename News _ _ _ _ => nE'); (refine' wl_exit (by assumption) nE' (by first | (with_reducible exact fun _ h9 => h9) | kst_in) (by kst_all) ?_))
  k_with "WlEnd" => ((rename News _ _ _ _ => nE'); first
  | (refine' wl_end ⟨⟩ (by assumption) nE' (by first | (with_reducible exact fun _ h9 => h9) | kst_in) (by kst_all) ?_)
  | (refine' wl_end ⟨_, _⟩ (by assumption) nE' (by first | (with_reducible exact fun _ h9 => h9) | kst_in) (by kst_all) ?_)
  | (refine' wl_end ⟨_, _, _⟩ (by assumption) nE' (by first | (with_reducible exact fun _ h9 => h9) | kst_in) (by kst_all) ?_)
  | (refine' wl_end ⟨_, _, _, _⟩ (by assumption) nE' (by first | (with_reducible exact fun _ h9 => h9) | kst_in) (by kst_all) ?_)
  | (refine' wl_end ⟨_, _, _, _, _⟩ (by assumption) nE' (by first | (with_reducible exact fun _ h9 => h9) | kst_in) (by kst_all) ?_)
  | (refine' wl_end ⟨_, _, _, _, _, _⟩ (by assumption) nE' (by first | (with_reducible exact fun _ h9 => h9) | kst_in) (by kst_all) ?_))
  k_with "CutEnd" => ((rename News _ _ _ _ => nE'); first
  | (refine' cut_end ⟨⟩ (by assumption) nE' (by first | (with_reducible exact fun _ h9 => h9) | kst_in) (by kst_all) ?_)
  | (refine' cut_end ⟨_, _⟩ (by assumption) nE' (by first | (with_reducible exact fun _ h9 => h9) | kst_in) (by kst_all) ?_)
  | (refine' cut_end ⟨_, _, _⟩ (by assumption) nE' (by first | (with_reducible exact fun _ h9 => h9) | kst_in) (by kst_all) ?_)
  | (refine' cut_end ⟨_, _, _, _⟩ (by assumption) nE' (by first | (with_reducible exact fun _ h9 => h9) | kst_in) (by kst_all) ?_)
  | (refine' cut_end ⟨_, _, _, _, _⟩ (by assumption) nE' (by first | (with_reducible exact fun _ h9 => h9) | kst_in) (by kst_all) ?_)
  | (refine' cut_end ⟨_, _, _, _, _, _⟩ (by assumption) nE' (by first | (with_reducible exact fun _ h9 => h9) | kst_in) (by kst_all) ?_))
  k_with "led" => (first | k_asm | (refine' kst_newsOf (by assumption) (by kst_in)))
  k_with "end" => (first | (refine' retI ?_ (hret _ _ _ (by k_asm) (by k_extra "led"))) | (refine' retS ?_ (hret _ _ _ (by k_asm) (by k_extra "led"))) | (refine' retB ?_ (hret _ _ (by k_asm) (by k_extra "led"))))
  k_with "exec While BoolOp cons nil" => refine Hold.out ?_
  k_with "exec While Compare cons nil" => refine Hold.out ?_
  k_with "exec If" => ((rename Mark => hm9); clear hm9; refine Hold.out ?_)
  k_with "sub" => (first | assumption | exact fun _ h9 => h9 | (intro p9 h9; (try dsimp only at h9); first | exact h9 | (simp only [List.mem_cons, List.mem_append, List.cons_append, List.nil_append] at h9 ⊢; first | (simp only [h9, true_or, or_true]; done) | grind)))
  k_with "FlPost" => (dsimp only [FlPost])
  k_with "FlEnd" => ((rename News _ _ _ _ => nE'); first
  | (refine' fl_end ⟨⟩ (by assumption) nE' (by k_extra "sub") (by k_extra "sub") (by kst_all) (by first | exact ⟨by assumption⟩ | skip) ?_)
  | (refine' fl_end ⟨_, _⟩ (by assumption) nE' (by k_extra "sub") (by k_extra "sub") (by kst_all) (by first | exact ⟨by assumption⟩ | skip) ?_)
  | (refine' fl_end ⟨_, _, _⟩ (by assumption) nE' (by k_extra "sub") (by k_extra "sub") (by kst_all) (by first | exact ⟨by assumption⟩ | skip) ?_)
  | (refine' fl_end ⟨_, _, _, _⟩ (by assumption) nE' (by k_extra "sub") (by k_extra "sub") (by kst_all) (by first | exact ⟨by assumption⟩ | skip) ?_))
  k_with "pyIter str" => refine Hold.out ?_
  k_with "pyIter ref" => refine Hold.out ?_
  k_with "pre" => first | assumption | omega
  k_with "call ref" => (k_dflt (refine' FnC.use (wrap_fn _ _ _ _ _ _ (by k_extra "pre") (by k_extra "pre")) (by k_asm) (by k_asm) (by k_asm) (by k_asm) (by k_asm) (by first | exact rfl | assumption) (by ktr_room) (by ktr_units) ?_); (try dsimp only); intros; (try k_fold))
  k_with "call ref" => (k_dflt (refine' FnC.use (head_fn _ _ _ _ (by k_extra "pre")) (by k_asm) (by k_asm) (by k_asm) (by k_asm) (by k_asm) (by first | exact rfl | assumption) (by ktr_room) (by ktr_units) ?_); (try dsimp only); intros; (try k_fold))
  exact ⟨h, g⟩
theorem looks_fn (w : World) (news : Led) (x : Str) (tx : Tok) (hx : x.length ≤ 1000) :
    FnC w 63 2 16 news [.str x tx] (fun k => k (.bool (!(ds (lst x)).isEmpty && (restL (lst x)).all isSp)) news) := by
  unfold FnC
  intro mean mg mb dp un gd cn cs a ccd cl outer A₀ base h₀ L m s Q E B F X N T hk hd hu hret
  have hb := hEnd_le' x
  k_dflt k_extra "enter"
  k_steps
  · exact retB ⟨looks0 (by assumption)⟩ (hret _ _ (by k_asm) (by k_extra "led"))
  · refine ⟨?_⟩
    with_unfolding_all refine' wl_while (σ := Int × Tok) (fun _ => news) (fun c => [(Str.ofString "text", .str x tx), (Str.ofString "end", .int c.1 c.2)]) (fun c => (hEnd (lst x) : Int) ≤ c.1 ∧ c.1 ≤ (x.length : Int) ∧ ∀ i : Nat, (hEnd (lst x) : Int) ≤ (i : Int) → (i : Int) < c.1 → isSp (cod x i) = true) (fun c => c.1 = x.length ∨ isSp (cod x c.1.toNat) = false) (fun c => x.length - c.1.toNat) (⟨_, _⟩) (by assumption) (by assumption) (by kst_in) (by kst_all) ?start2 ?turn2 ?done2
    case start2 => exact ⟨Int.le_refl _, hb.2.2, fun i h h' => by dsimp only at h'; omega⟩
    case turn2 =>
      rintro ⟨k3, t3⟩ u3 h3 tk3 ⟨r1, r2, r3⟩ F3 N3
      dsimp only at r1 r2 r3 F3 N3
      have r0 : 0 ≤ k3 := by omega
      k_steps
      · exact ⟨.inr (sp_no r0 (by assumption) (by assumption))⟩
      · exact ⟨⟨⟨by dsimp only; omega, by dsimp only; omega, all_step r0 r3 (sp_yes r0 (by assumption) (by assumption))⟩, by dsimp only; omega⟩⟩
      · exact ⟨.inl (by dsimp only; omega)⟩
    case done2 =>
      rintro ⟨k3, t3⟩ u3 h3 tk3 ⟨r1, r2, r3⟩ r4 F3 N3
      dsimp only at r1 r2 r3 r4 F3 N3
      k_steps
      k_extra "end"; exact ⟨looks1 (by assumption) r1 r2 r3 r4⟩

end Mine
end
section
namespace Mine
theorem reg_F5 (h : PySem.Challenge.rw_nz0185_01 = PySem.Challenge.rw_nz0185_01) (g : ∀ w : World, Mine.mk.heap_1 w.params = Mine.mk.heap_1 w.params) : PySem.Challenge.rw_nz0185_01 = PySem.Challenge.rw_nz0185_01 ∧ ∀ w : World, Mine.mk.heap_1 w.params = Mine.mk.heap_1 w.params := by
  k_fill
  k_with_none
  k_with "enter" => (refine' enterK ?k1 ?k2 ?k3 ?k4 ?k5 ?kA ?kF ?kK ?k6 ?k7 ?k8 ?k9 ?kb ?kB ?_ ?c2 ?c3 ?c4 ?c5; (case kA => exact rfl); (case kF => exact rfl); (case kK => assumption); (case k1 => k_asm); (case k2 => k_asm); (case k3 => k_asm); (case k4 => k_asm); (case k5 => k_asm); (case k6 => k_is); (case k7 => k_is); (case k8 => ktr_room); (case k9 => exact BindsTo.of_eq rfl); (case kb => exact rfl); (case c5 => decide); (case kB => exact rfl); (case c2 => exact rfl); (case c3 => exact rfl); (case c4 => exact rfl); k_whole; intro g' L' h' tk' FG' F' N' B' X' T'; dsimp only [bindsOf, List.map, List.zip, List.zipWith, List.reverse, List.reverseAux] at F'; (try dsimp only); (try k_lift B'); (try k_fold))
  k_with "WlPost" => (dsimp only [WlPost])
  k_with "CutPost" => (dsimp only [CutPost])
  k_with "WlExit" => ((rename News _ _ _ _ => nE'); (refine' wl_exit (by assumption) nE' (by first | (with_reducible exact fun _ h9 => h9) | kst_in) (by kst_all) ?_))
  k_with "WlEnd" => ((rename News _ _ _ _ => nE'); first
  | (refine' wl_end ⟨⟩ (by assumption) nE' (by first | (with_reducible exact fun _ h9 => h9) | kst_in) (by kst_all) ?_)
  | (refine' wl_end ⟨_, _⟩ (by assumption) nE' (by first | (with_reducible exact fun _ h9 => h9) | kst_in) (by kst_all) ?_)
  | (refine' wl_end ⟨_, _, _⟩ (by assumption) nE' (by first | (with_reducible exact fun _ h9 => h9) | kst_in) (by kst_all) ?_)
  | (refine' wl_end ⟨_, _, _, _⟩ (by assumption) nE' (by first | (with_reducible exact fun _ h9 => h9) | kst_in) (by kst_all) ?_)
  | (refine' wl_end ⟨_, _, _, _, _⟩ (by assumption) nE' (by first | (with_reducible exact fun _ h9 => h9) | kst_in) (by kst_all) ?_)
  | (refine' wl_end ⟨_, _, _, _, _, _⟩ (by assumption) nE' (by first | (with_reducible exact fun _ h9 => h9) | kst_in) (by kst_all) ?_))
  k_with "CutEnd" => ((rename News _ _ _ _ => nE'); first
  | (refine' cut_end ⟨⟩ (by assumption) nE' (by first | (with_reducible exact fun _ h9 => h9) | kst_in) (by kst_all) ?_)
  | (refine' cut_end ⟨_, _⟩ (by assumption) nE' (by first | (with_reducible exact fun _ h9 => h9) | kst_in) (by kst_all) ?_)
  | (refine' cut_end ⟨_, _, _⟩ (by assumption) nE' (by first | (with_reducible exact fun _ h9 => h9) | kst_in) (by kst_all) ?_)
  | (refine' cut_end ⟨_, _, _, _⟩ (by assumption) nE' (by first | (with_reducible exact fun _ h9 => h9) | kst_in) (by kst_all) ?_)
  | (refine' cut_end ⟨_, _, _, _, _⟩ (by assumption) nE' (by first | (with_reducible exact fun _ h9 => h9) | kst_in) (by kst_all) ?_)
  | (refine' cut_end ⟨_, _, _, _, _, _⟩ (by assumption) nE' (by first | (with_reducible exact fun _ h9 => h9) | kst_in) (by kst_all) ?_))
  k_with "led" => (first | k_asm | (refine' kst_newsOf (by assumption) (by kst_in)))
  k_with "end" => (first | (refine' retI ?_ (hret _ _ _ (by k_asm) (by k_extra "led"))) | (refine' retS ?_ (hret _ _ _ (by k_asm) (by k_extra "led"))) | (refine' retB ?_ (hret _ _ (by k_asm) (by k_extra "led"))))
  k_with "exec While BoolOp cons nil" => refine Hold.out ?_
  k_with "exec While Compare cons nil" => refine Hold.out ?_
  k_with "exec If" => ((rename Mark => hm9); clear hm9; refine Hold.out ?_)
  k_with "sub" => (first | assumption | exact fun _ h9 => h9 | (intro p9 h9; (try dsimp only at h9); first | exact h9 | (simp only [List.mem_cons, List.mem_append, List.cons_append, List.nil_append] at h9 ⊢; first | (simp only [h9, true_or, or_true]; done) | grind)))
  k_with "FlPost" => (dsimp only [FlPost])
  k_with "FlEnd" => ((rename News _ _ _ _ => nE'); first
  | (refine' fl_end ⟨⟩ (by assumption) nE' (by k_extra "sub") (by k_extra "sub") (by kst_all) (by first | exact ⟨by assumption⟩ | skip) ?_)
  | (refine' fl_end ⟨_, _⟩ (by assumption) nE' (by k_extra "sub") (by k_extra "sub") (by kst_all) (by first | exact ⟨by assumption⟩ | skip) ?_)
  | (refine' fl_end ⟨_, _, _⟩ (by assumption) nE' (by k_extra "sub") (by k_extra "sub") (by kst_all) (by first | exact ⟨by assumption⟩ | skip) ?_)
  | (refine' fl_end ⟨_, _, _, _⟩ (by assumption) nE' (by k_extra "sub") (by k_extra "sub") (by kst_all) (by first | exact ⟨by assumption⟩ | skip) ?_))
  k_with "pyIter str" => refine Hold.out ?_
  k_with "pyIter ref" => refine Hold.out ?_
  k_with "pre" => first | assumption | omega
  exact ⟨h, g⟩
theorem ntext0_fn (w : World) (news : Led) (n : Int) (tn : Tok) (h1 : 0 ≤ n) (h2 : n.natAbs < 10 ^ 30) :
    FnC w 70 1 8 news [.int n tn] (fun k => ∀ t, k (.str (mkS (numText n)) t) news) := by
  unfold FnC
  intro mean mg mb dp un gd cn cs a ccd cl outer A₀ base h₀ L m s Q E B F X N T hk hd hu hret
  k_dflt k_extra "enter"
  k_steps
  refine ⟨?_⟩
  with_unfolding_all refine' wl_while (σ := Int × Tok × Str × Tok) (fun _ => news) (fun c => [(Str.ofString "n", .int c.1 c.2.1), (Str.ofString "text", .str c.2.2.1 c.2.2.2)]) (fun c => 0 ≤ c.1 ∧ c.2.2.1.length ≤ 30 ∧ digs n.toNat = preDigs c.1.toNat ++ lst c.2.2.1) (fun c => c.1 ≤ 9) (fun c => c.1.toNat) (⟨_, _, _, _⟩) (by assumption) (by assumption) (by kst_in) (by kst_all) ?start ?turn ?done
  case start =>
    have e := nt_start h1 rfl
    exact ⟨h1, nt_len h2 e, e⟩
  case turn =>
    rintro ⟨k, tk, x, tx⟩ u hh tkk ⟨p1, p3, p4⟩ F1 N1
    dsimp only at p1 p3 p4 F1 N1
    k_steps
    · have hk : 9 < k := by assumption
      have e := nt_step hk p4
      exact ⟨⟨⟨by rw [Int.fdiv_eq_ediv_of_nonneg _ (by decide)]; omega, nt_len h2 e, e⟩, by dsimp only; rw [Int.fdiv_eq_ediv_of_nonneg _ (by decide)]; omega⟩⟩
    · exact ⟨by dsimp only; omega⟩
  case done =>
    rintro ⟨k, tk, x, tx⟩ u hh tkk ⟨p1, p3, p4⟩ p5 F1 N1
    dsimp only at p1 p3 p4 p5 F1 N1
    k_steps
    k_extra "end"; exact ⟨nt_end h1 p1 p5 p4⟩
theorem ntext_fn (w : World) (news : Led) (n : Int) (tn : Tok) (h2 : n.natAbs < 10 ^ 30) :
    FnC w 70 2 16 news [.int n tn] (fun k => ∀ t, k (.str (mkS (numText n)) t) news) := by
  by_cases h1 : 0 ≤ n
  · intro mean mg mb dp un gd cn cs a ccd cl outer A₀ base h₀ L m s Q E B F X N T hk hd hu hret
    exact ntext0_fn w news n tn h1 h2 _ _ _ _ _ _ _ _ _ _ _ _ _ _ _ _ _ _ _ _ B F X N T hk (by omega) (by omega) hret
  · k_with "call ref" => (k_dflt (refine' FnC.use (ntext0_fn _ _ _ _ (by omega) (by omega)) (by k_asm) (by k_asm) (by k_asm) (by k_asm) (by k_asm) (by first | exact rfl | assumption) (by ktr_room) (by ktr_units) ?_); (try dsimp only); intros; (try k_fold))
    have hn : n < 0 := by omega
    have hlen := numText_len (n := -n) (by omega)
    unfold FnC
    intro mean mg mb dp un gd cn cs a ccd cl outer A₀ base h₀ L m s Q E B F X N T hk hd hu hret
    k_dflt k_extra "enter"
    k_steps
    k_extra "end"; exact ⟨nt_neg hn⟩

end Mine
end
section
open PySem PySem.W PyProof.Rows PySem.Calls PySem.Spec PyProof.V
namespace Mine
theorem canLayAll0_strs : ∀ ws : List Str, (∀ w ∈ ws, PyData.strOk w = true) → PyData.canLayAll0 (ws.map PyData.str) = true
  | [], _ => rfl
  | a :: r, h => by simp [PyData.canLayAll0, PyData.canLay0, h a (.head _), canLayAll0_strs r fun w hw => h w (.tail _ hw)]
theorem depthAll_strs : ∀ ws : List Str, PyData.depthAll (ws.map PyData.str) = 0
  | [] => rfl
  | _ :: r => by simp [PyData.depthAll, PyData.depth, depthAll_strs r]
theorem shaped_strs (ws : List Str) (h : ∀ w ∈ ws, PyData.strOk w = true) : SeqAt.shaped (.list (ws.map PyData.str)) = true := by
  simp [SeqAt.shaped, PyData.canLay0, PyData.depth, canLayAll0_strs ws h, depthAll_strs]
section
variable {prog : Program} {w : World} {A : Around} {E : Value → Shared → Prop} {s : Shared} {a b : Addr} {xs : List Value} {ws : List Str} {Q : Value → Shared → Prop}
theorem ne_strs0 (ha : s.heap.IsList a xs.toArray) (hb : s.heap.IsList b ([] : List Value).toArray) (hc : CarriedAll xs (ws.map PyData.str)) (ho : ∀ w ∈ ws, PyData.strOk w = true) (hu : A.units + 64 < cLine) (h : Q (.bool (!ws.isEmpty)) s) :
    wpAny (model prog w) A (compareOp .NotEq (.ref a) (.ref b)) Q E s :=
  ne_dataH_same (reads_newData ha hc) (reads_newData hb (ds := []) .nil) (shaped_strs _ ho) (shaped_strs [] (fun _ h => nomatch h)) hu (SeqAt.noMix_of_shape (.list .str) rfl _ _ (list_map_has fun _ => rfl) (list_map_has (g := PyData.str) (l := ([] : List Str)) fun _ => rfl)) (by
    have e : PySem.Spec.same (.list (ws.map PyData.str)) (.list []) = ws.isEmpty := by
      cases ws <;> simp [PySem.Spec.same, PySem.Spec.sameAll]
    rw [e]; exact h)
end
end Mine
namespace Mine
section
variable {prog : Program} {w : World} {A : Around} {E : Value → Shared → Prop} {s : Shared} {h₀ : Heap} {L d : Addr} {news : Led} {o : Obj} {kvs : List (Str × Value)} {x : Str} {t : Tok} {Q : Value → Shared → Prop}
theorem led_dict (N : News h₀ L s.heap news) (hm : (d, o) ∈ news) (hd : o.IsDictOf (PySem.strKind prog w) kvs) : s.heap.DictOf (PySem.strKind prog w) d kvs := Heap.dictOf_iff.mpr ⟨o, (N _ hm).1, hd⟩
theorem notIn_led (N : News h₀ L s.heap news) (hm : (d, o) ∈ news) (hd : o.IsDictOf (PySem.strKind prog w) kvs) (lo : (d == sysModules) = false) (h : Q (.bool (!(valueAt kvs x).isSome)) { s with toks := s.toks + 1 }) :
    wpAny (model prog w) A (compareOp .NotIn (.str x t) (.ref d)) Q E s := wpAny_notIn_of (strKind_is prog w x t) lo (led_dict N hm hd).mapOf h
theorem item_led {value slice : Expr} {v : Value} (N : News h₀ L s.heap news) (hm : (d, o) ∈ news) (hd : o.IsDictOf (PySem.strKind prog w) kvs) (hv : valueAt kvs x = some v) (h : Q v { s with toks := s.toks + 1 })
    (hs : subscripted slice false (.ref d) (.str x t) = operate [.ref d, .str x t] (getItem (.ref d) (.str x t)) := by with_unfolding_all rfl) :
    wpAny (model prog w) A (subscriptTail value slice (.ref d) (.str x t)) Q E s :=
  tail_any (led_dict N hm hd).mapOf.typeIs slot_dict_getitem.lookup (wpAny_getItem_of (strKind_is prog w x t) (led_dict N hm hd).mapOf hv h) hs
end
end Mine
end
section
namespace Mine
theorem sp_contains (c : Nat) : (Str.ofString " \t\n\x0d\x0c\x0b").cps.contains c = isSp c := by
  rw [show (Str.ofString " \t\n\x0d\x0c\x0b").cps = #[32, 9, 10, 13, 12, 11] from by decide +kernel]
  rw [Array.contains_eq_mem]
  rw [← tab128 (l := [32, 9, 10, 13, 12, 11]) (p := isSp) (by decide +kernel) (by decide +kernel) (fun c h => by unfold isSp; rw [big_out (by decide) h, Bool.or_false]; exact beq_eq_false_iff_ne.mpr (by omega)) c]
  simp only [List.mem_toArray]
theorem lstrip_body (x : Str) : lst (Txt.lstripChars x (Str.ofString " \t\n\x0d\x0c\x0b")) = bodyL (lst x) := by
  unfold Txt.lstripChars
  rw [PyProof.Rows.stripBy_eq]
  show (Builtin.Str.strSub _ _ _).cps.toList = _
  rw [StrLaws.strSub_toList]
  have e : (Str.ofString " \t\n\x0d\x0c\x0b").cps.contains = isSp := funext sp_contains
  unfold stripLo stripHi
  rw [e]
  simp only [if_true, Bool.false_eq_true, if_false]
  unfold bodyL
  rw [drop_tw, List.take_of_length_le]
  · rfl
  · rw [List.length_drop, len_lst]; exact Nat.le_refl _
theorem slice_take1 (x : Str) : lst (Txt.slice x none (some 1)) = (lst x).take 1 := slice_none (by decide)
theorem slice_from1 {x : Str} (h : 1 ≤ x.length) : lst (Txt.slice x (some 1) none) = (lst x).drop 1 := by
  have e : Txt.slice x (some 1) none = Txt.slice x (some 1) (some (x.length : Int)) := by
    unfold Txt.slice Builtin.Str.strSliceIndices
    have h1 : ¬ (x.length : Int) < 0 := by omega
    have e2 : max 0 (min (x.length : Int) (x.length : Int)) = x.length := by omega
    simp only [show (1 : Int) > 0 by decide, if_true, if_neg h1, e2]
  rw [e, slice_lst x 1 _ (by omega) (by omega) (by omega)]
  rw [List.take_of_length_le]
  · rfl
  · rw [List.length_drop, ← len_lst]; omega
theorem pm_any (x : Str) : ([Str.ofString "+", Str.ofString "-"].any fun z => z == Txt.slice x none (some 1)) = (match lst x with | c :: _ => decide (c = 43 ∨ c = 45) | [] => false) := by
  simp only [List.any_cons, List.any_nil, Bool.or_false, str_beq, slice_take1, lst_plus, lst_minus]
  cases lst x with
  | nil => simp
  | cons c r => simp only [List.take_succ_cons, List.take_zero, List.cons.injEq, and_true]; rw [Bool.eq_iff_iff]; simp; omega
theorem fig_any (x : Str) : (List.map PyData.str (PyProof.Rows.signs (Str.ofString "0123456789"))).any (PyProof.Rows.datHitsStr (Txt.slice x none (some 1))) = (match lst x with | c :: _ => isFig c | [] => false) := by
  have e : PyProof.Rows.signs (Str.ofString "0123456789") = [⟨#[48]⟩, ⟨#[49]⟩, ⟨#[50]⟩, ⟨#[51]⟩, ⟨#[52]⟩, ⟨#[53]⟩, ⟨#[54]⟩, ⟨#[55]⟩, ⟨#[56]⟩, ⟨#[57]⟩] := by decide +kernel
  rw [e]
  simp only [List.map_cons, List.map_nil, List.any_cons, List.any_nil, Bool.or_false, PyProof.Rows.datHitsStr, str_beq, slice_take1, lst_single]
  cases lst x with
  | nil => simp
  | cons c r =>
    simp only [List.take_succ_cons, List.take_zero, List.cons.injEq, and_true]
    by_cases h : c < 128
    · revert c; decide +kernel
    · have k : ∀ k, k < 128 → decide (k = c) = false := fun k hk => decide_eq_false (fun e => h (e ▸ hk))
      rw [show isFig c = false from big_out (by decide) (Nat.le_of_not_lt h)]
      simp only [k 48 (by decide), k 49 (by decide), k 50 (by decide), k 51 (by decide), k 52 (by decide), k 53 (by decide), k 54 (by decide), k 55 (by decide), k 56 (by decide), k 57 (by decide), Bool.or_false]
theorem pm_yes {x : Str} (h : ([Str.ofString "+", Str.ofString "-"].any fun z => z == Txt.slice x none (some 1)) = true) : ∃ c r, lst x = c :: r ∧ (c = 43 ∨ c = 45) ∧ 1 ≤ x.length := by
  rw [pm_any] at h
  cases e : lst x with
  | nil => rw [e] at h; simp at h
  | cons c r => rw [e] at h; exact ⟨c, r, rfl, by simpa using h, by rw [len_lst, e]; simp⟩
theorem fig_yes1 {x : Str} (h : (List.map PyData.str (PyProof.Rows.signs (Str.ofString "0123456789"))).any (PyProof.Rows.datHitsStr (Txt.slice x none (some 1))) = true) : ∃ c r, lst x = c :: r ∧ isFig c = true ∧ 1 ≤ x.length := by
  rw [fig_any] at h
  cases e : lst x with
  | nil => rw [e] at h; simp at h
  | cons c r => rw [e] at h; exact ⟨c, r, rfl, by simpa using h, by rw [len_lst, e]; simp⟩
theorem item0 {x : Str} {c : Nat} {r : List Nat} (e : lst x = c :: r) : Txt.item x 0 = ⟨#[c]⟩ := by
  rw [item_cod (by omega) (by rw [len_lst, e]; simp), Int.toNat_zero, cod_lst, e]; rfl
theorem lh1 {x y : Str} (hr : lst y = bodyL (lst x)) (h : ([Str.ofString "+", Str.ofString "-"].any fun z => z == Txt.slice y none (some 1)) = true) {b : Bool} (hb : (Txt.item y 0 == Str.ofString "-") = b) :
    (if b then (-1 : Int) else 1) = (if neg (lst x) then -1 else 1) ∧ lst (Txt.slice y (some 1) none) = (bodyL (lst x)).drop (sg (lst x)) := by
  obtain ⟨c, r, e, hc, hl⟩ := pm_yes h
  rw [item0 e, str_beq, lst_minus, lst_single] at hb
  rw [slice_from1 hl, e]
  have e2 : bodyL (lst x) = c :: r := by rw [← hr, e]
  constructor
  · unfold neg; rw [e2]
    subst hb
    by_cases h45 : c = 45 <;> simp [h45]
  · unfold sg; rw [e2]
    simp only [if_pos hc]
theorem lh2 {x y : Str} (hr : lst y = bodyL (lst x)) (h : ([Str.ofString "+", Str.ofString "-"].any fun z => z == Txt.slice y none (some 1)) = false) :
    (1 : Int) = (if neg (lst x) then -1 else 1) ∧ lst y = (bodyL (lst x)).drop (sg (lst x)) := by
  rw [pm_any, hr] at h
  rw [hr]
  unfold neg sg
  cases e : bodyL (lst x) with
  | nil => simp
  | cons c r =>
    rw [e] at h
    simp only [decide_eq_false_iff_not] at h
    have h1 : c ≠ 45 := fun k => h (.inr k)
    have h2 : c ≠ 43 := fun k => h (.inl k)
    simp [h1, h2]
noncomputable def LhP (y d z : Str) : Prop := (lst d).all isFig = true ∧ lst d ++ lst z = lst y
theorem LhP.len {y d z : Str} (p : LhP y d z) : d.length + z.length = y.length := by
  rw [len_lst, len_lst, len_lst, ← p.2, List.length_append]
theorem LhP.step {y d z : Str} (p : LhP y d z) (h : (List.map PyData.str (PyProof.Rows.signs (Str.ofString "0123456789"))).any (PyProof.Rows.datHitsStr (Txt.slice z none (some 1))) = true) :
    LhP y (d ++ Txt.item z 0) (Txt.slice z (some 1) none) ∧ (Txt.slice z (some 1) none).length < z.length := by
  obtain ⟨c, r, e, hc, hl⟩ := fig_yes1 h
  have e1 : lst (Txt.slice z (some 1) none) = r := by rw [slice_from1 hl, e]; rfl
  refine ⟨⟨?_, ?_⟩, ?_⟩
  · rw [lst_append, item0 e, lst_single, List.all_append, p.1]; simp [hc]
  · rw [lst_append, item0 e, lst_single, e1, ← p.2, e, List.append_assoc]; rfl
  · rw [len_lst, len_lst, e1, e]; simp
theorem LhP.stop {z : Str} (h : (List.map PyData.str (PyProof.Rows.signs (Str.ofString "0123456789"))).any (PyProof.Rows.datHitsStr (Txt.slice z none (some 1))) = false) : (lst z).takeWhile isFig = [] := by
  rw [fig_any] at h
  cases e : lst z with
  | nil => rfl
  | cons c r => rw [e] at h; simp at h; simp [h]
theorem tw_app {p : Nat → Bool} : ∀ {a b : List Nat}, a.all p = true → b.takeWhile p = [] → (a ++ b).takeWhile p = a ∧ (a ++ b).dropWhile p = b
  | [], b, _, h => by
    cases b with
    | nil => exact ⟨rfl, rfl⟩
    | cons c r =>
      by_cases hc : p c = true
      · simp [hc] at h
      · simp [hc]
  | c :: r, b, h, h2 => by
    simp only [List.all_cons, Bool.and_eq_true] at h
    have ih := tw_app (p := p) h.2 h2
    simp [h.1, ih.1, ih.2]
theorem LhP.fin {x y d z : Str} (hy : lst y = (bodyL (lst x)).drop (sg (lst x))) (p : LhP y d z) (h : (lst z).takeWhile isFig = []) : lst d = ds (lst x) ∧ lst z = restL (lst x) := by
  have t := tw_app p.1 h
  rw [p.2, hy] at t
  exact ⟨t.1.symm, t.2.symm⟩
theorem val_cons (c : Nat) (r : List Nat) : val (c :: r) = (c - 48) * 10 ^ r.length + val r := by
  have gen : ∀ (l : List Nat) (a : Nat), l.foldl (fun a c => 10 * a + (c - 48)) a = a * 10 ^ l.length + val l := by
    intro l
    induction l with
    | nil => intro a; simp [val]
    | cons b l ih =>
      intro a
      have e : val (b :: l) = l.foldl (fun a c => 10 * a + (c - 48)) (10 * 0 + (b - 48)) := rfl
      rw [List.foldl_cons, e, ih, ih]
      rw [List.length_cons, Nat.pow_succ, Nat.add_mul]
      rw [show 10 * a * 10 ^ l.length = a * (10 ^ l.length * 10) by rw [Nat.mul_comm 10 a, Nat.mul_assoc, Nat.mul_comm 10]]
      simp; omega
  have e : val (c :: r) = r.foldl (fun a c => 10 * a + (c - 48)) (10 * 0 + (c - 48)) := rfl
  rw [e, gen]
  simp
theorem item_back {d : Str} {i : Nat} (hi : i < d.length) : Txt.item d (-1 - (i : Int)) = ⟨#[cod d (d.length - 1 - i)]⟩ := by
  have h := item_closes_neg (x := d) (i := -1 - (i : Int)) (j := ((d.length - 1 - i : Nat) : Int)) (by omega) (by omega) (by omega)
  rw [beq_iff_eq] at h
  rw [h, Int.toNat_natCast]; rfl
theorem lh_cod {d : Str} {i : Nat} (hd : (lst d).all isFig = true) (hi : i < d.length) : ((Txt.item d (-1 - (i : Int))).cps.getD 0 0 : Int) - 48 = ((cod d (d.length - 1 - i) - 48 : Nat) : Int) ∧ cod d (d.length - 1 - i) ≤ 57 := by
  rw [item_back hi]
  have hm := List.all_eq_true.mp hd _ (cod_mem (x := d) (i := d.length - 1 - i) (by omega))
  simp only [isFig, Bool.and_eq_true, decide_eq_true_eq] at hm
  constructor
  · show ((cod d (d.length - 1 - i) : Nat) : Int) - 48 = _
    omega
  · exact hm.2
theorem lh_mul {d : Str} {i : Nat} (hd : (lst d).all isFig = true) (hi : i < d.length) : IntMulOk (((Txt.item d (-1 - (i : Int))).cps.getD 0 0 : Int) - 48) (10 ^ (i : Int).toNat) := by
  have h := lh_cod hd hi
  refine IntMulOk.of_left (intBits_le_64 ?_ ?_) <;> (rw [h.1]; have := h.2; omega)
theorem lh_step {d : Str} {i : Nat} {k : Int} (hd : (lst d).all isFig = true) (hi : i < d.length) (p : k = (val ((lst d).drop (d.length - i)) : Int)) :
    k + (((Txt.item d (-1 - (i : Int))).cps.getD 0 0 : Int) - 48) * 10 ^ (i : Int).toNat = (val ((lst d).drop (d.length - (i + 1))) : Int) := by
  have h := lh_cod hd hi
  rw [h.1, show d.length - (i + 1) = d.length - 1 - i by omega, drop_cod (x := d) (i := d.length - 1 - i) (by omega), val_cons]
  rw [show d.length - 1 - i + 1 = d.length - i by omega, p, List.length_drop, ← len_lst, show d.length - (d.length - i) = i by omega, Int.toNat_natCast]
  push_cast
  omega
end Mine
namespace Mine
theorem lh_num {x d : Str} {tn k : Int} (q : tn = if neg (lst x) then -1 else 1) (hd : lst d = ds (lst x)) (p : k = (val ((lst d).drop (d.length - d.length)) : Int)) : tn * k = num (lst x) := by
  rw [Nat.sub_self, List.drop_zero, hd] at p
  subst q p
  unfold num
  split <;> omega
theorem lh_b {x d : Str} (hd : lst d = ds (lst x)) : (!(d == Str.ofString "")) = !(ds (lst x)).isEmpty := by
  rw [str_beq, hd, show lst (Str.ofString "") = [] from by decide +kernel]
  cases ds (lst x) <;> simp
theorem lh_z {x z : Str} (hz : lst z = restL (lst x)) : z = mkS (restL (lst x)) := ext_lst (by rw [lst_mkS, hz])
end Mine
end
section
namespace Mine
noncomputable def one (c : Nat) : Str := ⟨#[c]⟩
theorem signs_one (x : Str) : PyProof.Rows.signs x = (lst x).map one := rfl
theorem filter_one {P : Str → Bool} {p : Nat → Bool} (h : ∀ c, P (one c) = p c) (x : Str) : (PyProof.Rows.signs x).filter P = ((lst x).filter p).map one := by
  rw [signs_one, List.filter_map]
  congr 2
  funext c; exact h c
theorem lt1 (c d : Nat) : decide ((one c).cps.toList < [d]) = decide (c < d) := by
  rw [Bool.eq_iff_iff, decide_eq_true_iff, decide_eq_true_iff]
  show [c] < [d] ↔ _
  rw [List.cons_lt_cons_iff]; simp
theorem lt2 (c d : Nat) : decide ([d] < (one c).cps.toList) = decide (d < c) := by
  rw [Bool.eq_iff_iff, decide_eq_true_iff, decide_eq_true_iff]
  show [d] < [c] ↔ _
  rw [List.cons_lt_cons_iff]; simp
theorem letP (c : Nat) : (if (!decide ((one c).cps.toList < (Str.ofString "a").cps.toList)) = true then if (!decide ((Str.ofString "z").cps.toList < (one c).cps.toList)) = true then true else if (!decide ((one c).cps.toList < (Str.ofString "A").cps.toList)) = true then if (!decide ((Str.ofString "Z").cps.toList < (one c).cps.toList)) = true then true else false else false else if (!decide ((one c).cps.toList < (Str.ofString "A").cps.toList)) = true then if (!decide ((Str.ofString "Z").cps.toList < (one c).cps.toList)) = true then true else false else false) = isLet c := by
  rw [show (Str.ofString "a").cps.toList = [97] from by decide +kernel, show (Str.ofString "z").cps.toList = [122] from by decide +kernel, show (Str.ofString "A").cps.toList = [65] from by decide +kernel, show (Str.ofString "Z").cps.toList = [90] from by decide +kernel, lt1, lt1, lt2, lt2]
  unfold isLet isSm isGr
  by_cases h1 : c < 97 <;> by_cases h2 : 122 < c <;> by_cases h3 : c < 65 <;> by_cases h4 : 90 < c <;> simp [h1, h2, h3, h4] <;> omega
theorem figP (c : Nat) : (if (!decide ((one c).cps.toList < (Str.ofString "0").cps.toList)) = true then !decide ((Str.ofString "9").cps.toList < (one c).cps.toList) else false) = isFig c := by
  rw [show (Str.ofString "0").cps.toList = [48] from by decide +kernel, show (Str.ofString "9").cps.toList = [57] from by decide +kernel, lt1, lt2]
  unfold isFig
  by_cases h1 : c < 48 <;> by_cases h2 : 57 < c <;> simp [h1, h2] <;> omega
theorem one_ok {c : Nat} (h : c < 128) : PyData.strOk (one c) = true := by
  unfold PyData.strOk one; simp; omega
end Mine
namespace Mine
theorem join_ones (l : List Nat) : lst (Txt.join (Str.ofString "") (l.map one)) = l := by
  have key : ∀ l : List Nat, lst (Str.join (Str.ofString "") (l.map one)) = l := by
    intro l
    induction l with
    | nil => rfl
    | cons c r ih =>
      cases r with
      | nil => rfl
      | cons d r =>
        show lst (one c ++ Str.ofString "" ++ Str.join (Str.ofString "") ((d :: r).map one)) = _
        rw [lst_append, lst_append, ih, show lst (Str.ofString "") = [] from by decide +kernel]
        rfl
  have e := join_plain_closes (Str.ofString "") (l.map one)
  rw [beq_iff_eq] at e
  rw [e]; exact key l
theorem let_notfig {c : Nat} (h : isLet c = true) : isFig c = false := by
  simp [isLet, isSm, isGr] at h
  simp [isFig]; omega
theorem fig_notlet {c : Nat} (h : isFig c = true) : isLet c = false := by
  simp [isFig] at h
  simp [isLet, isSm, isGr]; omega
theorem filter_none {p : Nat → Bool} {l : List Nat} (h : ∀ c ∈ l, p c = false) : l.filter p = [] := by
  rw [List.filter_eq_nil_iff]; exact fun a ha => by rw [h a ha]; simp
theorem magic_filter (l : List Nat) : magic l = (!(l.filter isLet).isEmpty && decide (l.filter isLet ++ l.filter isFig = l)) := by
  rw [Bool.eq_iff_iff]
  simp only [Bool.and_eq_true, decide_eq_true_iff]
  constructor
  · intro h
    unfold magic at h
    simp only [Bool.and_eq_true] at h
    have e := List.takeWhile_append_dropWhile (p := isLet) (l := l)
    have h1 := all_takeWhile isLet l
    have f1 : l.filter isLet = l.takeWhile isLet := by
      conv => lhs; rw [← e]
      rw [List.filter_append, filter_all h1, filter_none (fun c hc => fig_notlet (List.all_eq_true.mp h.2 c hc)), List.append_nil]
    have f2 : l.filter isFig = l.dropWhile isLet := by
      conv => lhs; rw [← e]
      rw [List.filter_append, filter_all h.2, filter_none (fun c hc => let_notfig (List.all_eq_true.mp h1 c hc)), List.nil_append]
    rw [f1, f2]
    exact ⟨h.1, e⟩
  · rintro ⟨h1, h2⟩
    have t := tw_app (p := isLet) (a := l.filter isLet) (b := l.filter isFig) (List.all_eq_true.mpr fun c hc => (List.mem_filter.mp hc).2) (by
      cases e : l.filter isFig with
      | nil => rfl
      | cons c r =>
        have : isFig c = true := (List.mem_filter.mp (e ▸ List.mem_cons_self : c ∈ l.filter isFig)).2
        simp [fig_notlet this])
    rw [h2] at t
    unfold magic
    rw [t.1, t.2, Bool.and_eq_true]
    exact ⟨h1, List.all_eq_true.mpr fun c hc => (List.mem_filter.mp hc).2⟩
theorem lm_end (x : Str) (h : ((lst x).filter isLet).map one ≠ []) : (Txt.join (Str.ofString "") (((lst x).filter isLet).map one ++ ((lst x).filter isFig).map one) == x) = magic (lst x) := by
  rw [str_beq, ← List.map_append, join_ones, magic_filter]
  have : ((lst x).filter isLet).isEmpty = false := by
    cases e : (lst x).filter isLet with
    | nil => rw [e] at h; exact absurd rfl h
    | cons => rfl
  rw [this]; rfl
theorem lm_end0 (x : Str) (h : (((lst x).filter isLet).map one).isEmpty = true) : false = magic (lst x) := by
  rw [magic_filter]
  have : ((lst x).filter isLet) = [] := by
    cases e : (lst x).filter isLet with
    | nil => rfl
    | cons => rw [e] at h; simp at h
  rw [this]; rfl
theorem sum_ones (l : List Nat) : ((l.map one).map (·.length)).sum = l.length := by
  induction l with
  | nil => rfl
  | cons c r ih => simp only [List.map_cons, List.sum_cons, ih, List.length_cons]; show 1 + _ = _; omega
end Mine
end
section
namespace Mine
theorem reg_F14 (h : PySem.Challenge.rw_nz0185_01 = PySem.Challenge.rw_nz0185_01) (g : ∀ w : World, Mine.mk.heap_1 w.params = Mine.mk.heap_1 w.params) : PySem.Challenge.rw_nz0185_01 = PySem.Challenge.rw_nz0185_01 ∧ ∀ w : World, Mine.mk.heap_1 w.params = Mine.mk.heap_1 w.params := by
  k_fill
  k_with_none
  k_with "enter" => (refine' enterK ?k1 ?k2 ?k3 ?k4 ?k5 ?kA ?kF ?kK ?k6 ?k7 ?k8 ?k9 ?kb ?kB ?_ ?c2 ?c3 ?c4 ?c5; (case kA => exact rfl); (case kF => exact rfl); (case kK => assumption); (case k1 => k_asm); (case k2 => k_asm); (case k3 => k_asm); (case k4 => k_asm); (case k5 => k_asm); (case k6 => k_is); (case k7 => k_is); (case k8 => ktr_room); (case k9 => exact BindsTo.of_eq rfl); (case kb => exact rfl); (case c5 => decide); (case kB => exact rfl); (case c2 => exact rfl); (case c3 => exact rfl); (case c4 => exact rfl); k_whole; intro g' L' h' tk' FG' F' N' B' X' T'; dsimp only [bindsOf, List.map, List.zip, List.zipWith, List.reverse, List.reverseAux] at F'; (try dsimp only); (try k_lift B'); (try k_fold))
  k_with "WlPost" => (dsimp only [WlPost])
  k_with "CutPost" => (dsimp only [CutPost])
  k_with "WlExit" => ((rename News _ _ _ _ => nE'); (refine' wl_exit (by assumption) nE' (by first | (with_reducible exact fun _ h9 => h9) | kst_in) (by kst_all) ?_))
  k_with "WlEnd" => ((rename News _ _ _ _ => nE'); first
  | (refine' wl_end ⟨⟩ (by assumption) nE' (by first | (with_reducible exact fun _ h9 => h9) | kst_in) (by kst_all) ?_)
  | (refine' wl_end ⟨_, _⟩ (by assumption) nE' (by first | (with_reducible exact fun _ h9 => h9) | kst_in) (by kst_all) ?_)
  | (refine' wl_end ⟨_, _, _⟩ (by assumption) nE' (by first | (with_reducible exact fun _ h9 => h9) | kst_in) (by kst_all) ?_)
  | (refine' wl_end ⟨_, _, _, _⟩ (by assumption) nE' (by first | (with_reducible exact fun _ h9 => h9) | kst_in) (by kst_all) ?_)
  | (refine' wl_end ⟨_, _, _, _, _⟩ (by assumption) nE' (by first | (with_reducible exact fun _ h9 => h9) | kst_in) (by kst_all) ?_)
  | (refine' wl_end ⟨_, _, _, _, _, _⟩ (by assumption) nE' (by first | (with_reducible exact fun _ h9 => h9) | kst_in) (by kst_all) ?_))
  k_with "CutEnd" => ((rename News _ _ _ _ => nE'); first
  | (refine' cut_end ⟨⟩ (by assumption) nE' (by first | (with_reducible exact fun _ h9 => h9) | kst_in) (by kst_all) ?_)
  | (refine' cut_end ⟨_, _⟩ (by assumption) nE' (by first | (with_reducible exact fun _ h9 => h9) | kst_in) (by kst_all) ?_)
  | (refine' cut_end ⟨_, _, _⟩ (by assumption) nE' (by first | (with_reducible exact fun _ h9 => h9) | kst_in) (by kst_all) ?_)
  | (refine' cut_end ⟨_, _, _, _⟩ (by assumption) nE' (by first | (with_reducible exact fun _ h9 => h9) | kst_in) (by kst_all) ?_)
  | (refine' cut_end ⟨_, _, _, _, _⟩ (by assumption) nE' (by first | (with_reducible exact fun _ h9 => h9) | kst_in) (by kst_all) ?_)
  | (refine' cut_end ⟨_, _, _, _, _, _⟩ (by assumption) nE' (by first | (with_reducible exact fun _ h9 => h9) | kst_in) (by kst_all) ?_))
  k_with "led" => (first | k_asm | (refine' kst_newsOf (by assumption) (by kst_in)))
  k_with "end" => (first | (refine' retI ?_ (hret _ _ _ (by k_asm) (by k_extra "led"))) | (refine' retS ?_ (hret _ _ _ (by k_asm) (by k_extra "led"))) | (refine' retB ?_ (hret _ _ (by k_asm) (by k_extra "led"))))
  k_with "exec While BoolOp cons nil" => refine Hold.out ?_
  k_with "exec While Compare cons nil" => refine Hold.out ?_
  k_with "exec If" => ((rename Mark => hm9); clear hm9; refine Hold.out ?_)
  k_with "sub" => (first | assumption | exact fun _ h9 => h9 | (intro p9 h9; (try dsimp only at h9); first | exact h9 | (simp only [List.mem_cons, List.mem_append, List.cons_append, List.nil_append] at h9 ⊢; first | (simp only [h9, true_or, or_true]; done) | grind)))
  k_with "FlPost" => (dsimp only [FlPost])
  k_with "FlEnd" => ((rename News _ _ _ _ => nE'); first
  | (refine' fl_end ⟨⟩ (by assumption) nE' (by k_extra "sub") (by k_extra "sub") (by kst_all) (by first | exact ⟨by assumption⟩ | skip) ?_)
  | (refine' fl_end ⟨_, _⟩ (by assumption) nE' (by k_extra "sub") (by k_extra "sub") (by kst_all) (by first | exact ⟨by assumption⟩ | skip) ?_)
  | (refine' fl_end ⟨_, _, _⟩ (by assumption) nE' (by k_extra "sub") (by k_extra "sub") (by kst_all) (by first | exact ⟨by assumption⟩ | skip) ?_)
  | (refine' fl_end ⟨_, _, _, _⟩ (by assumption) nE' (by k_extra "sub") (by k_extra "sub") (by kst_all) (by first | exact ⟨by assumption⟩ | skip) ?_))
  k_with "pyIter str" => ((with_reducible show wpAny _ _ (pyIter _) (fun it s₂ => LoopAtV _ _ _ _ _ _ _ _ _ it s₂) _ _); refine Hold.out ?_)
  k_with "pyIter ref" => ((with_reducible show wpAny _ _ (pyIter _) (fun it s₂ => LoopAtV _ _ _ _ _ _ _ _ _ it s₂) _ _); refine Hold.out ?_)
  k_with "call ref" => (k_dflt (refine' enterQ (by exact rfl) (by exact rfl) (by first | exact rfl | assumption) (by k_asm) (by k_asm) (by k_asm) (by k_asm) (by k_asm) (by k_is) (by k_is) (by ktr_room) (by exact BindsTo.of_eq rfl) (by exact rfl) (by exact rfl) (by exact rfl) (by exact rfl) (by exact rfl) (by decide) ?_); k_whole; intro g' L' h' tk' FG' F' N' B' X' T'; dsimp only [bindsOf, List.map, List.zip, List.zipWith, List.reverse, List.reverseAux] at F'; (try dsimp only); (try k_lift B'); (try k_fold))
  k_with "pre" => first | assumption | omega
  exact ⟨h, g⟩
theorem lmagic_fn (w : World) (news : Led) (x : Str) (tx : Tok) (hx : x.length ≤ 1000) :
    FnC w 445 2 160 news [.str x tx] (fun k => k (.bool (magic (lst x))) news) := by
  unfold FnC
  intro mean mg mb dp un gd cn cs a ccd cl outer A₀ base h₀ L m s Q E B F X N T hk hd hu hret
  k_with "compareOp NotEq ref ref" => refine Hold.out ?_
  k_with "binaryOp Add ref ref" => refine Hold.out ?_
  k_with "call builtin:str.join" => refine Hold.out ?_
  k_dflt k_extra "enter"
  k_steps
  refine ⟨?_⟩
  rename CarriedAll _ _ => c2
  revert c2
  rename CarriedAll _ _ => c1
  intro c2
  rw [filter_one letP] at c1
  rw [filter_one figP] at c2
  have s1 := StrsAre.of_carried c1
  have s2 := StrsAre.of_carried c2
  have n1 := s1.length
  have n2 := s2.length
  have m1 := List.length_filter_le isLet (lst x)
  have m2 := List.length_filter_le isFig (lst x)
  rw [List.length_map] at n1 n2
  rw [← len_lst] at m1 m2
  k_dflt (refine ne_strs0 (by is_list) (by is_list) c1 ?ok (by ktr_units) ?_)
  case ok =>
    intro v hv
    obtain ⟨c, hc, rfl⟩ := List.mem_map.mp hv
    have := (List.mem_filter.mp hc).2
    exact one_ok (by simp [isLet, isSm, isGr] at this; omega)
  k_steps
  · k_extra "end"
    rename List.isEmpty _ = true => he
    rw [he]
    exact ⟨lm_end0 x he⟩
  · refine ⟨?_⟩
    refine' add_arrays (by k_asm) (by k_asm) (by is_list) (by is_list) ?_ ?sz
    case sz => simp only [List.size_toArray]; rw [sizeLine_eq]; omega
    intro hh F1 N1
    k_steps
    refine ⟨?_⟩
    k_dflt (refine join_list (ys := ((lst x).filter isLet).map one ++ ((lst x).filter isFig).map one) (by is_list) (StrsAre.append' s1 s2) ?hok ?_)
    case hok =>
      rw [List.map_append, List.sum_append, sum_ones, sum_ones, List.length_append, List.length_map, List.length_map, show (Str.ofString "").length = 0 by decide]
      omega
    intro tj kj
    (try dsimp only)
    have hlen : (Txt.join (Str.ofString "") (((lst x).filter isLet).map one ++ ((lst x).filter isFig).map one)).length ≤ 2000 := by
      rw [len_lst, ← List.map_append, join_ones, List.length_append]; omega
    rename List.isEmpty _ = false => he
    have he' : ((lst x).filter isLet).map one ≠ [] := by intro h; rw [h] at he; simp at he
    k_steps
    k_extra "end"; exact ⟨lm_end x he'⟩

end Mine
end
section
namespace Mine
theorem slice_init {x : Str} (h : 1 ≤ x.length) : lst (Txt.slice x none (some (-1))) = (lst x).take (x.length - 1) := by
  have e : Txt.slice x none (some (-1)) = Txt.slice x none (some ((x.length - 1 : Nat) : Int)) := by
    unfold Txt.slice Builtin.Str.strSliceIndices
    have h1 : ¬ ((x.length - 1 : Nat) : Int) < 0 := by omega
    have e2 : max 0 (min (-1 + (x.length : Int)) (x.length : Int)) = max 0 (min ((x.length - 1 : Nat) : Int) (x.length : Int)) := by rw [show -1 + (x.length : Int) = ((x.length - 1 : Nat) : Int) by omega]
    simp only [show (1 : Int) > 0 by decide, if_true, if_neg h1, show (-1 : Int) < 0 by decide, e2]
  rw [e, slice_none (by omega), Int.toNat_natCast]
theorem item_last {x : Str} (h : 1 ≤ x.length) : Txt.item x (-1) = one (cod x (x.length - 1)) := by
  have := item_back (d := x) (i := 0) (by omega)
  simpa [one] using this
theorem init_last {x : Str} (h : 1 ≤ x.length) : lst x = lst (Txt.slice x none (some (-1))) ++ [cod x (x.length - 1)] := by
  rw [slice_init h]
  have := take_cod (y := x) (i := x.length - 1) (by omega)
  rw [show x.length - 1 + 1 = x.length by omega, len_lst, List.take_length] at this
  rw [len_lst]; exact this
theorem init_len {x : Str} (h : 1 ≤ x.length) : (Txt.slice x none (some (-1))).length = x.length - 1 := by
  rw [len_lst, slice_init h, List.length_take, ← len_lst]; omega
noncomputable def secOf (c : Nat) : Str := mkS (nextL [c])
noncomputable def tupO (vs : Array Value) : Obj := { cls := .type "tuple", data := .seq vs }
theorem next_at {D1 D2 D3 : Addr} {k1 k2 k3 : Tok} {c : Nat} : valueAt (strPairs [(Value.str (Str.ofString "z") k1, Value.ref D1), (Value.str (Str.ofString "Z") k2, Value.ref D2), (Value.str (Str.ofString "9") k3, Value.ref D3)]) (one c) = (if c = 122 then some (.ref D1) else if c = 90 then some (.ref D2) else if c = 57 then some (.ref D3) else none) := by
  have e1 : ∀ d : Nat, (decide ((one d) = one c)) = decide (c = d) := fun d => by
    rw [Bool.eq_iff_iff, decide_eq_true_iff, decide_eq_true_iff]
    exact ⟨fun h => by have := congrArg lst h; simp [one, lst] at this; exact this.symm, fun h => by rw [h]⟩
  show ((List.find? (fun kv => decide (kv.1 = one c)) [(Str.ofString "z", Value.ref D1), (Str.ofString "Z", Value.ref D2), (Str.ofString "9", Value.ref D3)]).map (·.2)) = _
  rw [show Str.ofString "z" = one 122 from by decide +kernel, show Str.ofString "Z" = one 90 from by decide +kernel, show Str.ofString "9" = one 57 from by decide +kernel]
  simp only [List.find?_cons, List.find?_nil, e1]
  by_cases h1 : c = 122
  · simp [h1]
  · by_cases h2 : c = 90
    · simp [h2]
    · by_cases h3 : c = 57
      · simp [h3]
      · simp [h1, h2, h3]
theorem next_tab {h₀ hh : Heap} {L : Addr} {led : Led} {D1 D2 D3 : Addr} {k1 k2 k3 a1 a2 a3 b1 b2 b3 : Tok} {x : Str} (hx : 1 ≤ x.length) (_N : News h₀ L hh led)
    (h : (valueAt (strPairs [(Value.str (Str.ofString "z") k1, Value.ref D1), (Value.str (Str.ofString "Z") k2, Value.ref D2), (Value.str (Str.ofString "9") k3, Value.ref D3)]) (Txt.item x (-1))).isSome = true)
    (m1 : (D1, tupO #[.str (Str.ofString "a") a1, .str (Str.ofString "aa") b1]) ∈ led) (m2 : (D2, tupO #[.str (Str.ofString "A") a2, .str (Str.ofString "AA") b2]) ∈ led) (m3 : (D3, tupO #[.str (Str.ofString "0") a3, .str (Str.ofString "10") b3]) ∈ led) :
    isEnd (cod x (x.length - 1)) = true ∧ ∃ D t1 t2, valueAt (strPairs [(Value.str (Str.ofString "z") k1, Value.ref D1), (Value.str (Str.ofString "Z") k2, Value.ref D2), (Value.str (Str.ofString "9") k3, Value.ref D3)]) (Txt.item x (-1)) = some (.ref D) ∧
      (D, { cls := .type "tuple", data := .seq #[.str (one (firstOf (cod x (x.length - 1)))) t1, .str (secOf (cod x (x.length - 1))) t2] }) ∈ led := by
  rw [item_last hx, next_at] at h ⊢
  generalize cod x (x.length - 1) = c at h ⊢
  by_cases h1 : c = 122
  · subst h1
    exact ⟨rfl, D1, a1, b1, rfl, by rw [show one (firstOf 122) = Str.ofString "a" from by decide +kernel, show secOf 122 = Str.ofString "aa" from by decide +kernel]; exact m1⟩
  · by_cases h2 : c = 90
    · subst h2
      exact ⟨rfl, D2, a2, b2, rfl, by rw [show one (firstOf 90) = Str.ofString "A" from by decide +kernel, show secOf 90 = Str.ofString "AA" from by decide +kernel]; exact m2⟩
    · by_cases h3 : c = 57
      · subst h3
        exact ⟨rfl, D3, a3, b3, rfl, by rw [show one (firstOf 57) = Str.ofString "0" from by decide +kernel, show secOf 57 = Str.ofString "10" from by decide +kernel]; exact m3⟩
      · simp [h1, h2, h3] at h
theorem next_none {D1 D2 D3 : Addr} {k1 k2 k3 : Tok} {x : Str} (hx : 1 ≤ x.length)
    (h : (valueAt (strPairs [(Value.str (Str.ofString "z") k1, Value.ref D1), (Value.str (Str.ofString "Z") k2, Value.ref D2), (Value.str (Str.ofString "9") k3, Value.ref D3)]) (Txt.item x (-1))).isSome = false) : isEnd (cod x (x.length - 1)) = false := by
  rw [item_last hx, next_at] at h
  unfold isEnd
  by_cases h1 : cod x (x.length - 1) = 122
  · simp [h1] at h
  · by_cases h2 : cod x (x.length - 1) = 90
    · simp [h2] at h
    · by_cases h3 : cod x (x.length - 1) = 57
      · simp [h3] at h
      · simp [h1, h2, h3]
theorem next_ord {x : Str} (hx : 1 ≤ x.length) (hc : ∀ c ∈ lst x, c < 123) : (Txt.item x (-1)).cps.getD 0 0 < 123 ∧ (Txt.item x (-1)).cps.getD 0 0 = cod x (x.length - 1) := by
  rw [item_last hx]
  exact ⟨hc _ (cod_mem (by omega)), rfl⟩
theorem next_init {x : Str} (hx : 1 ≤ x.length) (hc : ∀ c ∈ lst x, c < 123) : ∀ c ∈ lst (Txt.slice x none (some (-1))), c < 123 := fun c h => hc c (by rw [init_last hx]; exact List.mem_append_left _ h)
theorem next_endA {x : Str} (hx : 1 ≤ x.length) (hc : ∀ c ∈ lst x, c < 123) (he : isEnd (cod x (x.length - 1)) = false) {y : Str} (hy : y = ⟨#[(((Txt.item x (-1)).cps.getD 0 0 : Int) + 1).toNat]⟩) : Txt.slice x none (some (-1)) ++ y = mkS (nextL (lst x)) := by
  subst hy
  apply ext_lst
  rw [lst_append, lst_mkS, (next_ord hx hc).2]
  conv => rhs; rw [init_last hx, nextL_stop he (b := []) (by intro a h; cases h)]
  rw [show (((cod x (x.length - 1) : Nat) : Int) + 1).toNat = cod x (x.length - 1) + 1 by omega]; rfl
theorem next_endB {x : Str} (hx : 2 ≤ x.length) (he : isEnd (cod x (x.length - 1)) = true) : mkS (nextL (lst (Txt.slice x none (some (-1))))) ++ one (firstOf (cod x (x.length - 1))) = mkS (nextL (lst x)) := by
  apply ext_lst
  rw [lst_append, lst_mkS, lst_mkS]
  conv => rhs; rw [init_last (by omega)]
  have hl : (lst (Txt.slice x none (some (-1)))).reverse ≠ [] := by
    intro h
    have := congrArg List.length h
    rw [List.length_reverse, ← len_lst, init_len (by omega)] at this
    simp at this; omega
  unfold nextL
  rw [List.reverse_append, List.reverse_singleton, List.singleton_append]
  cases e : (lst (Txt.slice x none (some (-1)))).reverse with
  | nil => exact absurd e hl
  | cons a r =>
    have e2 : nextR (cod x (x.length - 1) :: a :: r) = firstOf (cod x (x.length - 1)) :: nextR (a :: r) := by
      rw [nextR, if_pos he]
      intro h; cases h
    rw [e2]
    simp [one, lst]
theorem next_endC {x : Str} (hx : x.length = 1) : secOf (cod x (x.length - 1)) = mkS (nextL (lst x)) := by
  unfold secOf
  congr 2
  have := init_last (x := x) (by omega)
  have e : lst (Txt.slice x none (some (-1))) = [] := List.eq_nil_of_length_eq_zero (by rw [← len_lst, init_len (by omega)]; omega)
  rw [e] at this
  exact this.symm
end Mine
namespace Mine
theorem nextR_len : ∀ l : List Nat, (nextR l).length ≤ l.length + 1
  | [] => by simp [nextR]
  | c :: r => by
    have ih := nextR_len r
    unfold nextR
    split
    · cases r with
      | nil => simp
      | cons a r => simp only [List.length_cons] at ih ⊢; omega
    · simp
theorem next_len (l : List Nat) : (mkS (nextL l)).length ≤ l.length + 1 := by
  rw [mkS_len]; unfold nextL
  rw [List.length_reverse]
  have := nextR_len l.reverse
  rw [List.length_reverse] at this; exact this
end Mine
end
section
namespace Mine
theorem reg_F15 (h : PySem.Challenge.rw_nz0185_01 = PySem.Challenge.rw_nz0185_01) (g : ∀ w : World, Mine.mk.heap_1 w.params = Mine.mk.heap_1 w.params) : PySem.Challenge.rw_nz0185_01 = PySem.Challenge.rw_nz0185_01 ∧ ∀ w : World, Mine.mk.heap_1 w.params = Mine.mk.heap_1 w.params := by
  k_fill
  k_with_none
  k_with "enter" => (refine' enterK ?k1 ?k2 ?k3 ?k4 ?k5 ?kA ?kF ?kK ?k6 ?k7 ?k8 ?k9 ?kb ?kB ?_ ?c2 ?c3 ?c4 ?c5; (case kA => exact rfl); (case kF => exact rfl); (case kK => assumption); (case k1 => k_asm); (case k2 => k_asm); (case k3 => k_asm); (case k4 => k_asm); (case k5 => k_asm); (case k6 => k_is); (case k7 => k_is); (case k8 => ktr_room); (case k9 => exact BindsTo.of_eq rfl); (case kb => exact rfl); (case c5 => decide); (case kB => exact rfl); (case c2 => exact rfl); (case c3 => exact rfl); (case c4 => exact rfl); k_whole; intro g' L' h' tk' FG' F' N' B' X' T'; dsimp only [bindsOf, List.map, List.zip, List.zipWith, List.reverse, List.reverseAux] at F'; (try dsimp only); (try k_lift B'); (try k_fold))
  k_with "WlPost" => (dsimp only [WlPost])
  k_with "CutPost" => (dsimp only [CutPost])
  k_with "WlExit" => ((rename News _ _ _ _ => nE'); (refine' wl_exit (by assumption) nE' (by first | (with_reducible exact fun _ h9 => h9) | kst_in) (by kst_all) ?_))
  k_with "WlEnd" => ((rename News _ _ _ _ => nE'); first
  | (refine' wl_end ⟨⟩ (by assumption) nE' (by first | (with_reducible exact fun _ h9 => h9) | kst_in) (by kst_all) ?_)
  | (refine' wl_end ⟨_, _⟩ (by assumption) nE' (by first | (with_reducible exact fun _ h9 => h9) | kst_in) (by kst_all) ?_)
  | (refine' wl_end ⟨_, _, _⟩ (by assumption) nE' (by first | (with_reducible exact fun _ h9 => h9) | kst_in) (by kst_all) ?_)
  | (refine' wl_end ⟨_, _, _, _⟩ (by assumption) nE' (by first | (with_reducible exact fun _ h9 => h9) | kst_in) (by kst_all) ?_)
  | (refine' wl_end ⟨_, _, _, _, _⟩ (by assumption) nE' (by first | (with_reducible exact fun _ h9 => h9) | kst_in) (by kst_all) ?_)
  | (refine' wl_end ⟨_, _, _, _, _, _⟩ (by assumption) nE' (by first | (with_reducible exact fun _ h9 => h9) | kst_in) (by kst_all) ?_))
  k_with "CutEnd" => ((rename News _ _ _ _ => nE'); first
  | (refine' cut_end ⟨⟩ (by assumption) nE' (by first | (with_reducible exact fun _ h9 => h9) | kst_in) (by kst_all) ?_)
  | (refine' cut_end ⟨_, _⟩ (by assumption) nE' (by first | (with_reducible exact fun _ h9 => h9) | kst_in) (by kst_all) ?_)
  | (refine' cut_end ⟨_, _, _⟩ (by assumption) nE' (by first | (with_reducible exact fun _ h9 => h9) | kst_in) (by kst_all) ?_)
  | (refine' cut_end ⟨_, _, _, _⟩ (by assumption) nE' (by first | (with_reducible exact fun _ h9 => h9) | kst_in) (by kst_all) ?_)
  | (refine' cut_end ⟨_, _, _, _, _⟩ (by assumption) nE' (by first | (with_reducible exact fun _ h9 => h9) | kst_in) (by kst_all) ?_)
  | (refine' cut_end ⟨_, _, _, _, _, _⟩ (by assumption) nE' (by first | (with_reducible exact fun _ h9 => h9) | kst_in) (by kst_all) ?_))
  k_with "led" => (first | k_asm | (refine' kst_newsOf (by assumption) (by kst_in)))
  k_with "end" => (first | (refine' retI ?_ (hret _ _ _ (by k_asm) (by k_extra "led"))) | (refine' retS ?_ (hret _ _ _ (by k_asm) (by k_extra "led"))) | (refine' retB ?_ (hret _ _ (by k_asm) (by k_extra "led"))))
  k_with "exec While BoolOp cons nil" => refine Hold.out ?_
  k_with "exec While Compare cons nil" => refine Hold.out ?_
  k_with "exec If" => ((rename Mark => hm9); clear hm9; refine Hold.out ?_)
  k_with "sub" => (first | assumption | exact fun _ h9 => h9 | (intro p9 h9; (try dsimp only at h9); first | exact h9 | (simp only [List.mem_cons, List.mem_append, List.cons_append, List.nil_append] at h9 ⊢; first | (simp only [h9, true_or, or_true]; done) | grind)))
  k_with "FlPost" => (dsimp only [FlPost])
  k_with "FlEnd" => ((rename News _ _ _ _ => nE'); first
  | (refine' fl_end ⟨⟩ (by assumption) nE' (by k_extra "sub") (by k_extra "sub") (by kst_all) (by first | exact ⟨by assumption⟩ | skip) ?_)
  | (refine' fl_end ⟨_, _⟩ (by assumption) nE' (by k_extra "sub") (by k_extra "sub") (by kst_all) (by first | exact ⟨by assumption⟩ | skip) ?_)
  | (refine' fl_end ⟨_, _, _⟩ (by assumption) nE' (by k_extra "sub") (by k_extra "sub") (by kst_all) (by first | exact ⟨by assumption⟩ | skip) ?_)
  | (refine' fl_end ⟨_, _, _, _⟩ (by assumption) nE' (by k_extra "sub") (by k_extra "sub") (by kst_all) (by first | exact ⟨by assumption⟩ | skip) ?_))
  k_with "pyIter str" => ((with_reducible show wpAny _ _ (pyIter _) (fun it s₂ => LoopAtV _ _ _ _ _ _ _ _ _ it s₂) _ _); refine Hold.out ?_)
  k_with "pyIter ref" => ((with_reducible show wpAny _ _ (pyIter _) (fun it s₂ => LoopAtV _ _ _ _ _ _ _ _ _ it s₂) _ _); refine Hold.out ?_)
  k_with "call ref" => (k_dflt (refine' enterQ (by exact rfl) (by exact rfl) (by first | exact rfl | assumption) (by k_asm) (by k_asm) (by k_asm) (by k_asm) (by k_asm) (by k_is) (by k_is) (by ktr_room) (by exact BindsTo.of_eq rfl) (by exact rfl) (by exact rfl) (by exact rfl) (by exact rfl) (by exact rfl) (by decide) ?_); k_whole; intro g' L' h' tk' FG' F' N' B' X' T'; dsimp only [bindsOf, List.map, List.zip, List.zipWith, List.reverse, List.reverseAux] at F'; (try dsimp only); (try k_lift B'); (try k_fold))
  k_with "pre" => first | assumption | omega
  k_with "mf0" => (k_dflt (refine' kdn_str ?q ?F ?N ?b ?a ?l ?e ?n ?_; (case q => rfl); (case F => k_asm); (case N => k_asm); (case b => exact Top.nolimit (by k_asm)); (case a => rfl); (case l => rfl); (case e => exact List.cons_ne_nil _ _); (case n => exact Nat.le_of_ble_eq_true rfl)); intro d' h' o' F' N' l1 lo' hd'; (try k_lt l1))
  k_with "mf1" => (k_dflt (refine' notIn_led ?k1 ?k2 ?k3 ?k4 ?_; (case k1 => k_asm); (case k2 => k_mem); (case k3 => assumption); (case k4 => assumption)))
  exact ⟨h, g⟩
local macro_rules | `(tactic| walk_at "eval Dict") => `(tactic| k_extra "mf0")
local macro_rules | `(tactic| walk_at "compareOp NotIn str ref") => `(tactic| k_extra "mf1")
theorem lnext_fn (w : World) (n : Nat) : ∀ (news : Led) (x : Str) (tx : Tok) (_ : x.length ≤ 200) (_ : x.length = n + 1) (_ : ∀ c ∈ lst x, c < 123),
    FnC w 452 (1 + n) (8 * (1 + n)) news [.str x tx] (fun k => ∀ t, k (.str (mkS (nextL (lst x))) t) news) := by
  induction n using Nat.strongRecOn with
  | _ n IH =>
  intro news x tx hx hn hc
  unfold FnC
  intro mean mg mb dp un gd cn cs a ccd cl outer A₀ base h₀ L m s Q E B F X N T hk hd hu hret
  k_with "newTuple" => (k_dflt (refine' kup_newTuple (by k_asm) (by k_asm) ?_ (by kmk_size)); intro D' h' F' N' l1; (try k_lt l1); (try k_sweep))
  k_with "subscriptTail Name Subscript ref str" => (refine Hold.out ?_)
  have h1 : 1 ≤ x.length := by omega
  have hs := init_len h1
  have hsc := next_init h1 hc
  have ho := (next_ord h1 hc).1
  k_with "call ref" => (k_dflt (refine' FnC.use (IH (n - 1) (by omega) _ _ _ (by omega) (by omega) (by assumption)) (by k_asm) (by k_asm) (by k_asm) (by k_asm) (by k_asm) (by first | exact rfl | assumption) (by ktr_room) (by ktr_units) ?_); (try dsimp only); intros; (try k_fold))
  k_dflt k_extra "enter"
  k_steps
  · refine ⟨?_⟩
    rename News _ _ _ _ => nE
    rename (Option.isSome _) = true => hS
    obtain ⟨he, D, ta, tb, hv, hD⟩ := next_tab h1 nE hS (by k_mem) (by k_mem) (by k_mem)
    k_dflt (refine' item_led nE (by k_mem) (by assumption) hv ?_)
    have hnl := next_len (lst (Txt.slice x none (some (-1))))
    rw [← len_lst] at hnl
    have hol : (one (firstOf (cod x (x.length - 1)))).length = 1 := rfl
    k_steps
    k_extra "end"; exact ⟨next_endB (by omega) he⟩
  · refine ⟨?_⟩
    rename News _ _ _ _ => nE
    rename (Option.isSome _) = true => hS
    obtain ⟨he, D, ta, tb, hv, hD⟩ := next_tab h1 nE hS (by k_mem) (by k_mem) (by k_mem)
    k_dflt (refine' item_led nE (by k_mem) (by assumption) hv ?_)
    k_steps
    k_extra "end"; exact ⟨next_endC (by omega)⟩
  · k_extra "end"
    rename (Option.isSome _) = false => hS
    exact ⟨next_endA h1 hc (next_none h1 hS) rfl⟩

end Mine
end
section
namespace Mine
theorem reg_F13 (h : PySem.Challenge.rw_nz0185_01 = PySem.Challenge.rw_nz0185_01) (g : ∀ w : World, Mine.mk.heap_1 w.params = Mine.mk.heap_1 w.params) : PySem.Challenge.rw_nz0185_01 = PySem.Challenge.rw_nz0185_01 ∧ ∀ w : World, Mine.mk.heap_1 w.params = Mine.mk.heap_1 w.params := by
  k_fill
  k_with_none
  k_with "enter" => (refine' enterK ?k1 ?k2 ?k3 ?k4 ?k5 ?kA ?kF ?kK ?k6 ?k7 ?k8 ?k9 ?kb ?kB ?_ ?c2 ?c3 ?c4 ?c5; (case kA => exact rfl); (case kF => exact rfl); (case kK => assumption); (case k1 => k_asm); (case k2 => k_asm); (case k3 => k_asm); (case k4 => k_asm); (case k5 => k_asm); (case k6 => k_is); (case k7 => k_is); (case k8 => ktr_room); (case k9 => exact BindsTo.of_eq rfl); (case kb => exact rfl); (case c5 => decide); (case kB => exact rfl); (case c2 => exact rfl); (case c3 => exact rfl); (case c4 => exact rfl); k_whole; intro g' L' h' tk' FG' F' N' B' X' T'; dsimp only [bindsOf, List.map, List.zip, List.zipWith, List.reverse, List.reverseAux] at F'; (try dsimp only); (try k_lift B'); (try k_fold))
  k_with "WlPost" => (dsimp only [WlPost])
  k_with "CutPost" => (dsimp only [CutPost])
  k_with "WlExit" => ((rename News _ _ _ _ => nE'); (refine' wl_exit (by assumption) nE' (by first | (with_reducible exact fun _ h9 => h9) | kst_in) (by kst_all) ?_))
  k_with "WlEnd" => ((rename News _ _ _ _ => nE'); first
  | (refine' wl_end ⟨⟩ (by assumption) nE' (by first | (with_reducible exact fun _ h9 => h9) | kst_in) (by kst_all) ?_)
  | (refine' wl_end ⟨_, _⟩ (by assumption) nE' (by first | (with_reducible exact fun _ h9 => h9) | kst_in) (by kst_all) ?_)
  | (refine' wl_end ⟨_, _, _⟩ (by assumption) nE' (by first | (with_reducible exact fun _ h9 => h9) | kst_in) (by kst_all) ?_)
  | (refine' wl_end ⟨_, _, _, _⟩ (by assumption) nE' (by first | (with_reducible exact fun _ h9 => h9) | kst_in) (by kst_all) ?_)
  | (refine' wl_end ⟨_, _, _, _, _⟩ (by assumption) nE' (by first | (with_reducible exact fun _ h9 => h9) | kst_in) (by kst_all) ?_)
  | (refine' wl_end ⟨_, _, _, _, _, _⟩ (by assumption) nE' (by first | (with_reducible exact fun _ h9 => h9) | kst_in) (by kst_all) ?_))
  k_with "CutEnd" => ((rename News _ _ _ _ => nE'); first
  | (refine' cut_end ⟨⟩ (by assumption) nE' (by first | (with_reducible exact fun _ h9 => h9) | kst_in) (by kst_all) ?_)
  | (refine' cut_end ⟨_, _⟩ (by assumption) nE' (by first | (with_reducible exact fun _ h9 => h9) | kst_in) (by kst_all) ?_)
  | (refine' cut_end ⟨_, _, _⟩ (by assumption) nE' (by first | (with_reducible exact fun _ h9 => h9) | kst_in) (by kst_all) ?_)
  | (refine' cut_end ⟨_, _, _, _⟩ (by assumption) nE' (by first | (with_reducible exact fun _ h9 => h9) | kst_in) (by kst_all) ?_)
  | (refine' cut_end ⟨_, _, _, _, _⟩ (by assumption) nE' (by first | (with_reducible exact fun _ h9 => h9) | kst_in) (by kst_all) ?_)
  | (refine' cut_end ⟨_, _, _, _, _, _⟩ (by assumption) nE' (by first | (with_reducible exact fun _ h9 => h9) | kst_in) (by kst_all) ?_))
  k_with "led" => (first | k_asm | (refine' kst_newsOf (by assumption) (by kst_in)))
  k_with "end" => (first | (refine' retI ?_ (hret _ _ _ (by k_asm) (by k_extra "led"))) | (refine' retS ?_ (hret _ _ _ (by k_asm) (by k_extra "led"))) | (refine' retB ?_ (hret _ _ (by k_asm) (by k_extra "led"))))
  k_with "exec While BoolOp cons nil" => refine Hold.out ?_
  k_with "exec While Compare cons nil" => refine Hold.out ?_
  k_with "exec If" => ((rename Mark => hm9); clear hm9; refine Hold.out ?_)
  k_with "sub" => (first | assumption | exact fun _ h9 => h9 | (intro p9 h9; (try dsimp only at h9); first | exact h9 | (simp only [List.mem_cons, List.mem_append, List.cons_append, List.nil_append] at h9 ⊢; first | (simp only [h9, true_or, or_true]; done) | grind)))
  k_with "FlPost" => (dsimp only [FlPost])
  k_with "FlEnd" => ((rename News _ _ _ _ => nE'); first
  | (refine' fl_end ⟨⟩ (by assumption) nE' (by k_extra "sub") (by k_extra "sub") (by kst_all) (by first | exact ⟨by assumption⟩ | skip) ?_)
  | (refine' fl_end ⟨_, _⟩ (by assumption) nE' (by k_extra "sub") (by k_extra "sub") (by kst_all) (by first | exact ⟨by assumption⟩ | skip) ?_)
  | (refine' fl_end ⟨_, _, _⟩ (by assumption) nE' (by k_extra "sub") (by k_extra "sub") (by kst_all) (by first | exact ⟨by assumption⟩ | skip) ?_)
  | (refine' fl_end ⟨_, _, _, _⟩ (by assumption) nE' (by k_extra "sub") (by k_extra "sub") (by kst_all) (by first | exact ⟨by assumption⟩ | skip) ?_))
  k_with "pyIter str" => ((with_reducible show wpAny _ _ (pyIter _) (fun it s₂ => LoopAtV _ _ _ _ _ _ _ _ _ it s₂) _ _); refine Hold.out ?_)
  k_with "pyIter ref" => ((with_reducible show wpAny _ _ (pyIter _) (fun it s₂ => LoopAtV _ _ _ _ _ _ _ _ _ it s₂) _ _); refine Hold.out ?_)
  k_with "call ref" => (k_dflt (refine' enterQ (by exact rfl) (by exact rfl) (by first | exact rfl | assumption) (by k_asm) (by k_asm) (by k_asm) (by k_asm) (by k_asm) (by k_is) (by k_is) (by ktr_room) (by exact BindsTo.of_eq rfl) (by exact rfl) (by exact rfl) (by exact rfl) (by exact rfl) (by exact rfl) (by decide) ?_); k_whole; intro g' L' h' tk' FG' F' N' B' X' T'; dsimp only [bindsOf, List.map, List.zip, List.zipWith, List.reverse, List.reverseAux] at F'; (try dsimp only); (try k_lift B'); (try k_fold))
  k_with "pre" => first | assumption | omega
  k_with "mF130" => (with_reducible refine wpAny_execs_nil ?_)
  exact ⟨h, g⟩
local macro_rules | `(tactic| walk_at "execs nil") => `(tactic| k_extra "mF130")
theorem lhead_fn (w : World) (news : Led) (x : Str) (tx : Tok) (hx : x.length ≤ 1000) :
    FnC w 433 2 16 news [.str x tx] (fun k => ∀ D t1 t2, (∀ p ∈ news, p.1 < D) → k (.ref D) ((D, { cls := .type "tuple", data := .seq #[.int (num (lst x)) t1, .bool (!(ds (lst x)).isEmpty), .str (mkS (restL (lst x))) t2] }) :: news)) := by
  unfold FnC
  intro mean mg mb dp un gd cn cs a ccd cl outer A₀ base h₀ L m s Q E B F X N T hk hd hu hret
  have mk : Mark := ⟨⟩
  k_dflt k_extra "enter"
  k_steps
  refine ⟨?_⟩
  have hr := lstrip_body x
  have hrl : (Txt.lstripChars x (Str.ofString " \t\n\x0d\x0c\x0b")).length ≤ 1000 := by have := len_lstripChars x (Str.ofString " \t\n\x0d\x0c\x0b"); omega
  generalize Txt.lstripChars x (Str.ofString " \t\n\x0d\x0c\x0b") = rest at *
  with_unfolding_all refine' wl_cut (σ := Int × Tok × Str × Tok) (fun _ => news) (fun c => [(Str.ofString "turn", .int c.1 c.2.1), (Str.ofString "rest", .str c.2.2.1 c.2.2.2)]) (fun c => c.1 = (if neg (lst x) then -1 else 1) ∧ lst c.2.2.1 = (bodyL (lst x)).drop (sg (lst x))) (by assumption) ?s1 ?s2
  case s1 =>
    k_steps
    · have hpm := pm_yes (by assumption)
      have hpl : 1 ≤ rest.length := by obtain ⟨_, _, _, _, h⟩ := hpm; exact h
      k_steps
      · exact ⟨lh1 hr (by assumption) (b := true) (by assumption)⟩
      · exact ⟨lh1 hr (by assumption) (b := false) (by assumption)⟩
    · exact ⟨lh2 hr (by assumption)⟩
  case s2 =>
    rintro ⟨tn, tt, y, ty⟩ u2 h2 tk2 ⟨q1, q2⟩ F2 N2
    dsimp only at q1 q2 F2 N2
    have hy : y.length ≤ 1000 := by
      rw [len_lst, q2, List.length_drop, ← hr, ← len_lst]; omega
    k_steps
    refine ⟨?_⟩
    with_unfolding_all refine' wl_while (σ := Str × Tok × Str × Tok) (fun _ => news) (fun c => [(Str.ofString "turn", .int tn tt), (Str.ofString "digits", .str c.1 c.2.1), (Str.ofString "rest", .str c.2.2.1 c.2.2.2)]) (fun c => LhP y c.1 c.2.2.1) (fun c => ((lst c.2.2.1).takeWhile isFig) = []) (fun c => c.2.2.1.length) (⟨_, _, _, _⟩) (by assumption) (by assumption) (by kst_in) (by kst_all) ?start ?turn ?done
    case start => exact ⟨by rfl, by rfl⟩
    case turn =>
      rintro ⟨d, td, z, tz⟩ u hh tkk p F1 N1
      dsimp only at p F1 N1
      have hl := p.len
      k_steps
      · have hpm := fig_yes1 (by assumption)
        have hpl : 1 ≤ z.length := by obtain ⟨_, _, _, _, h⟩ := hpm; exact h
        k_steps
        exact ⟨p.step (by assumption)⟩
      · exact ⟨LhP.stop (by assumption)⟩
    case done =>
      rintro ⟨d, td, z, tz⟩ u hh tkk p p3 F1 N1
      dsimp only at p p3 F1 N1
      have hl := p.len
      have hf := p.fin q2 p3
      have htn : -1 ≤ tn ∧ tn ≤ 1 := by rw [q1]; split <;> omega
      k_steps
      refine ⟨?_⟩
      with_unfolding_all refine' fl_range (led := news) (σ := Int × Tok) (fun c => [(Str.ofString "turn", .int tn tt), (Str.ofString "digits", .str d td), (Str.ofString "rest", .str z tz), (Str.ofString "total", .int c.1 c.2)]) (fun i c => c.1 = (val ((lst d).drop (d.length - i)) : Int)) (⟨_, _⟩) (d.length) (by rfl) (by assumption) (by rfl) (by rfl) (by omega) (by assumption) (by assumption) (by k_extra "sub") (by kst_all) ?start3 ?turn3 ?done3
      case start3 => rw [Nat.sub_zero, len_lst, List.drop_length]; rfl
      case turn3 =>
        rintro i ti ⟨k, tk⟩ u hh tkk own wr hi p4 hw F1 N1
        dsimp only at p4 F1 N1
        have hm := lh_mul p.1 hi
        k_with "binaryOp Mult int int" => refine mul_int ?_ (by assumption)
        k_steps
        exact ⟨lh_step p.1 hi p4⟩
      case done3 =>
        rintro ⟨k, tk⟩ u hh tkk p4 F1 N1
        dsimp only at p4 F1 N1
        k_steps
        rw [← lh_num q1 hf.1 p4, ← lh_b hf.1, ← lh_z hf.2] at hret
        exact hret _ _ _ (by assumption) _ _ (by k_asm) (by k_extra "led")

end Mine
end
section
namespace Mine
theorem reg_F3 (h : PySem.Challenge.rw_nz0185_01 = PySem.Challenge.rw_nz0185_01) (g : ∀ w : World, Mine.mk.heap_1 w.params = Mine.mk.heap_1 w.params) : PySem.Challenge.rw_nz0185_01 = PySem.Challenge.rw_nz0185_01 ∧ ∀ w : World, Mine.mk.heap_1 w.params = Mine.mk.heap_1 w.params := by
  k_fill
  k_with_none
  k_with "enter" => (refine' enterK ?k1 ?k2 ?k3 ?k4 ?k5 ?kA ?kF ?kK ?k6 ?k7 ?k8 ?k9 ?kb ?kB ?_ ?c2 ?c3 ?c4 ?c5; (case kA => exact rfl); (case kF => exact rfl); (case kK => assumption); (case k1 => k_asm); (case k2 => k_asm); (case k3 => k_asm); (case k4 => k_asm); (case k5 => k_asm); (case k6 => k_is); (case k7 => k_is); (case k8 => ktr_room); (case k9 => exact BindsTo.of_eq rfl); (case kb => exact rfl); (case c5 => decide); (case kB => exact rfl); (case c2 => exact rfl); (case c3 => exact rfl); (case c4 => exact rfl); k_whole; intro g' L' h' tk' FG' F' N' B' X' T'; dsimp only [bindsOf, List.map, List.zip, List.zipWith, List.reverse, List.reverseAux] at F'; (try dsimp only); (try k_lift B'); (try k_fold))
  k_with "WlPost" => (dsimp only [WlPost])
  k_with "CutPost" => (dsimp only [CutPost])
  k_with "WlExit" => ((rename News _ _ _ _ => nE'); (refine' wl_exit (by assumption) nE' (by first | (with_reducible exact fun _ h9 => h9) | kst_in) (by kst_all) ?_))
  k_with "WlEnd" => ((rename News _ _ _ _ => nE'); first
  | (refine' wl_end ⟨⟩ (by assumption) nE' (by first | (with_reducible exact fun _ h9 => h9) | kst_in) (by kst_all) ?_)
  | (refine' wl_end ⟨_, _⟩ (by assumption) nE' (by first | (with_reducible exact fun _ h9 => h9) | kst_in) (by kst_all) ?_)
  | (refine' wl_end ⟨_, _, _⟩ (by assumption) nE' (by first | (with_reducible exact fun _ h9 => h9) | kst_in) (by kst_all) ?_)
  | (refine' wl_end ⟨_, _, _, _⟩ (by assumption) nE' (by first | (with_reducible exact fun _ h9 => h9) | kst_in) (by kst_all) ?_)
  | (refine' wl_end ⟨_, _, _, _, _⟩ (by assumption) nE' (by first | (with_reducible exact fun _ h9 => h9) | kst_in) (by kst_all) ?_)
  | (refine' wl_end ⟨_, _, _, _, _, _⟩ (by assumption) nE' (by first | (with_reducible exact fun _ h9 => h9) | kst_in) (by kst_all) ?_))
  k_with "CutEnd" => ((rename News _ _ _ _ => nE'); first
  | (refine' cut_end ⟨⟩ (by assumption) nE' (by first | (with_reducible exact fun _ h9 => h9) | kst_in) (by kst_all) ?_)
  | (refine' cut_end ⟨_, _⟩ (by assumption) nE' (by first | (with_reducible exact fun _ h9 => h9) | kst_in) (by kst_all) ?_)
  | (refine' cut_end ⟨_, _, _⟩ (by assumption) nE' (by first | (with_reducible exact fun _ h9 => h9) | kst_in) (by kst_all) ?_)
  | (refine' cut_end ⟨_, _, _, _⟩ (by assumption) nE' (by first | (with_reducible exact fun _ h9 => h9) | kst_in) (by kst_all) ?_)
  | (refine' cut_end ⟨_, _, _, _, _⟩ (by assumption) nE' (by first | (with_reducible exact fun _ h9 => h9) | kst_in) (by kst_all) ?_)
  | (refine' cut_end ⟨_, _, _, _, _, _⟩ (by assumption) nE' (by first | (with_reducible exact fun _ h9 => h9) | kst_in) (by kst_all) ?_))
  k_with "led" => (first | k_asm | (refine' kst_newsOf (by assumption) (by kst_in)))
  k_with "end" => (first | (refine' retI ?_ (hret _ _ _ (by k_asm) (by k_extra "led"))) | (refine' retS ?_ (hret _ _ _ (by k_asm) (by k_extra "led"))) | (refine' retB ?_ (hret _ _ (by k_asm) (by k_extra "led"))))
  k_with "exec While BoolOp cons nil" => refine Hold.out ?_
  k_with "exec While Compare cons nil" => refine Hold.out ?_
  k_with "exec If" => ((rename Mark => hm9); clear hm9; refine Hold.out ?_)
  k_with "sub" => (first | assumption | exact fun _ h9 => h9 | (intro p9 h9; (try dsimp only at h9); first | exact h9 | (simp only [List.mem_cons, List.mem_append, List.cons_append, List.nil_append] at h9 ⊢; first | (simp only [h9, true_or, or_true]; done) | grind)))
  k_with "FlPost" => (dsimp only [FlPost])
  k_with "FlEnd" => ((rename News _ _ _ _ => nE'); first
  | (refine' fl_end ⟨⟩ (by assumption) nE' (by k_extra "sub") (by k_extra "sub") (by kst_all) (by first | exact ⟨by assumption⟩ | skip) ?_)
  | (refine' fl_end ⟨_, _⟩ (by assumption) nE' (by k_extra "sub") (by k_extra "sub") (by kst_all) (by first | exact ⟨by assumption⟩ | skip) ?_)
  | (refine' fl_end ⟨_, _, _⟩ (by assumption) nE' (by k_extra "sub") (by k_extra "sub") (by kst_all) (by first | exact ⟨by assumption⟩ | skip) ?_)
  | (refine' fl_end ⟨_, _, _, _⟩ (by assumption) nE' (by k_extra "sub") (by k_extra "sub") (by kst_all) (by first | exact ⟨by assumption⟩ | skip) ?_))
  k_with "pyIter str" => refine Hold.out ?_
  k_with "pyIter ref" => refine Hold.out ?_
  k_with "pre" => first | assumption | omega
  k_with "call ref" => (k_dflt (refine' FnC.use (wrap_fn _ _ _ _ _ _ (by k_extra "pre") (by k_extra "pre")) (by k_asm) (by k_asm) (by k_asm) (by k_asm) (by k_asm) (by first | exact rfl | assumption) (by ktr_room) (by ktr_units) ?_); (try dsimp only); intros; (try k_fold))
  k_with "call ref" => (k_dflt (refine' FnC.use (head_fn _ _ _ _ (by k_extra "pre")) (by k_asm) (by k_asm) (by k_asm) (by k_asm) (by k_asm) (by first | exact rfl | assumption) (by ktr_room) (by ktr_units) ?_); (try dsimp only); intros; (try k_fold))
  exact ⟨h, g⟩
theorem numt_fn (w : World) (news : Led) (x : Str) (tx : Tok) (wd : Int) (tw : Tok) (hx : x.length ≤ 1000) (h1 : 4 ≤ wd) (h2 : wd ≤ 80) :
    FnC w 56 2 16 news [.str x tx, .int wd tw] (fun k => ∀ t, k (.int (fitN (num (lst x)) wd) t) news) := by
  unfold FnC
  intro mean mg mb dp un gd cn cs a ccd cl outer A₀ base h₀ L m s Q E B F X N T hk hd hu hret
  have hb := hEnd_le' x
  k_dflt k_extra "enter"
  k_steps
  refine ⟨?_⟩
  have hy := slice_lst x (hSp (lst x) : Int) (hEnd (lst x) : Int) hb.1 hb.2.1 (by omega)
  rw [Int.toNat_natCast, show ((hEnd (lst x) : Int) - (hSp (lst x) : Int)).toNat = hEnd (lst x) - hSp (lst x) by omega] at hy
  generalize Txt.slice x (some (hSp (lst x) : Int)) (some (hEnd (lst x) : Int)) = y at hy ⊢
  with_unfolding_all refine' fl_text (led := news) (σ := Int × Tok) (fun c => [(Str.ofString "text", .str x tx), (Str.ofString "width", .int wd tw), (Str.ofString "at", .int (hSp (lst x) : Int) _), (Str.ofString "end", .int (hEnd (lst x) : Int) _), (Str.ofString "n", .int c.1 c.2)]) (fun i c => c.1 = (val (((lst y).take i).filter isFig) : Int) % 2 ^ wd.toNat) (⟨_, _⟩) (by rfl) (by assumption) (by assumption) (by k_extra "sub") (by kst_all) ?start ?turn ?done
  case start => simp [val]
  case turn =>
    rintro i ti ⟨n, tn⟩ u hh tk own wr hi hp hw F1 N1
    dsimp only at hp F1 N1
    k_steps
    · exact ⟨numt_skip hi hp (notin_fig (by assumption))⟩
    · exact ⟨numt_step hi hp (in_fig (by assumption))⟩
  case done =>
    rintro ⟨n, tn⟩ u hh tk hp F1 N1
    dsimp only at hp F1 N1
    rw [len_lst, List.take_length, hy, slice_figs] at hp
    subst hp
    k_steps
    · k_extra "end"; exact ⟨numt_end1 (by assumption) (by assumption)⟩
    · k_extra "end"; exact ⟨numt_end2 (by assumption) (by assumption)⟩
    · k_extra "end"; exact ⟨numt_end3 (by assumption)⟩

end Mine
end
section
namespace Mine
theorem reg_O2 (h : PySem.Challenge.rw_nz0185_01 = PySem.Challenge.rw_nz0185_01) (g : ∀ w : World, Mine.mk.heap_1 w.params = Mine.mk.heap_1 w.params) : PySem.Challenge.rw_nz0185_01 = PySem.Challenge.rw_nz0185_01 ∧ ∀ w : World, Mine.mk.heap_1 w.params = Mine.mk.heap_1 w.params := by
  k_fill
  k_with_none
  k_with "enter" => (refine' enterK ?k1 ?k2 ?k3 ?k4 ?k5 ?kA ?kF ?kK ?k6 ?k7 ?k8 ?k9 ?kb ?kB ?_ ?c2 ?c3 ?c4 ?c5; (case kA => exact rfl); (case kF => exact rfl); (case kK => assumption); (case k1 => k_asm); (case k2 => k_asm); (case k3 => k_asm); (case k4 => k_asm); (case k5 => k_asm); (case k6 => k_is); (case k7 => k_is); (case k8 => ktr_room); (case k9 => exact BindsTo.of_eq rfl); (case kb => exact rfl); (case c5 => decide); (case kB => exact rfl); (case c2 => exact rfl); (case c3 => exact rfl); (case c4 => exact rfl); k_whole; intro g' L' h' tk' FG' F' N' B' X' T'; dsimp only [bindsOf, List.map, List.zip, List.zipWith, List.reverse, List.reverseAux] at F'; (try dsimp only); (try k_lift B'); (try k_fold))
  k_with "WlPost" => (dsimp only [WlPost])
  k_with "CutPost" => (dsimp only [CutPost])
  k_with "WlExit" => ((rename News _ _ _ _ => nE'); (refine' wl_exit (by assumption) nE' (by first | (with_reducible exact fun _ h9 => h9) | kst_in) (by kst_all) ?_))
  k_with "WlEnd" => ((rename News _ _ _ _ => nE'); first
  | (refine' wl_end ⟨⟩ (by assumption) nE' (by first | (with_reducible exact fun _ h9 => h9) | kst_in) (by kst_all) ?_)
  | (refine' wl_end ⟨_, _⟩ (by assumption) nE' (by first | (with_reducible exact fun _ h9 => h9) | kst_in) (by kst_all) ?_)
  | (refine' wl_end ⟨_, _, _⟩ (by assumption) nE' (by first | (with_reducible exact fun _ h9 => h9) | kst_in) (by kst_all) ?_)
  | (refine' wl_end ⟨_, _, _, _⟩ (by assumption) nE' (by first | (with_reducible exact fun _ h9 => h9) | kst_in) (by kst_all) ?_)
  | (refine' wl_end ⟨_, _, _, _, _⟩ (by assumption) nE' (by first | (with_reducible exact fun _ h9 => h9) | kst_in) (by kst_all) ?_)
  | (refine' wl_end ⟨_, _, _, _, _, _⟩ (by assumption) nE' (by first | (with_reducible exact fun _ h9 => h9) | kst_in) (by kst_all) ?_))
  k_with "CutEnd" => ((rename News _ _ _ _ => nE'); first
  | (refine' cut_end ⟨⟩ (by assumption) nE' (by first | (with_reducible exact fun _ h9 => h9) | kst_in) (by kst_all) ?_)
  | (refine' cut_end ⟨_, _⟩ (by assumption) nE' (by first | (with_reducible exact fun _ h9 => h9) | kst_in) (by kst_all) ?_)
  | (refine' cut_end ⟨_, _, _⟩ (by assumption) nE' (by first | (with_reducible exact fun _ h9 => h9) | kst_in) (by kst_all) ?_)
  | (refine' cut_end ⟨_, _, _, _⟩ (by assumption) nE' (by first | (with_reducible exact fun _ h9 => h9) | kst_in) (by kst_all) ?_)
  | (refine' cut_end ⟨_, _, _, _, _⟩ (by assumption) nE' (by first | (with_reducible exact fun _ h9 => h9) | kst_in) (by kst_all) ?_)
  | (refine' cut_end ⟨_, _, _, _, _, _⟩ (by assumption) nE' (by first | (with_reducible exact fun _ h9 => h9) | kst_in) (by kst_all) ?_))
  k_with "led" => (first | k_asm | (refine' kst_newsOf (by assumption) (by kst_in)))
  k_with "end" => (first | (refine' retI ?_ (hret _ _ _ (by k_asm) (by k_extra "led"))) | (refine' retS ?_ (hret _ _ _ (by k_asm) (by k_extra "led"))) | (refine' retB ?_ (hret _ _ (by k_asm) (by k_extra "led"))))
  k_with "exec While BoolOp cons nil" => refine Hold.out ?_
  k_with "exec While Compare cons nil" => refine Hold.out ?_
  k_with "exec If" => ((rename Mark => hm9); clear hm9; refine Hold.out ?_)
  k_with "sub" => (first | assumption | exact fun _ h9 => h9 | (intro p9 h9; (try dsimp only at h9); first | exact h9 | (simp only [List.mem_cons, List.mem_append, List.cons_append, List.nil_append] at h9 ⊢; first | (simp only [h9, true_or, or_true]; done) | grind)))
  k_with "FlPost" => (dsimp only [FlPost])
  k_with "FlEnd" => ((rename News _ _ _ _ => nE'); first
  | (refine' fl_end ⟨⟩ (by assumption) nE' (by k_extra "sub") (by k_extra "sub") (by kst_all) (by first | exact ⟨by assumption⟩ | skip) ?_)
  | (refine' fl_end ⟨_, _⟩ (by assumption) nE' (by k_extra "sub") (by k_extra "sub") (by kst_all) (by first | exact ⟨by assumption⟩ | skip) ?_)
  | (refine' fl_end ⟨_, _, _⟩ (by assumption) nE' (by k_extra "sub") (by k_extra "sub") (by kst_all) (by first | exact ⟨by assumption⟩ | skip) ?_)
  | (refine' fl_end ⟨_, _, _, _⟩ (by assumption) nE' (by k_extra "sub") (by k_extra "sub") (by kst_all) (by first | exact ⟨by assumption⟩ | skip) ?_))
  k_with "pyIter str" => ((with_reducible show wpAny _ _ (pyIter _) (fun it s₂ => LoopAtV _ _ _ _ _ _ _ _ _ it s₂) _ _); refine Hold.out ?_)
  k_with "pyIter ref" => ((with_reducible show wpAny _ _ (pyIter _) (fun it s₂ => LoopAtV _ _ _ _ _ _ _ _ _ it s₂) _ _); refine Hold.out ?_)
  k_with "call ref" => (k_dflt (refine' enterQ (by exact rfl) (by exact rfl) (by first | exact rfl | assumption) (by k_asm) (by k_asm) (by k_asm) (by k_asm) (by k_asm) (by k_is) (by k_is) (by ktr_room) (by exact BindsTo.of_eq rfl) (by exact rfl) (by exact rfl) (by exact rfl) (by exact rfl) (by exact rfl) (by decide) ?_); k_whole; intro g' L' h' tk' FG' F' N' B' X' T'; dsimp only [bindsOf, List.map, List.zip, List.zipWith, List.reverse, List.reverseAux] at F'; (try dsimp only); (try k_lift B'); (try k_fold))
  k_with "pre" => first | assumption | omega
  k_with "getAttr ref" => (k_dflt (refine' get_own (by k_asm) (by k_asm) (by k_inst) (by k_is) (by k_is) (by k_is) (by k_is) (by assumption) (by k_handed) ?_); k_whole)
  k_with "getAttr ref" => ((with_reducible show wpAny _ _ (getAttr (Value.ref _) (PySem.Str.ofString "number") _) _ _ _); k_dflt (refine' kd_num (by k_asm) (by k_asm) (by k_asm) (by k_mem) (by k_mem) (by assumption) (by assumption) (by k_handed) ?_); k_whole)
  k_with "getAttr ref" => ((with_reducible show wpAny _ _ (getAttr (Value.ref _) (PySem.Str.ofString "blessed") _) _ _ _); k_dflt (refine' kd_bl (by k_asm) (by k_asm) (by k_asm) (by k_mem) (by k_mem) (by assumption) (by assumption) (by k_handed) ?_); k_whole)
  k_with "call ref" => (k_dflt (refine' FnC.use (numt_fn _ _ _ _ _ _ (by k_extra "pre") (by k_extra "pre") (by k_extra "pre")) (by k_asm) (by k_asm) (by k_asm) (by k_asm) (by k_asm) (by first | exact rfl | assumption) (by ktr_room) (by ktr_units) ?_); (try dsimp only); intros; (try k_fold))
  exact ⟨h, g⟩
theorem tonum_fn (w : World) (news : Led) (v : Value) (d : Vl) (lim : Addr) (wd : Int) (hv : IsV news v d) (hl : LimAt news lim wd) (h1 : 4 ≤ wd) (h2 : wd ≤ 80) (ho : d.ok) :
    FnC w 313 3 24 news [v, .ref lim] (fun k => ∀ t, k (.int (numOf wd d) t) news) := by
  unfold FnC
  intro mean mg mb dp un gd cn cs a ccd cl outer A₀ base h₀ L m s Q E B F X N T hk hd hu hret
  cases d with
  | none =>
    obtain rfl := hv
    k_dflt k_extra "enter"
    k_steps
    exact hret _ _ _ (by k_asm) (by k_extra "led")
  | int n =>
    obtain ⟨t, rfl⟩ := hv
    k_dflt k_extra "enter"
    k_steps
    exact hret _ _ _ (by k_asm) (by k_extra "led")
  | str x =>
    obtain ⟨t, rfl⟩ := hv
    obtain ⟨dl, el, nl, tl, l1, l2, l3⟩ := hl
    have ho' : x.length ≤ 1000 := Nat.le_trans ho (by decide)
    replace N := news2 N l1 l2
    k_dflt k_extra "enter"
    k_steps
    exact hret _ _ _ (by k_asm) (by k_extra "led")
  | ref kd nm bl =>
    obtain ⟨r, th, rfl, dr, er, nr, r1, r2, r3, dth, et, nt, t, r4, r5, r6, r7⟩ := hv
    replace N := news4 N r1 r2 r4 r5
    obtain ⟨hkd, -⟩ := ho
    k_dflt k_extra "enter"
    k_steps
    exact hret _ _ _ (by k_asm) (by k_extra "led")

end Mine
end
section
namespace Mine
theorem reg_O6 (h : PySem.Challenge.rw_nz0185_01 = PySem.Challenge.rw_nz0185_01) (g : ∀ w : World, Mine.mk.heap_1 w.params = Mine.mk.heap_1 w.params) : PySem.Challenge.rw_nz0185_01 = PySem.Challenge.rw_nz0185_01 ∧ ∀ w : World, Mine.mk.heap_1 w.params = Mine.mk.heap_1 w.params := by
  k_fill
  k_with_none
  k_with "enter" => (refine' enterK ?k1 ?k2 ?k3 ?k4 ?k5 ?kA ?kF ?kK ?k6 ?k7 ?k8 ?k9 ?kb ?kB ?_ ?c2 ?c3 ?c4 ?c5; (case kA => exact rfl); (case kF => exact rfl); (case kK => assumption); (case k1 => k_asm); (case k2 => k_asm); (case k3 => k_asm); (case k4 => k_asm); (case k5 => k_asm); (case k6 => k_is); (case k7 => k_is); (case k8 => ktr_room); (case k9 => exact BindsTo.of_eq rfl); (case kb => exact rfl); (case c5 => decide); (case kB => exact rfl); (case c2 => exact rfl); (case c3 => exact rfl); (case c4 => exact rfl); k_whole; intro g' L' h' tk' FG' F' N' B' X' T'; dsimp only [bindsOf, List.map, List.zip, List.zipWith, List.reverse, List.reverseAux] at F'; (try dsimp only); (try k_lift B'); (try k_fold))
  k_with "WlPost" => (dsimp only [WlPost])
  k_with "CutPost" => (dsimp only [CutPost])
  k_with "WlExit" => ((rename News _ _ _ _ => nE'); (refine' wl_exit (by assumption) nE' (by first | (with_reducible exact fun _ h9 => h9) | kst_in) (by kst_all) ?_))
  k_with "WlEnd" => ((rename News _ _ _ _ => nE'); first
  | (refine' wl_end ⟨⟩ (by assumption) nE' (by first | (with_reducible exact fun _ h9 => h9) | kst_in) (by kst_all) ?_)
  | (refine' wl_end ⟨_, _⟩ (by assumption) nE' (by first | (with_reducible exact fun _ h9 => h9) | kst_in) (by kst_all) ?_)
  | (refine' wl_end ⟨_, _, _⟩ (by assumption) nE' (by first | (with_reducible exact fun _ h9 => h9) | kst_in) (by kst_all) ?_)
  | (refine' wl_end ⟨_, _, _, _⟩ (by assumption) nE' (by first | (with_reducible exact fun _ h9 => h9) | kst_in) (by kst_all) ?_)
  | (refine' wl_end ⟨_, _, _, _, _⟩ (by assumption) nE' (by first | (with_reducible exact fun _ h9 => h9) | kst_in) (by kst_all) ?_)
  | (refine' wl_end ⟨_, _, _, _, _, _⟩ (by assumption) nE' (by first | (with_reducible exact fun _ h9 => h9) | kst_in) (by kst_all) ?_))
  k_with "CutEnd" => ((rename News _ _ _ _ => nE'); first
  | (refine' cut_end ⟨⟩ (by assumption) nE' (by first | (with_reducible exact fun _ h9 => h9) | kst_in) (by kst_all) ?_)
  | (refine' cut_end ⟨_, _⟩ (by assumption) nE' (by first | (with_reducible exact fun _ h9 => h9) | kst_in) (by kst_all) ?_)
  | (refine' cut_end ⟨_, _, _⟩ (by assumption) nE' (by first | (with_reducible exact fun _ h9 => h9) | kst_in) (by kst_all) ?_)
  | (refine' cut_end ⟨_, _, _, _⟩ (by assumption) nE' (by first | (with_reducible exact fun _ h9 => h9) | kst_in) (by kst_all) ?_)
  | (refine' cut_end ⟨_, _, _, _, _⟩ (by assumption) nE' (by first | (with_reducible exact fun _ h9 => h9) | kst_in) (by kst_all) ?_)
  | (refine' cut_end ⟨_, _, _, _, _, _⟩ (by assumption) nE' (by first | (with_reducible exact fun _ h9 => h9) | kst_in) (by kst_all) ?_))
  k_with "led" => (first | k_asm | (refine' kst_newsOf (by assumption) (by kst_in)))
  k_with "end" => (first | (refine' retI ?_ (hret _ _ _ (by k_asm) (by k_extra "led"))) | (refine' retS ?_ (hret _ _ _ (by k_asm) (by k_extra "led"))) | (refine' retB ?_ (hret _ _ (by k_asm) (by k_extra "led"))))
  k_with "exec While BoolOp cons nil" => refine Hold.out ?_
  k_with "exec While Compare cons nil" => refine Hold.out ?_
  k_with "exec If" => ((rename Mark => hm9); clear hm9; refine Hold.out ?_)
  k_with "sub" => (first | assumption | exact fun _ h9 => h9 | (intro p9 h9; (try dsimp only at h9); first | exact h9 | (simp only [List.mem_cons, List.mem_append, List.cons_append, List.nil_append] at h9 ⊢; first | (simp only [h9, true_or, or_true]; done) | grind)))
  k_with "FlPost" => (dsimp only [FlPost])
  k_with "FlEnd" => ((rename News _ _ _ _ => nE'); first
  | (refine' fl_end ⟨⟩ (by assumption) nE' (by k_extra "sub") (by k_extra "sub") (by kst_all) (by first | exact ⟨by assumption⟩ | skip) ?_)
  | (refine' fl_end ⟨_, _⟩ (by assumption) nE' (by k_extra "sub") (by k_extra "sub") (by kst_all) (by first | exact ⟨by assumption⟩ | skip) ?_)
  | (refine' fl_end ⟨_, _, _⟩ (by assumption) nE' (by k_extra "sub") (by k_extra "sub") (by kst_all) (by first | exact ⟨by assumption⟩ | skip) ?_)
  | (refine' fl_end ⟨_, _, _, _⟩ (by assumption) nE' (by k_extra "sub") (by k_extra "sub") (by kst_all) (by first | exact ⟨by assumption⟩ | skip) ?_))
  k_with "pyIter str" => ((with_reducible show wpAny _ _ (pyIter _) (fun it s₂ => LoopAtV _ _ _ _ _ _ _ _ _ it s₂) _ _); refine Hold.out ?_)
  k_with "pyIter ref" => ((with_reducible show wpAny _ _ (pyIter _) (fun it s₂ => LoopAtV _ _ _ _ _ _ _ _ _ it s₂) _ _); refine Hold.out ?_)
  k_with "call ref" => (k_dflt (refine' enterQ (by exact rfl) (by exact rfl) (by first | exact rfl | assumption) (by k_asm) (by k_asm) (by k_asm) (by k_asm) (by k_asm) (by k_is) (by k_is) (by ktr_room) (by exact BindsTo.of_eq rfl) (by exact rfl) (by exact rfl) (by exact rfl) (by exact rfl) (by exact rfl) (by decide) ?_); k_whole; intro g' L' h' tk' FG' F' N' B' X' T'; dsimp only [bindsOf, List.map, List.zip, List.zipWith, List.reverse, List.reverseAux] at F'; (try dsimp only); (try k_lift B'); (try k_fold))
  k_with "pre" => first | assumption | omega | exact IsV.mono (by assumption) (by k_extra "sub") | exact LimAt.mono (by assumption) (by k_extra "sub") | exact ThingAt.mono (by assumption) (by k_extra "sub") | exact RefAt.mono (by assumption) (by k_extra "sub")
  k_with "getAttr ref" => (k_dflt (refine' get_own (by k_asm) (by k_asm) (by k_inst) (by k_is) (by k_is) (by k_is) (by k_is) (by assumption) (by k_handed) ?_); k_whole)
  k_with "getAttr ref" => ((with_reducible show wpAny _ _ (getAttr (Value.ref _) (PySem.Str.ofString "number") _) _ _ _); k_dflt (refine' kd_num (by k_asm) (by k_asm) (by k_asm) (by k_mem) (by k_mem) (by assumption) (by assumption) (by k_handed) ?_); k_whole)
  k_with "getAttr ref" => ((with_reducible show wpAny _ _ (getAttr (Value.ref _) (PySem.Str.ofString "blessed") _) _ _ _); k_dflt (refine' kd_bl (by k_asm) (by k_asm) (by k_asm) (by k_mem) (by k_mem) (by assumption) (by assumption) (by k_handed) ?_); k_whole)
  k_with "compareOp NotEq ref str" => (k_dflt (refine' ref_ne_str (by exact Frag.In.keeps (by k_asm) (Fr.keep (by k_asm))) (by k_inst) (by first | ke_room | ktr_units) ?_); k_whole)
  k_with "compareOp NotEq ref int" => (k_dflt (refine' ref_ne_int (by exact Frag.In.keeps (by k_asm) (Fr.keep (by k_asm))) (by k_inst) (by first | ke_room | ktr_units) ?_); k_whole)
  k_with "compareOp NotIn ref ref" => (k_dflt (refine' ref_notIn (News.isList (by k_asm) (by k_mem)) (by exact Frag.In.keeps (by k_asm) (Fr.keep (by k_asm))) (by k_inst) (by first | ke_room | ktr_units) ?_); k_whole)
  exact ⟨h, g⟩
theorem truth_fn (w : World) (news : Led) (v : Value) (d : Vl) (hv : IsV news v d) (ho : d.ok) :
    FnC w 320 1 8 news [v] (fun k => k (.bool (truthOf d)) news) := by
  unfold FnC
  intro mean mg mb dp un gd cn cs a ccd cl outer A₀ base h₀ L m s Q E B F X N T hk hd hu hret
  cases d with
  | none =>
    obtain rfl := hv
    k_dflt k_extra "enter"
    k_steps
    exact hret _ _ (by k_asm) (by k_extra "led")
  | int n =>
    obtain ⟨t, rfl⟩ := hv
    k_dflt k_extra "enter"
    k_steps
    · refine retB ⟨?_⟩ (hret _ _ (by k_asm) (by k_extra "led"))
      rename n ≠ 0 => h0
      simp [truthOf, h0]
    · refine retB ⟨?_⟩ (hret _ _ (by k_asm) (by k_extra "led"))
      rename n = 0 => h0
      simp [truthOf, h0]
  | str x =>
    obtain ⟨t, rfl⟩ := hv
    have ho' : x.length ≤ 1000 := Nat.le_trans ho (by decide)
    k_dflt k_extra "enter"
    k_steps
    · refine retB ⟨?_⟩ (hret _ _ (by k_asm) (by k_extra "led"))
      rename (x != Str.ofString "") = true => h0
      show _ = (!(x == Str.ofString "") && !(x == Str.ofString "0"))
      rw [show (!(x == Str.ofString "")) = true from h0]; rfl
    · refine retB ⟨?_⟩ (hret _ _ (by k_asm) (by k_extra "led"))
      rename (x != Str.ofString "") = false => h0
      show _ = (!(x == Str.ofString "") && !(x == Str.ofString "0"))
      rw [show (!(x == Str.ofString "")) = false from h0, h0]; rfl
  | ref kd nm bl =>
    obtain ⟨r, th, rfl, dr, er, nr, r1, r2, r3, ht⟩ := hv
    replace N := news2 N r1 r2
    k_dflt k_extra "enter"
    k_steps
    exact hret _ _ (by k_asm) (by k_extra "led")

end Mine
end
section
namespace Mine
theorem reg_O7 (h : PySem.Challenge.rw_nz0185_01 = PySem.Challenge.rw_nz0185_01) (g : ∀ w : World, Mine.mk.heap_1 w.params = Mine.mk.heap_1 w.params) : PySem.Challenge.rw_nz0185_01 = PySem.Challenge.rw_nz0185_01 ∧ ∀ w : World, Mine.mk.heap_1 w.params = Mine.mk.heap_1 w.params := by
  k_fill
  k_with_none
  k_with "enter" => (refine' enterK ?k1 ?k2 ?k3 ?k4 ?k5 ?kA ?kF ?kK ?k6 ?k7 ?k8 ?k9 ?kb ?kB ?_ ?c2 ?c3 ?c4 ?c5; (case kA => exact rfl); (case kF => exact rfl); (case kK => assumption); (case k1 => k_asm); (case k2 => k_asm); (case k3 => k_asm); (case k4 => k_asm); (case k5 => k_asm); (case k6 => k_is); (case k7 => k_is); (case k8 => ktr_room); (case k9 => exact BindsTo.of_eq rfl); (case kb => exact rfl); (case c5 => decide); (case kB => exact rfl); (case c2 => exact rfl); (case c3 => exact rfl); (case c4 => exact rfl); k_whole; intro g' L' h' tk' FG' F' N' B' X' T'; dsimp only [bindsOf, List.map, List.zip, List.zipWith, List.reverse, List.reverseAux] at F'; (try dsimp only); (try k_lift B'); (try k_fold))
  k_with "WlPost" => (dsimp only [WlPost])
  k_with "CutPost" => (dsimp only [CutPost])
  k_with "WlExit" => ((rename News _ _ _ _ => nE'); (refine' wl_exit (by assumption) nE' (by first | (with_reducible exact fun _ h9 => h9) | kst_in) (by kst_all) ?_))
  k_with "WlEnd" => ((rename News _ _ _ _ => nE'); first
  | (refine' wl_end ⟨⟩ (by assumption) nE' (by first | (with_reducible exact fun _ h9 => h9) | kst_in) (by kst_all) ?_)
  | (refine' wl_end ⟨_, _⟩ (by assumption) nE' (by first | (with_reducible exact fun _ h9 => h9) | kst_in) (by kst_all) ?_)
  | (refine' wl_end ⟨_, _, _⟩ (by assumption) nE' (by first | (with_reducible exact fun _ h9 => h9) | kst_in) (by kst_all) ?_)
  | (refine' wl_end ⟨_, _, _, _⟩ (by assumption) nE' (by first | (with_reducible exact fun _ h9 => h9) | kst_in) (by kst_all) ?_)
  | (refine' wl_end ⟨_, _, _, _, _⟩ (by assumption) nE' (by first | (with_reducible exact fun _ h9 => h9) | kst_in) (by kst_all) ?_)
  | (refine' wl_end ⟨_, _, _, _, _, _⟩ (by assumption) nE' (by first | (with_reducible exact fun _ h9 => h9) | kst_in) (by kst_all) ?_))
  k_with "CutEnd" => ((rename News _ _ _ _ => nE'); first
  | (refine' cut_end ⟨⟩ (by assumption) nE' (by first | (with_reducible exact fun _ h9 => h9) | kst_in) (by kst_all) ?_)
  | (refine' cut_end ⟨_, _⟩ (by assumption) nE' (by first | (with_reducible exact fun _ h9 => h9) | kst_in) (by kst_all) ?_)
  | (refine' cut_end ⟨_, _, _⟩ (by assumption) nE' (by first | (with_reducible exact fun _ h9 => h9) | kst_in) (by kst_all) ?_)
  | (refine' cut_end ⟨_, _, _, _⟩ (by assumption) nE' (by first | (with_reducible exact fun _ h9 => h9) | kst_in) (by kst_all) ?_)
  | (refine' cut_end ⟨_, _, _, _, _⟩ (by assumption) nE' (by first | (with_reducible exact fun _ h9 => h9) | kst_in) (by kst_all) ?_)
  | (refine' cut_end ⟨_, _, _, _, _, _⟩ (by assumption) nE' (by first | (with_reducible exact fun _ h9 => h9) | kst_in) (by kst_all) ?_))
  k_with "led" => (first | k_asm | (refine' kst_newsOf (by assumption) (by kst_in)))
  k_with "end" => (first | (refine' retI ?_ (hret _ _ _ (by k_asm) (by k_extra "led"))) | (refine' retS ?_ (hret _ _ _ (by k_asm) (by k_extra "led"))) | (refine' retB ?_ (hret _ _ (by k_asm) (by k_extra "led"))))
  k_with "exec While BoolOp cons nil" => refine Hold.out ?_
  k_with "exec While Compare cons nil" => refine Hold.out ?_
  k_with "exec If" => ((rename Mark => hm9); clear hm9; refine Hold.out ?_)
  k_with "sub" => (first | assumption | exact fun _ h9 => h9 | (intro p9 h9; (try dsimp only at h9); first | exact h9 | (simp only [List.mem_cons, List.mem_append, List.cons_append, List.nil_append] at h9 ⊢; first | (simp only [h9, true_or, or_true]; done) | grind)))
  k_with "FlPost" => (dsimp only [FlPost])
  k_with "FlEnd" => ((rename News _ _ _ _ => nE'); first
  | (refine' fl_end ⟨⟩ (by assumption) nE' (by k_extra "sub") (by k_extra "sub") (by kst_all) (by first | exact ⟨by assumption⟩ | skip) ?_)
  | (refine' fl_end ⟨_, _⟩ (by assumption) nE' (by k_extra "sub") (by k_extra "sub") (by kst_all) (by first | exact ⟨by assumption⟩ | skip) ?_)
  | (refine' fl_end ⟨_, _, _⟩ (by assumption) nE' (by k_extra "sub") (by k_extra "sub") (by kst_all) (by first | exact ⟨by assumption⟩ | skip) ?_)
  | (refine' fl_end ⟨_, _, _, _⟩ (by assumption) nE' (by k_extra "sub") (by k_extra "sub") (by kst_all) (by first | exact ⟨by assumption⟩ | skip) ?_))
  k_with "pyIter str" => ((with_reducible show wpAny _ _ (pyIter _) (fun it s₂ => LoopAtV _ _ _ _ _ _ _ _ _ it s₂) _ _); refine Hold.out ?_)
  k_with "pyIter ref" => ((with_reducible show wpAny _ _ (pyIter _) (fun it s₂ => LoopAtV _ _ _ _ _ _ _ _ _ it s₂) _ _); refine Hold.out ?_)
  k_with "call ref" => (k_dflt (refine' enterQ (by exact rfl) (by exact rfl) (by first | exact rfl | assumption) (by k_asm) (by k_asm) (by k_asm) (by k_asm) (by k_asm) (by k_is) (by k_is) (by ktr_room) (by exact BindsTo.of_eq rfl) (by exact rfl) (by exact rfl) (by exact rfl) (by exact rfl) (by exact rfl) (by decide) ?_); k_whole; intro g' L' h' tk' FG' F' N' B' X' T'; dsimp only [bindsOf, List.map, List.zip, List.zipWith, List.reverse, List.reverseAux] at F'; (try dsimp only); (try k_lift B'); (try k_fold))
  k_with "pre" => first | assumption | omega | exact IsV.mono (by assumption) (by k_extra "sub") | exact LimAt.mono (by assumption) (by k_extra "sub") | exact ThingAt.mono (by assumption) (by k_extra "sub") | exact RefAt.mono (by assumption) (by k_extra "sub")
  k_with "getAttr ref" => (k_dflt (refine' get_own (by k_asm) (by k_asm) (by k_inst) (by k_is) (by k_is) (by k_is) (by k_is) (by assumption) (by k_handed) ?_); k_whole)
  k_with "getAttr ref" => ((with_reducible show wpAny _ _ (getAttr (Value.ref _) (PySem.Str.ofString "number") _) _ _ _); k_dflt (refine' kd_num (by k_asm) (by k_asm) (by k_asm) (by k_mem) (by k_mem) (by assumption) (by assumption) (by k_handed) ?_); k_whole)
  k_with "getAttr ref" => ((with_reducible show wpAny _ _ (getAttr (Value.ref _) (PySem.Str.ofString "blessed") _) _ _ _); k_dflt (refine' kd_bl (by k_asm) (by k_asm) (by k_asm) (by k_mem) (by k_mem) (by assumption) (by assumption) (by k_handed) ?_); k_whole)
  k_with "call ref" => (k_dflt (refine' FnC.use (lhead_fn _ _ _ _ (by k_extra "pre")) (by k_asm) (by k_asm) (by k_asm) (by k_asm) (by k_asm) (by first | exact rfl | assumption) (by ktr_room) (by ktr_units) ?_); (try dsimp only); intros; (try k_fold))
  k_with "call ref" => (k_dflt (refine' FnC.use (lfit_fn _ _ _ _ _ _ (by k_extra "pre") (by k_extra "pre")) (by k_asm) (by k_asm) (by k_asm) (by k_asm) (by k_asm) (by first | exact rfl | assumption) (by ktr_room) (by ktr_units) ?_); (try dsimp only); intros; (try k_fold))
  exact ⟨h, g⟩
theorem lnum_fn (w : World) (news : Led) (v : Value) (d : Vl) (wd : Int) (tw : Tok) (hv : IsV news v d) (ho : d.ok) (h1 : 4 ≤ wd) (h2 : wd ≤ 80) :
    FnC w 440 3 24 news [v, .int wd tw] (fun k => ∀ t, k (.int (numOf wd d) t) news) := by
  unfold FnC
  intro mean mg mb dp un gd cn cs a ccd cl outer A₀ base h₀ L m s Q E B F X N T hk hd hu hret
  cases d with
  | none =>
    obtain rfl := hv
    k_dflt k_extra "enter"
    k_steps
    exact hret _ _ _ (by k_asm) (by k_extra "led")
  | int n =>
    obtain ⟨t, rfl⟩ := hv
    k_dflt k_extra "enter"
    k_steps
    exact hret _ _ _ (by k_asm) (by k_extra "led")
  | str x =>
    obtain ⟨t, rfl⟩ := hv
    have ho' : x.length ≤ 1000 := Nat.le_trans ho (by decide)
    k_dflt k_extra "enter"
    k_steps
    exact hret _ _ _ (by k_asm) (by k_extra "led")
  | ref kd nm bl =>
    obtain ⟨r, th, rfl, dr, er, nr, r1, r2, r3, dth, et, nt, t, r4, r5, r6, r7⟩ := hv
    replace N := news4 N r1 r2 r4 r5
    obtain ⟨hkd, -⟩ := ho
    k_dflt k_extra "enter"
    k_steps
    exact hret _ _ _ (by k_asm) (by k_extra "led")

end Mine
end
section
namespace Mine
theorem reg_F6 (h : PySem.Challenge.rw_nz0185_01 = PySem.Challenge.rw_nz0185_01) (g : ∀ w : World, Mine.mk.heap_1 w.params = Mine.mk.heap_1 w.params) : PySem.Challenge.rw_nz0185_01 = PySem.Challenge.rw_nz0185_01 ∧ ∀ w : World, Mine.mk.heap_1 w.params = Mine.mk.heap_1 w.params := by
  k_fill
  k_with_none
  k_with "enter" => (refine' enterK ?k1 ?k2 ?k3 ?k4 ?k5 ?kA ?kF ?kK ?k6 ?k7 ?k8 ?k9 ?kb ?kB ?_ ?c2 ?c3 ?c4 ?c5; (case kA => exact rfl); (case kF => exact rfl); (case kK => assumption); (case k1 => k_asm); (case k2 => k_asm); (case k3 => k_asm); (case k4 => k_asm); (case k5 => k_asm); (case k6 => k_is); (case k7 => k_is); (case k8 => ktr_room); (case k9 => exact BindsTo.of_eq rfl); (case kb => exact rfl); (case c5 => decide); (case kB => exact rfl); (case c2 => exact rfl); (case c3 => exact rfl); (case c4 => exact rfl); k_whole; intro g' L' h' tk' FG' F' N' B' X' T'; dsimp only [bindsOf, List.map, List.zip, List.zipWith, List.reverse, List.reverseAux] at F'; (try dsimp only); (try k_lift B'); (try k_fold))
  k_with "WlPost" => (dsimp only [WlPost])
  k_with "CutPost" => (dsimp only [CutPost])
  k_with "WlExit" => ((rename News _ _ _ _ => nE'); (refine' wl_exit (by assumption) nE' (by first | (with_reducible exact fun _ h9 => h9) | kst_in) (by kst_all) ?_))
  k_with "WlEnd" => ((rename News _ _ _ _ => nE'); first
  | (refine' wl_end ⟨⟩ (by assumption) nE' (by first | (with_reducible exact fun _ h9 => h9) | kst_in) (by kst_all) ?_)
  | (refine' wl_end ⟨_, _⟩ (by assumption) nE' (by first | (with_reducible exact fun _ h9 => h9) | kst_in) (by kst_all) ?_)
  | (refine' wl_end ⟨_, _, _⟩ (by assumption) nE' (by first | (with_reducible exact fun _ h9 => h9) | kst_in) (by kst_all) ?_)
  | (refine' wl_end ⟨_, _, _, _⟩ (by assumption) nE' (by first | (with_reducible exact fun _ h9 => h9) | kst_in) (by kst_all) ?_)
  | (refine' wl_end ⟨_, _, _, _, _⟩ (by assumption) nE' (by first | (with_reducible exact fun _ h9 => h9) | kst_in) (by kst_all) ?_)
  | (refine' wl_end ⟨_, _, _, _, _, _⟩ (by assumption) nE' (by first | (with_reducible exact fun _ h9 => h9) | kst_in) (by kst_all) ?_))
  k_with "CutEnd" => ((rename News _ _ _ _ => nE'); first
  | (refine' cut_end ⟨⟩ (by assumption) nE' (by first | (with_reducible exact fun _ h9 => h9) | kst_in) (by kst_all) ?_)
  | (refine' cut_end ⟨_, _⟩ (by assumption) nE' (by first | (with_reducible exact fun _ h9 => h9) | kst_in) (by kst_all) ?_)
  | (refine' cut_end ⟨_, _, _⟩ (by assumption) nE' (by first | (with_reducible exact fun _ h9 => h9) | kst_in) (by kst_all) ?_)
  | (refine' cut_end ⟨_, _, _, _⟩ (by assumption) nE' (by first | (with_reducible exact fun _ h9 => h9) | kst_in) (by kst_all) ?_)
  | (refine' cut_end ⟨_, _, _, _, _⟩ (by assumption) nE' (by first | (with_reducible exact fun _ h9 => h9) | kst_in) (by kst_all) ?_)
  | (refine' cut_end ⟨_, _, _, _, _, _⟩ (by assumption) nE' (by first | (with_reducible exact fun _ h9 => h9) | kst_in) (by kst_all) ?_))
  k_with "led" => (first | k_asm | (refine' kst_newsOf (by assumption) (by kst_in)))
  k_with "end" => (first | (refine' retI ?_ (hret _ _ _ (by k_asm) (by k_extra "led"))) | (refine' retS ?_ (hret _ _ _ (by k_asm) (by k_extra "led"))) | (refine' retB ?_ (hret _ _ (by k_asm) (by k_extra "led"))))
  k_with "exec While BoolOp cons nil" => refine Hold.out ?_
  k_with "exec While Compare cons nil" => refine Hold.out ?_
  k_with "exec If" => ((rename Mark => hm9); clear hm9; refine Hold.out ?_)
  k_with "sub" => (first | assumption | exact fun _ h9 => h9 | (intro p9 h9; (try dsimp only at h9); first | exact h9 | (simp only [List.mem_cons, List.mem_append, List.cons_append, List.nil_append] at h9 ⊢; first | (simp only [h9, true_or, or_true]; done) | grind)))
  k_with "FlPost" => (dsimp only [FlPost])
  k_with "FlEnd" => ((rename News _ _ _ _ => nE'); first
  | (refine' fl_end ⟨⟩ (by assumption) nE' (by k_extra "sub") (by k_extra "sub") (by kst_all) (by first | exact ⟨by assumption⟩ | skip) ?_)
  | (refine' fl_end ⟨_, _⟩ (by assumption) nE' (by k_extra "sub") (by k_extra "sub") (by kst_all) (by first | exact ⟨by assumption⟩ | skip) ?_)
  | (refine' fl_end ⟨_, _, _⟩ (by assumption) nE' (by k_extra "sub") (by k_extra "sub") (by kst_all) (by first | exact ⟨by assumption⟩ | skip) ?_)
  | (refine' fl_end ⟨_, _, _, _⟩ (by assumption) nE' (by k_extra "sub") (by k_extra "sub") (by kst_all) (by first | exact ⟨by assumption⟩ | skip) ?_))
  k_with "pyIter str" => refine Hold.out ?_
  k_with "pyIter ref" => refine Hold.out ?_
  k_with "pre" => first | assumption | omega
  exact ⟨h, g⟩
theorem magicq_fn (w : World) (news : Led) (x : Str) (tx : Tok) (hx : x.length ≤ 1000) :
    FnC w 327 1 8 news [.str x tx] (fun k => k (.bool (magic (lst x))) news) := by
  unfold FnC
  intro mean mg mb dp un gd cn cs a ccd cl outer A₀ base h₀ L m s Q E B F X N T hk hd hu hret
  k_dflt k_extra "enter"
  k_steps
  refine ⟨?_⟩
  with_unfolding_all refine' wl_while (σ := Int × Tok) (fun _ => news) (fun c => [(Str.ofString "text", .str x tx), (Str.ofString "at", .int c.1 c.2)]) (fun c => 0 ≤ c.1 ∧ c.1 ≤ (x.length : Int) ∧ ∀ i : Nat, 0 ≤ (i : Int) → (i : Int) < c.1 → isLet (cod x i) = true) (fun c => c.1 = x.length ∨ isLet (cod x c.1.toNat) = false) (fun c => x.length - c.1.toNat) (⟨_, _⟩) (by assumption) (by assumption) (by kst_in) (by kst_all) ?start ?turn ?done
  case start => exact ⟨Int.le_refl 0, by dsimp only; omega, fun i h h' => by dsimp only at h'; omega⟩
  case turn =>
    rintro ⟨k1, t1⟩ u1 h1 tk1 ⟨p1, p2, p3⟩ F1 N1
    dsimp only at p1 p2 p3 F1 N1
    k_steps
    · exact ⟨.inr (let_no p1 (by assumption) (by assumption) (by assumption))⟩
    · exact ⟨⟨⟨by dsimp only; omega, by dsimp only; omega, all_step p1 p3 (let_gr p1 (by assumption) (by assumption))⟩, by dsimp only; omega⟩⟩
    · exact ⟨⟨⟨by dsimp only; omega, by dsimp only; omega, all_step p1 p3 (let_sm p1 (by assumption) (by assumption))⟩, by dsimp only; omega⟩⟩
    · exact ⟨.inl (by dsimp only; omega)⟩
  case done =>
    rintro ⟨k1, t1⟩ u1 h1 tk1 ⟨p1, p2, p3⟩ p4 F1 N1
    dsimp only at p1 p2 p3 p4 F1 N1
    k_steps
    refine ⟨?_⟩
    with_unfolding_all refine' wl_while (σ := Int × Tok) (fun _ => news) (fun c => [(Str.ofString "text", .str x tx), (Str.ofString "letters", .int k1 t1), (Str.ofString "at", .int c.1 c.2)]) (fun c => k1 ≤ c.1 ∧ c.1 ≤ (x.length : Int) ∧ ∀ i : Nat, k1 ≤ (i : Int) → (i : Int) < c.1 → isFig (cod x i) = true) (fun c => c.1 = x.length ∨ isFig (cod x c.1.toNat) = false) (fun c => x.length - c.1.toNat) (⟨_, _⟩) (by assumption) (by assumption) (by kst_in) (by kst_all) ?start2 ?turn2 ?done2
    case start2 => exact ⟨Int.le_refl _, p2, fun i h h' => by dsimp only at h'; omega⟩
    case turn2 =>
      rintro ⟨k3, t3⟩ u3 h3 tk3 ⟨r1, r2, r3⟩ F3 N3
      dsimp only at r1 r2 r3 F3 N3
      have r0 : 0 ≤ k3 := by omega
      k_steps
      · exact ⟨.inr (fig_no r0 (by assumption) (by assumption))⟩
      · exact ⟨⟨⟨by dsimp only; omega, by dsimp only; omega, all_step r0 r3 (fig_yes r0 (by assumption) (by assumption))⟩, by dsimp only; omega⟩⟩
      · exact ⟨.inl (by dsimp only; omega)⟩
    case done2 =>
      rintro ⟨k3, t3⟩ u3 h3 tk3 ⟨r1, r2, r3⟩ r4 F3 N3
      dsimp only at r1 r2 r3 r4 F3 N3
      k_steps
      · k_extra "end"; exact ⟨magic_end1 p1 p2 p3 p4 r1 r2 r3 r4 (by assumption)⟩
      · k_extra "end"; exact ⟨magic_end0 p1 p2 p3 p4 r1 r2 r3 r4 (by assumption)⟩

end Mine
end
section
namespace Mine
theorem reg_F10 (h : PySem.Challenge.rw_nz0185_01 = PySem.Challenge.rw_nz0185_01) (g : ∀ w : World, Mine.mk.heap_1 w.params = Mine.mk.heap_1 w.params) : PySem.Challenge.rw_nz0185_01 = PySem.Challenge.rw_nz0185_01 ∧ ∀ w : World, Mine.mk.heap_1 w.params = Mine.mk.heap_1 w.params := by
  k_fill
  k_with_none
  k_with "enter" => (refine' enterK ?k1 ?k2 ?k3 ?k4 ?k5 ?kA ?kF ?kK ?k6 ?k7 ?k8 ?k9 ?kb ?kB ?_ ?c2 ?c3 ?c4 ?c5; (case kA => exact rfl); (case kF => exact rfl); (case kK => assumption); (case k1 => k_asm); (case k2 => k_asm); (case k3 => k_asm); (case k4 => k_asm); (case k5 => k_asm); (case k6 => k_is); (case k7 => k_is); (case k8 => ktr_room); (case k9 => exact BindsTo.of_eq rfl); (case kb => exact rfl); (case c5 => decide); (case kB => exact rfl); (case c2 => exact rfl); (case c3 => exact rfl); (case c4 => exact rfl); k_whole; intro g' L' h' tk' FG' F' N' B' X' T'; dsimp only [bindsOf, List.map, List.zip, List.zipWith, List.reverse, List.reverseAux] at F'; (try dsimp only); (try k_lift B'); (try k_fold))
  k_with "WlPost" => (dsimp only [WlPost])
  k_with "CutPost" => (dsimp only [CutPost])
  k_with "WlExit" => ((rename News _ _ _ _ => nE'); (refine' wl_exit (by assumption) nE' (by first | (with_reducible exact fun _ h9 => h9) | kst_in) (by kst_all) ?_))
  k_with "WlEnd" => ((rename News _ _ _ _ => nE'); first
  | (refine' wl_end ⟨⟩ (by assumption) nE' (by first | (with_reducible exact fun _ h9 => h9) | kst_in) (by kst_all) ?_)
  | (refine' wl_end ⟨_, _⟩ (by assumption) nE' (by first | (with_reducible exact fun _ h9 => h9) | kst_in) (by kst_all) ?_)
  | (refine' wl_end ⟨_, _, _⟩ (by assumption) nE' (by first | (with_reducible exact fun _ h9 => h9) | kst_in) (by kst_all) ?_)
  | (refine' wl_end ⟨_, _, _, _⟩ (by assumption) nE' (by first | (with_reducible exact fun _ h9 => h9) | kst_in) (by kst_all) ?_)
  | (refine' wl_end ⟨_, _, _, _, _⟩ (by assumption) nE' (by first | (with_reducible exact fun _ h9 => h9) | kst_in) (by kst_all) ?_)
  | (refine' wl_end ⟨_, _, _, _, _, _⟩ (by assumption) nE' (by first | (with_reducible exact fun _ h9 => h9) | kst_in) (by kst_all) ?_))
  k_with "CutEnd" => ((rename News _ _ _ _ => nE'); first
  | (refine' cut_end ⟨⟩ (by assumption) nE' (by first | (with_reducible exact fun _ h9 => h9) | kst_in) (by kst_all) ?_)
  | (refine' cut_end ⟨_, _⟩ (by assumption) nE' (by first | (with_reducible exact fun _ h9 => h9) | kst_in) (by kst_all) ?_)
  | (refine' cut_end ⟨_, _, _⟩ (by assumption) nE' (by first | (with_reducible exact fun _ h9 => h9) | kst_in) (by kst_all) ?_)
  | (refine' cut_end ⟨_, _, _, _⟩ (by assumption) nE' (by first | (with_reducible exact fun _ h9 => h9) | kst_in) (by kst_all) ?_)
  | (refine' cut_end ⟨_, _, _, _, _⟩ (by assumption) nE' (by first | (with_reducible exact fun _ h9 => h9) | kst_in) (by kst_all) ?_)
  | (refine' cut_end ⟨_, _, _, _, _, _⟩ (by assumption) nE' (by first | (with_reducible exact fun _ h9 => h9) | kst_in) (by kst_all) ?_))
  k_with "led" => (first | k_asm | (refine' kst_newsOf (by assumption) (by kst_in)))
  k_with "end" => (first | (refine' retI ?_ (hret _ _ _ (by k_asm) (by k_extra "led"))) | (refine' retS ?_ (hret _ _ _ (by k_asm) (by k_extra "led"))) | (refine' retB ?_ (hret _ _ (by k_asm) (by k_extra "led"))))
  k_with "exec While BoolOp cons nil" => refine Hold.out ?_
  k_with "exec While Compare cons nil" => refine Hold.out ?_
  k_with "exec If" => ((rename Mark => hm9); clear hm9; refine Hold.out ?_)
  k_with "sub" => (first | assumption | exact fun _ h9 => h9 | (intro p9 h9; (try dsimp only at h9); first | exact h9 | (simp only [List.mem_cons, List.mem_append, List.cons_append, List.nil_append] at h9 ⊢; first | (simp only [h9, true_or, or_true]; done) | grind)))
  k_with "FlPost" => (dsimp only [FlPost])
  k_with "FlEnd" => ((rename News _ _ _ _ => nE'); first
  | (refine' fl_end ⟨⟩ (by assumption) nE' (by k_extra "sub") (by k_extra "sub") (by kst_all) (by first | exact ⟨by assumption⟩ | skip) ?_)
  | (refine' fl_end ⟨_, _⟩ (by assumption) nE' (by k_extra "sub") (by k_extra "sub") (by kst_all) (by first | exact ⟨by assumption⟩ | skip) ?_)
  | (refine' fl_end ⟨_, _, _⟩ (by assumption) nE' (by k_extra "sub") (by k_extra "sub") (by kst_all) (by first | exact ⟨by assumption⟩ | skip) ?_)
  | (refine' fl_end ⟨_, _, _, _⟩ (by assumption) nE' (by k_extra "sub") (by k_extra "sub") (by kst_all) (by first | exact ⟨by assumption⟩ | skip) ?_))
  k_with "pyIter str" => refine Hold.out ?_
  k_with "pyIter ref" => refine Hold.out ?_
  k_with "pre" => first | assumption | omega
  k_with "call ref" => (k_dflt (refine' FnC.use (row_fn _ _ _ _ _ (by k_extra "pre")) (by k_asm) (by k_asm) (by k_asm) (by k_asm) (by k_asm) (by first | exact rfl | assumption) (by ktr_room) (by ktr_units) ?_); (try dsimp only); intros; (try k_fold))
  exact ⟨h, g⟩
theorem minc_fn (w : World) (news : Led) (x : Str) (tx : Tok) (hx : x.length ≤ 1000) (hm : magic (lst x) = true) :
    FnC w 341 2 16 news [.str x tx] (fun k => ∀ t, k (.str (mkS (nextL (lst x))) t) news) := by
  unfold FnC
  intro mean mg mb dp un gd cn cs a ccd cl outer A₀ base h₀ L m s Q E B F X N T hk hd hu hret
  k_dflt k_extra "enter"
  k_steps
  refine ⟨?_⟩
  with_unfolding_all refine' wl_while (σ := Int × Tok × Str × Tok) (fun _ => news) (fun c => [(Str.ofString "text", .str x tx), (Str.ofString "at", .int c.1 c.2.1), (Str.ofString "behind", .str c.2.2.1 c.2.2.2)]) (fun c => MincP x c.1 c.2.2.1) (fun c => c.1 = 0) (fun c => c.1.toNat) (⟨_, _, _, _⟩) (by assumption) (by assumption) (by kst_in) (by kst_all) ?start ?turn ?done
  case start => exact ⟨MincP.start⟩
  case turn =>
    rintro ⟨k, tk, b, tb⟩ u hh tkk p F1 N1
    dsimp only at p F1 N1
    have p1 := p.1
    have p2 := p.2.1
    have p3 := p.len
    have hrl := row_len (cod x (k - 1).toNat)
    have hrf := minc_find hm k
    k_with "pre" => exact item_cod (by omega) (by omega)
    k_steps
    · k_extra "end"; exact ⟨p.ret hm (by assumption) (by assumption)⟩
    · exact ⟨⟨p.step hm (by assumption) (by assumption), by dsimp only; omega⟩⟩
    · exact ⟨by dsimp only; omega⟩
  case done =>
    rintro ⟨k, tk, b, tb⟩ u hh tkk p p6 F1 N1
    dsimp only at p p6 F1 N1
    have p3 := p.len
    have hb : 1 ≤ b.length ∧ 1 ≤ x.length := by
      obtain ⟨c, r, _, _, _, _, h1, h2, _⟩ := p.first hm p6
      exact ⟨h1, h2⟩
    k_steps
    · k_extra "end"; exact ⟨p.end2 hm p6⟩
    · exact (p.end1 hm p6 (by assumption)).elim

end Mine
end
section
namespace Mine
theorem reg_O10 (h : PySem.Challenge.rw_nz0185_01 = PySem.Challenge.rw_nz0185_01) (g : ∀ w : World, Mine.mk.heap_1 w.params = Mine.mk.heap_1 w.params) : PySem.Challenge.rw_nz0185_01 = PySem.Challenge.rw_nz0185_01 ∧ ∀ w : World, Mine.mk.heap_1 w.params = Mine.mk.heap_1 w.params := by
  k_fill
  k_with_none
  k_with "enter" => (refine' enterK ?k1 ?k2 ?k3 ?k4 ?k5 ?kA ?kF ?kK ?k6 ?k7 ?k8 ?k9 ?kb ?kB ?_ ?c2 ?c3 ?c4 ?c5; (case kA => exact rfl); (case kF => exact rfl); (case kK => assumption); (case k1 => k_asm); (case k2 => k_asm); (case k3 => k_asm); (case k4 => k_asm); (case k5 => k_asm); (case k6 => k_is); (case k7 => k_is); (case k8 => ktr_room); (case k9 => exact BindsTo.of_eq rfl); (case kb => exact rfl); (case c5 => decide); (case kB => exact rfl); (case c2 => exact rfl); (case c3 => exact rfl); (case c4 => exact rfl); k_whole; intro g' L' h' tk' FG' F' N' B' X' T'; dsimp only [bindsOf, List.map, List.zip, List.zipWith, List.reverse, List.reverseAux] at F'; (try dsimp only); (try k_lift B'); (try k_fold))
  k_with "WlPost" => (dsimp only [WlPost])
  k_with "CutPost" => (dsimp only [CutPost])
  k_with "WlExit" => ((rename News _ _ _ _ => nE'); (refine' wl_exit (by assumption) nE' (by first | (with_reducible exact fun _ h9 => h9) | kst_in) (by kst_all) ?_))
  k_with "WlEnd" => ((rename News _ _ _ _ => nE'); first
  | (refine' wl_end ⟨⟩ (by assumption) nE' (by first | (with_reducible exact fun _ h9 => h9) | kst_in) (by kst_all) ?_)
  | (refine' wl_end ⟨_, _⟩ (by assumption) nE' (by first | (with_reducible exact fun _ h9 => h9) | kst_in) (by kst_all) ?_)
  | (refine' wl_end ⟨_, _, _⟩ (by assumption) nE' (by first | (with_reducible exact fun _ h9 => h9) | kst_in) (by kst_all) ?_)
  | (refine' wl_end ⟨_, _, _, _⟩ (by assumption) nE' (by first | (with_reducible exact fun _ h9 => h9) | kst_in) (by kst_all) ?_)
  | (refine' wl_end ⟨_, _, _, _, _⟩ (by assumption) nE' (by first | (with_reducible exact fun _ h9 => h9) | kst_in) (by kst_all) ?_)
  | (refine' wl_end ⟨_, _, _, _, _, _⟩ (by assumption) nE' (by first | (with_reducible exact fun _ h9 => h9) | kst_in) (by kst_all) ?_))
  k_with "CutEnd" => ((rename News _ _ _ _ => nE'); first
  | (refine' cut_end ⟨⟩ (by assumption) nE' (by first | (with_reducible exact fun _ h9 => h9) | kst_in) (by kst_all) ?_)
  | (refine' cut_end ⟨_, _⟩ (by assumption) nE' (by first | (with_reducible exact fun _ h9 => h9) | kst_in) (by kst_all) ?_)
  | (refine' cut_end ⟨_, _, _⟩ (by assumption) nE' (by first | (with_reducible exact fun _ h9 => h9) | kst_in) (by kst_all) ?_)
  | (refine' cut_end ⟨_, _, _, _⟩ (by assumption) nE' (by first | (with_reducible exact fun _ h9 => h9) | kst_in) (by kst_all) ?_)
  | (refine' cut_end ⟨_, _, _, _, _⟩ (by assumption) nE' (by first | (with_reducible exact fun _ h9 => h9) | kst_in) (by kst_all) ?_)
  | (refine' cut_end ⟨_, _, _, _, _, _⟩ (by assumption) nE' (by first | (with_reducible exact fun _ h9 => h9) | kst_in) (by kst_all) ?_))
  k_with "led" => (first | k_asm | (refine' kst_newsOf (by assumption) (by kst_in)))
  k_with "end" => (first | (refine' retI ?_ (hret _ _ _ (by k_asm) (by k_extra "led"))) | (refine' retS ?_ (hret _ _ _ (by k_asm) (by k_extra "led"))) | (refine' retB ?_ (hret _ _ (by k_asm) (by k_extra "led"))))
  k_with "exec While BoolOp cons nil" => refine Hold.out ?_
  k_with "exec While Compare cons nil" => refine Hold.out ?_
  k_with "exec If" => ((rename Mark => hm9); clear hm9; refine Hold.out ?_)
  k_with "sub" => (first | assumption | exact fun _ h9 => h9 | (intro p9 h9; (try dsimp only at h9); first | exact h9 | (simp only [List.mem_cons, List.mem_append, List.cons_append, List.nil_append] at h9 ⊢; first | (simp only [h9, true_or, or_true]; done) | grind)))
  k_with "FlPost" => (dsimp only [FlPost])
  k_with "FlEnd" => ((rename News _ _ _ _ => nE'); first
  | (refine' fl_end ⟨⟩ (by assumption) nE' (by k_extra "sub") (by k_extra "sub") (by kst_all) (by first | exact ⟨by assumption⟩ | skip) ?_)
  | (refine' fl_end ⟨_, _⟩ (by assumption) nE' (by k_extra "sub") (by k_extra "sub") (by kst_all) (by first | exact ⟨by assumption⟩ | skip) ?_)
  | (refine' fl_end ⟨_, _, _⟩ (by assumption) nE' (by k_extra "sub") (by k_extra "sub") (by kst_all) (by first | exact ⟨by assumption⟩ | skip) ?_)
  | (refine' fl_end ⟨_, _, _, _⟩ (by assumption) nE' (by k_extra "sub") (by k_extra "sub") (by kst_all) (by first | exact ⟨by assumption⟩ | skip) ?_))
  k_with "pyIter str" => ((with_reducible show wpAny _ _ (pyIter _) (fun it s₂ => LoopAtV _ _ _ _ _ _ _ _ _ it s₂) _ _); refine Hold.out ?_)
  k_with "pyIter ref" => ((with_reducible show wpAny _ _ (pyIter _) (fun it s₂ => LoopAtV _ _ _ _ _ _ _ _ _ it s₂) _ _); refine Hold.out ?_)
  k_with "call ref" => (k_dflt (refine' enterQ (by exact rfl) (by exact rfl) (by first | exact rfl | assumption) (by k_asm) (by k_asm) (by k_asm) (by k_asm) (by k_asm) (by k_is) (by k_is) (by ktr_room) (by exact BindsTo.of_eq rfl) (by exact rfl) (by exact rfl) (by exact rfl) (by exact rfl) (by exact rfl) (by decide) ?_); k_whole; intro g' L' h' tk' FG' F' N' B' X' T'; dsimp only [bindsOf, List.map, List.zip, List.zipWith, List.reverse, List.reverseAux] at F'; (try dsimp only); (try k_lift B'); (try k_fold))
  k_with "pre" => first | assumption | omega | exact IsV.mono (by assumption) (by k_extra "sub") | exact LimAt.mono (by assumption) (by k_extra "sub") | exact ThingAt.mono (by assumption) (by k_extra "sub") | exact RefAt.mono (by assumption) (by k_extra "sub") | k_mem | k_extra "ne9"
  k_with "ne9" => (first | assumption | (refine' List.forall_mem_cons.mpr ⟨by k_ne, ?_⟩; k_extra "ne9"))
  k_with "getAttr ref" => (k_dflt (refine' get_own (by k_asm) (by k_asm) (by k_inst) (by k_is) (by k_is) (by k_is) (by k_is) (by assumption) (by k_handed) ?_); k_whole)
  k_with "getAttr ref" => ((with_reducible show wpAny _ _ (getAttr (Value.ref _) (PySem.Str.ofString "number") _) _ _ _); k_dflt (refine' kd_num (by k_asm) (by k_asm) (by k_asm) (by k_mem) (by k_mem) (by assumption) (by assumption) (by k_handed) ?_); k_whole)
  k_with "getAttr ref" => ((with_reducible show wpAny _ _ (getAttr (Value.ref _) (PySem.Str.ofString "blessed") _) _ _ _); k_dflt (refine' kd_bl (by k_asm) (by k_asm) (by k_asm) (by k_mem) (by k_mem) (by assumption) (by assumption) (by k_handed) ?_); k_whole)
  k_with "compareOp NotEq ref str" => (k_dflt (refine' ref_ne_str (by exact Frag.In.keeps (by k_asm) (Fr.keep (by k_asm))) (by k_inst) (by first | ke_room | ktr_units) ?_); k_whole)
  k_with "compareOp NotEq ref int" => (k_dflt (refine' ref_ne_int (by exact Frag.In.keeps (by k_asm) (Fr.keep (by k_asm))) (by k_inst) (by first | ke_room | ktr_units) ?_); k_whole)
  k_with "compareOp NotIn ref ref" => (k_dflt (refine' ref_notIn (News.isList (by k_asm) (by k_mem)) (by exact Frag.In.keeps (by k_asm) (Fr.keep (by k_asm))) (by k_inst) (by first | ke_room | ktr_units) ?_); k_whole)
  k_with "call ref" => ((with_reducible show wpAny _ _ (call (Value.ref 28) _) _ _ _); k_dflt (refine' FnC.use (wrap_fn _ _ _ _ _ _ (by k_extra "pre") (by k_extra "pre")) (by k_asm) (by k_asm) (by k_asm) (by k_asm) (by k_asm) (by first | exact rfl | assumption) (by ktr_room) (by ktr_units) ?_); (try dsimp only); intros; (try k_fold))
  k_with "call ref" => ((with_reducible show wpAny _ _ (call (Value.ref 327) _) _ _ _); k_dflt (refine' FnC.use (magicq_fn _ _ _ _ (by k_extra "pre")) (by k_asm) (by k_asm) (by k_asm) (by k_asm) (by k_asm) (by first | exact rfl | assumption) (by ktr_room) (by ktr_units) ?_); (try dsimp only); intros; (try k_fold))
  k_with "call ref" => ((with_reducible show wpAny _ _ (call (Value.ref 341) _) _ _ _); k_dflt (refine' FnC.use (minc_fn _ _ _ _ (by k_extra "pre") (by k_extra "pre")) (by k_asm) (by k_asm) (by k_asm) (by k_asm) (by k_asm) (by first | exact rfl | assumption) (by ktr_room) (by ktr_units) ?_); (try dsimp only); intros; (try k_fold))
  k_with "call ref" => ((with_reducible show wpAny _ _ (call (Value.ref 313) _) _ _ _); k_dflt (refine' FnC.useN (by k_asm) (tonum_fn _ _ _ _ _ _ (by k_extra "pre") (by k_extra "pre") (by k_extra "pre") (by k_extra "pre") (by k_extra "pre")) (by k_asm) (by k_asm) (by k_asm) (by k_asm) (by first | exact rfl | assumption) (by ktr_room) (by ktr_units) ?_); (try dsimp only); intros; (try k_fold))
  k_with "call builtin:isinstance" => refine Hold.out ?_
  exact ⟨h, g⟩
theorem incr_fn (w : World) (news : Led) (v : Value) (d : Vl) (lim : Addr) (wd : Int) (hv : IsV news v d) (hl : LimAt news lim wd) (h1 : 4 ≤ wd) (h2 : wd ≤ 80) (ho : d.ok) :
    FnC w 348 4 32 news [v, .ref lim] (fun k => ∀ t, k (incV wd d t) news) := by
  unfold FnC
  intro mean mg mb dp un gd cn cs a ccd cl outer A₀ base h₀ L m s Q E B F X N T hk hd hu hret
  have hl' := hl
  obtain ⟨dl, el, nl, tl, l1, l2, l3⟩ := hl
  replace N := news2 N l1 l2
  have mk : Mark := ⟨⟩
  k_dflt k_extra "enter"
  k_steps
  refine ⟨?_⟩
  with_unfolding_all refine' wl_cut (σ := Unit) (fun _ => (lim, instObj 387 dl) :: (dl, dictOf el nl) :: news) (fun _ => [(Str.ofString "value", v), (Str.ofString "limits", .ref lim)]) (fun _ => ∀ t, incV wd d t = .int (fitN (numOf wd d + 1) wd) t) (by assumption) ?s1 ?s2
  case s1 =>
    k_steps
    refine ⟨?_⟩
    cases q : kindIs 1 d with
    | true =>
      k_dflt (refine' isi_b q (by k_asm) (by k_asm) (by k_asm) (hv.mono (by k_extra "sub")) ?_)
      intro _
      obtain ⟨x, rfl⟩ := kind_str q
      have hv' := hv
      obtain ⟨t, rfl⟩ := hv'
      have ho' : x.length ≤ 1000 := Nat.le_trans ho (by decide)
      cases hm : magic (lst x) with
      | true =>
        k_steps
        simp only [incV, if_pos hm] at hret
        exact hret _ _ _ (by k_asm) (by k_extra "led")
      | false =>
        k_steps
        exact ⟨fun _ => if_neg (by rw [hm]; decide)⟩
    | false =>
      k_dflt (refine' isi_b q (by k_asm) (by k_asm) (by k_asm) (hv.mono (by k_extra "sub")) ?_)
      intro _
      k_steps
      exact ⟨fun _ => inc_no q⟩
  case s2 =>
    rintro ⟨⟩ u2 hh2 tk2 hin F2 N2
    (try dsimp only at F2 N2)
    k_steps
    rw [← hin]
    exact hret _ _ _ (by k_asm) (by k_extra "led")
theorem decr_fn (w : World) (news : Led) (v : Value) (d : Vl) (lim : Addr) (wd : Int) (hv : IsV news v d) (hl : LimAt news lim wd) (h1 : 4 ≤ wd) (h2 : wd ≤ 80) (ho : d.ok) :
    FnC w 355 4 32 news [v, .ref lim] (fun k => ∀ t, k (.int (fitN (numOf wd d - 1) wd) t) news) := by
  unfold FnC
  intro mean mg mb dp un gd cn cs a ccd cl outer A₀ base h₀ L m s Q E B F X N T hk hd hu hret
  have hl' := hl
  have hv' := hv
  obtain ⟨dl, el, nl, tl, l1, l2, l3⟩ := hl
  replace N := news2 N l1 l2
  k_dflt k_extra "enter"
  k_steps
  exact hret _ _ _ (by k_asm) (by k_extra "led")
theorem cmpn_fn (w : World) (news : Led) (v v2 : Value) (d d2 : Vl) (lim : Addr) (wd : Int) (hv : IsV news v d) (hv2 : IsV news v2 d2) (hl : LimAt news lim wd) (h1 : 4 ≤ wd) (h2 : wd ≤ 80) (ho : d.ok) (ho2 : d2.ok) :
    FnC w 362 4 32 news [v, v2, .ref lim] (fun k => ∀ t, k (.int (cmpOf (numOf wd d) (numOf wd d2)) t) news) := by
  unfold FnC
  intro mean mg mb dp un gd cn cs a ccd cl outer A₀ base h₀ L m s Q E B F X N T hk hd hu hret
  k_dflt k_extra "enter"
  k_steps
  all_goals
    refine retI ⟨?_⟩ (hret _ _ _ (by k_asm) (by k_extra "led"))
    unfold cmpOf
    split <;> (try split) <;> omega

end Mine
end
section
namespace Mine
theorem digs_fig (n : Nat) : (digs n).all isFig = true := by
  induction n using Nat.strongRecOn with
  | _ n IH =>
    unfold digs
    split
    · simp [isFig]; omega
    · rw [List.all_append, IH _ (by omega)]; simp [isFig]; omega
theorem val_digs (n : Nat) : val (digs n) = n := by
  induction n using Nat.strongRecOn with
  | _ n IH =>
    unfold digs
    split
    · simp [val]
    · rw [val_snoc, IH _ (by omega)]; omega
theorem digs_head (n : Nat) : ∃ c r, digs n = c :: r ∧ isFig c = true := by
  have h := digs_fig n
  cases e : digs n with
  | nil => unfold digs at e; split at e <;> simp at e
  | cons c r => rw [e] at h; exact ⟨c, r, rfl, (List.all_cons ▸ h : (isFig c && r.all isFig) = true) |> fun k => (Bool.and_eq_true_iff.mp k).1⟩
theorem num_pos (n : Nat) : num (9 :: 32 :: (digs n ++ [120])) = (n : Int) := by
  obtain ⟨c, r, e, hc⟩ := digs_head n
  have h32 : isSp c = false := by simp [isFig, isSp] at hc ⊢; omega
  have hb : bodyL (9 :: 32 :: (digs n ++ [120])) = digs n ++ [120] := by
    unfold bodyL
    rw [List.dropWhile_cons_of_pos (by decide), List.dropWhile_cons_of_pos (by decide), e, List.cons_append, List.dropWhile_cons_of_neg (by rw [h32]; decide)]
  have hn : neg (9 :: 32 :: (digs n ++ [120])) = false := by
    unfold neg; rw [hb, e]; simp [isFig] at hc ⊢; omega
  have hs : sg (9 :: 32 :: (digs n ++ [120])) = 0 := by
    unfold sg; rw [hb, e]; simp [isFig] at hc ⊢; omega
  have hd : ds (9 :: 32 :: (digs n ++ [120])) = digs n := by
    unfold ds; rw [hb, hs, List.drop_zero]; exact (tw_app (digs_fig n) (by decide)).1
  unfold num; rw [hn, hd, val_digs]; rfl
theorem num_neg (n : Nat) : num (9 :: 32 :: 45 :: (digs n ++ [120])) = -(n : Int) := by
  have hb : bodyL (9 :: 32 :: 45 :: (digs n ++ [120])) = 45 :: (digs n ++ [120]) := by
    unfold bodyL
    rw [List.dropWhile_cons_of_pos (by decide), List.dropWhile_cons_of_pos (by decide), List.dropWhile_cons_of_neg (by decide)]
  have hn : neg (9 :: 32 :: 45 :: (digs n ++ [120])) = true := by
    unfold neg; rw [hb]; rfl
  have hs : sg (9 :: 32 :: 45 :: (digs n ++ [120])) = 1 := by
    unfold sg; rw [hb]; rfl
  have hd : ds (9 :: 32 :: 45 :: (digs n ++ [120])) = digs n := by
    unfold ds; rw [hb, hs, List.drop_succ_cons, List.drop_zero]; exact (tw_app (digs_fig n) (by decide)).1
  unfold num; rw [hn, hd, val_digs]; rfl
theorem lst_back (n : Int) : lst (Str.ofString "\t " ++ mkS (numText n) ++ Str.ofString "x") = 9 :: 32 :: (numText n ++ [120]) := by
  rw [lst_append, lst_append, lst_mkS, show lst (Str.ofString "\t ") = [9, 32] by decide +kernel, show lst (Str.ofString "x") = [120] by decide +kernel]
  simp
theorem num_back (n : Int) : num (lst (Str.ofString "\t " ++ mkS (numText n) ++ Str.ofString "x")) = n := by
  rw [lst_back]
  unfold numText
  split
  · rw [List.cons_append, num_neg]; omega
  · rw [num_pos]; omega
theorem back_len {n : Int} (h : n.natAbs < 10 ^ 30) : (Str.ofString "\t " ++ mkS (numText n) ++ Str.ofString "x").length ≤ 40 := by
  have := numText_len h
  rw [len_lst, lst_mkS] at this
  rw [len_lst, lst_back]
  simp only [List.length_cons, List.length_append, List.length_nil]; omega
theorem strip_all (x : Str) : (Txt.stripChars x (Str.ofString " \t\n\x0d\x0c\x0b") == Str.ofString "") = (lst x).all isSp := by
  have e : (Str.ofString " \t\n\x0d\x0c\x0b").cps.contains = isSp := funext sp_contains
  have h1 : lst (Txt.stripChars x (Str.ofString " \t\n\x0d\x0c\x0b")) = (bodyL (lst x)).take ((bodyL (lst x)).length - ((bodyL (lst x)).reverse.takeWhile isSp).length) := by
    unfold Txt.stripChars
    rw [PyProof.Rows.stripBy_eq]
    show (Builtin.Str.strSub _ _ _).cps.toList = _
    rw [StrLaws.strSub_toList]
    unfold stripLo stripHi
    rw [e]
    simp only [if_true]
    unfold bodyL
    rw [drop_tw]
    show List.take _ _ = List.take _ _
    congr 1
    rw [List.length_drop, len_lst]
    show (lst x).length - (((lst x).drop ((lst x).takeWhile isSp).length).reverse.takeWhile isSp).length - ((lst x).takeWhile isSp).length = _
    omega
  have h2 : (lst x).all isSp = (bodyL (lst x)).all isSp := by
    have := List.takeWhile_append_dropWhile (p := isSp) (l := lst x)
    conv => lhs; rw [← this]
    rw [List.all_append, all_takeWhile, Bool.true_and]; rfl
  rw [str_beq, h1, h2, show lst (Str.ofString "") = [] by decide, ← List.all_reverse, all_tw, List.length_reverse]
  generalize hD : bodyL (lst x) = D
  have hle := (List.takeWhile_prefix isSp (l := D.reverse)).length_le
  rw [List.length_reverse] at hle
  rw [decide_eq_decide, List.take_eq_nil_iff]
  constructor
  · rintro (h | rfl)
    · omega
    · rfl
  · intro h; left; omega
end Mine
end
section
namespace Mine
theorem reg_O15 (h : PySem.Challenge.rw_nz0185_01 = PySem.Challenge.rw_nz0185_01) (g : ∀ w : World, Mine.mk.heap_1 w.params = Mine.mk.heap_1 w.params) : PySem.Challenge.rw_nz0185_01 = PySem.Challenge.rw_nz0185_01 ∧ ∀ w : World, Mine.mk.heap_1 w.params = Mine.mk.heap_1 w.params := by
  k_fill
  k_with_none
  k_with "enter" => (refine' enterK ?k1 ?k2 ?k3 ?k4 ?k5 ?kA ?kF ?kK ?k6 ?k7 ?k8 ?k9 ?kb ?kB ?_ ?c2 ?c3 ?c4 ?c5; (case kA => exact rfl); (case kF => exact rfl); (case kK => assumption); (case k1 => k_asm); (case k2 => k_asm); (case k3 => k_asm); (case k4 => k_asm); (case k5 => k_asm); (case k6 => k_is); (case k7 => k_is); (case k8 => ktr_room); (case k9 => exact BindsTo.of_eq rfl); (case kb => exact rfl); (case c5 => decide); (case kB => exact rfl); (case c2 => exact rfl); (case c3 => exact rfl); (case c4 => exact rfl); k_whole; intro g' L' h' tk' FG' F' N' B' X' T'; dsimp only [bindsOf, List.map, List.zip, List.zipWith, List.reverse, List.reverseAux] at F'; (try dsimp only); (try k_lift B'); (try k_fold))
  k_with "WlPost" => (dsimp only [WlPost])
  k_with "CutPost" => (dsimp only [CutPost])
  k_with "WlExit" => ((rename News _ _ _ _ => nE'); (refine' wl_exit (by assumption) nE' (by first | (with_reducible exact fun _ h9 => h9) | kst_in) (by kst_all) ?_))
  k_with "WlEnd" => ((rename News _ _ _ _ => nE'); first
  | (refine' wl_end ⟨⟩ (by assumption) nE' (by first | (with_reducible exact fun _ h9 => h9) | kst_in) (by kst_all) ?_)
  | (refine' wl_end ⟨_, _⟩ (by assumption) nE' (by first | (with_reducible exact fun _ h9 => h9) | kst_in) (by kst_all) ?_)
  | (refine' wl_end ⟨_, _, _⟩ (by assumption) nE' (by first | (with_reducible exact fun _ h9 => h9) | kst_in) (by kst_all) ?_)
  | (refine' wl_end ⟨_, _, _, _⟩ (by assumption) nE' (by first | (with_reducible exact fun _ h9 => h9) | kst_in) (by kst_all) ?_)
  | (refine' wl_end ⟨_, _, _, _, _⟩ (by assumption) nE' (by first | (with_reducible exact fun _ h9 => h9) | kst_in) (by kst_all) ?_)
  | (refine' wl_end ⟨_, _, _, _, _, _⟩ (by assumption) nE' (by first | (with_reducible exact fun _ h9 => h9) | kst_in) (by kst_all) ?_))
  k_with "CutEnd" => ((rename News _ _ _ _ => nE'); first
  | (refine' cut_end ⟨⟩ (by assumption) nE' (by first | (with_reducible exact fun _ h9 => h9) | kst_in) (by kst_all) ?_)
  | (refine' cut_end ⟨_, _⟩ (by assumption) nE' (by first | (with_reducible exact fun _ h9 => h9) | kst_in) (by kst_all) ?_)
  | (refine' cut_end ⟨_, _, _⟩ (by assumption) nE' (by first | (with_reducible exact fun _ h9 => h9) | kst_in) (by kst_all) ?_)
  | (refine' cut_end ⟨_, _, _, _⟩ (by assumption) nE' (by first | (with_reducible exact fun _ h9 => h9) | kst_in) (by kst_all) ?_)
  | (refine' cut_end ⟨_, _, _, _, _⟩ (by assumption) nE' (by first | (with_reducible exact fun _ h9 => h9) | kst_in) (by kst_all) ?_)
  | (refine' cut_end ⟨_, _, _, _, _, _⟩ (by assumption) nE' (by first | (with_reducible exact fun _ h9 => h9) | kst_in) (by kst_all) ?_))
  k_with "led" => (first | k_asm | (refine' kst_newsOf (by assumption) (by kst_in)))
  k_with "end" => (first | (refine' retI ?_ (hret _ _ _ (by k_asm) (by k_extra "led"))) | (refine' retS ?_ (hret _ _ _ (by k_asm) (by k_extra "led"))) | (refine' retB ?_ (hret _ _ (by k_asm) (by k_extra "led"))))
  k_with "exec While BoolOp cons nil" => refine Hold.out ?_
  k_with "exec While Compare cons nil" => refine Hold.out ?_
  k_with "exec If" => ((rename Mark => hm9); clear hm9; refine Hold.out ?_)
  k_with "sub" => (first | assumption | exact fun _ h9 => h9 | (intro p9 h9; (try dsimp only at h9); first | exact h9 | (simp only [List.mem_cons, List.mem_append, List.cons_append, List.nil_append] at h9 ⊢; first | (simp only [h9, true_or, or_true]; done) | grind)))
  k_with "FlPost" => (dsimp only [FlPost])
  k_with "FlEnd" => ((rename News _ _ _ _ => nE'); first
  | (refine' fl_end ⟨⟩ (by assumption) nE' (by k_extra "sub") (by k_extra "sub") (by kst_all) (by first | exact ⟨by assumption⟩ | skip) ?_)
  | (refine' fl_end ⟨_, _⟩ (by assumption) nE' (by k_extra "sub") (by k_extra "sub") (by kst_all) (by first | exact ⟨by assumption⟩ | skip) ?_)
  | (refine' fl_end ⟨_, _, _⟩ (by assumption) nE' (by k_extra "sub") (by k_extra "sub") (by kst_all) (by first | exact ⟨by assumption⟩ | skip) ?_)
  | (refine' fl_end ⟨_, _, _, _⟩ (by assumption) nE' (by k_extra "sub") (by k_extra "sub") (by kst_all) (by first | exact ⟨by assumption⟩ | skip) ?_))
  k_with "pyIter str" => ((with_reducible show wpAny _ _ (pyIter _) (fun it s₂ => LoopAtV _ _ _ _ _ _ _ _ _ it s₂) _ _); refine Hold.out ?_)
  k_with "pyIter ref" => ((with_reducible show wpAny _ _ (pyIter _) (fun it s₂ => LoopAtV _ _ _ _ _ _ _ _ _ it s₂) _ _); refine Hold.out ?_)
  k_with "call ref" => (k_dflt (refine' enterQ (by exact rfl) (by exact rfl) (by first | exact rfl | assumption) (by k_asm) (by k_asm) (by k_asm) (by k_asm) (by k_asm) (by k_is) (by k_is) (by ktr_room) (by exact BindsTo.of_eq rfl) (by exact rfl) (by exact rfl) (by exact rfl) (by exact rfl) (by exact rfl) (by decide) ?_); k_whole; intro g' L' h' tk' FG' F' N' B' X' T'; dsimp only [bindsOf, List.map, List.zip, List.zipWith, List.reverse, List.reverseAux] at F'; (try dsimp only); (try k_lift B'); (try k_fold))
  k_with "pre" => first | assumption | omega | exact IsV.mono (by assumption) (by k_extra "sub") | exact LimAt.mono (by assumption) (by k_extra "sub") | exact ThingAt.mono (by assumption) (by k_extra "sub") | exact RefAt.mono (by assumption) (by k_extra "sub") | k_mem | k_extra "ne9"
  k_with "ne9" => (first | assumption | (refine' List.forall_mem_cons.mpr ⟨by k_ne, ?_⟩; k_extra "ne9"))
  k_with "getAttr ref" => (k_dflt (refine' get_own (by k_asm) (by k_asm) (by k_inst) (by k_is) (by k_is) (by k_is) (by k_is) (by assumption) (by k_handed) ?_); k_whole)
  k_with "getAttr ref" => ((with_reducible show wpAny _ _ (getAttr (Value.ref _) (PySem.Str.ofString "number") _) _ _ _); k_dflt (refine' kd_num (by k_asm) (by k_asm) (by k_asm) (by k_mem) (by k_mem) (by assumption) (by assumption) (by k_handed) ?_); k_whole)
  k_with "getAttr ref" => ((with_reducible show wpAny _ _ (getAttr (Value.ref _) (PySem.Str.ofString "blessed") _) _ _ _); k_dflt (refine' kd_bl (by k_asm) (by k_asm) (by k_asm) (by k_mem) (by k_mem) (by assumption) (by assumption) (by k_handed) ?_); k_whole)
  k_with "compareOp NotEq ref str" => (k_dflt (refine' ref_ne_str (by exact Frag.In.keeps (by k_asm) (Fr.keep (by k_asm))) (by k_inst) (by first | ke_room | ktr_units) ?_); k_whole)
  k_with "compareOp NotEq ref int" => (k_dflt (refine' ref_ne_int (by exact Frag.In.keeps (by k_asm) (Fr.keep (by k_asm))) (by k_inst) (by first | ke_room | ktr_units) ?_); k_whole)
  k_with "compareOp NotIn ref ref" => (k_dflt (refine' ref_notIn (News.isList (by k_asm) (by k_mem)) (by exact Frag.In.keeps (by k_asm) (Fr.keep (by k_asm))) (by k_inst) (by first | ke_room | ktr_units) ?_); k_whole)
  k_with "call ref" => (k_dflt (refine' FnC.use (numt_fn _ _ _ _ _ _ (by k_extra "pre") (by k_extra "pre") (by k_extra "pre")) (by k_asm) (by k_asm) (by k_asm) (by k_asm) (by k_asm) (by first | exact rfl | assumption) (by ktr_room) (by ktr_units) ?_); (try dsimp only); intros; (try k_fold))
  k_with "call ref" => (k_dflt (refine' FnC.use (looks_fn _ _ _ _ (by k_extra "pre")) (by k_asm) (by k_asm) (by k_asm) (by k_asm) (by k_asm) (by first | exact rfl | assumption) (by ktr_room) (by ktr_units) ?_); (try dsimp only); intros; (try k_fold))
  k_with "call ref" => (k_dflt (refine' FnC.use (ntext_fn _ _ _ _ (by k_extra "pre")) (by k_asm) (by k_asm) (by k_asm) (by k_asm) (by k_asm) (by first | exact rfl | assumption) (by ktr_room) (by ktr_units) ?_); (try dsimp only); intros; (try k_fold))
  k_with "call ref" => (k_dflt (refine' FnC.use (lfit_fn _ _ _ _ _ _ (by k_extra "pre") (by k_extra "pre")) (by k_asm) (by k_asm) (by k_asm) (by k_asm) (by k_asm) (by first | exact rfl | assumption) (by ktr_room) (by ktr_units) ?_); (try dsimp only); intros; (try k_fold))
  k_with "call ref" => (k_dflt (refine' FnC.use (ldigits_fn _ _ _ _ (by k_extra "pre")) (by k_asm) (by k_asm) (by k_asm) (by k_asm) (by k_asm) (by first | exact rfl | assumption) (by ktr_room) (by ktr_units) ?_); (try dsimp only); intros; (try k_fold))
  k_with "call ref" => (k_dflt (refine' FnC.use (lhead_fn _ _ _ _ (by k_extra "pre")) (by k_asm) (by k_asm) (by k_asm) (by k_asm) (by k_asm) (by first | exact rfl | assumption) (by ktr_room) (by ktr_units) ?_); (try dsimp only); intros; (try k_fold))
  k_with "call ref" => (k_dflt (refine' FnC.use (lmagic_fn _ _ _ _ (by k_extra "pre")) (by k_asm) (by k_asm) (by k_asm) (by k_asm) (by k_asm) (by first | exact rfl | assumption) (by ktr_room) (by ktr_units) ?_); (try dsimp only); intros; (try k_fold))
  k_with "call ref" => (k_dflt (refine' FnC.useN (by k_asm) (lnum_fn _ _ _ _ _ _ (by k_extra "pre") (by k_extra "pre") (by k_extra "pre") (by k_extra "pre")) (by k_asm) (by k_asm) (by k_asm) (by k_asm) (by first | exact rfl | assumption) (by ktr_room) (by ktr_units) ?_); (try dsimp only); intros; (try k_fold))
  k_with "call ref" => (k_dflt (refine' FnC.useN (by k_asm) (tonum_fn _ _ _ _ _ _ (by k_extra "pre") (by k_extra "pre") (by k_extra "pre") (by k_extra "pre") (by k_extra "pre")) (by k_asm) (by k_asm) (by k_asm) (by k_asm) (by first | exact rfl | assumption) (by ktr_room) (by ktr_units) ?_); (try dsimp only); intros; (try k_fold))
  k_with "call ref" => (k_dflt (refine' FnC.useN (by k_asm) (truth_fn _ _ _ _ (by k_extra "pre") (by k_extra "pre")) (by k_asm) (by k_asm) (by k_asm) (by k_asm) (by first | exact rfl | assumption) (by ktr_room) (by ktr_units) ?_); (try dsimp only); intros; (try k_fold))
  k_with "call ref" => (k_dflt (refine' FnC.useN (by k_asm) (incr_fn _ _ _ _ _ _ (by k_extra "pre") (by k_extra "pre") (by k_extra "pre") (by k_extra "pre") (by k_extra "pre")) (by k_asm) (by k_asm) (by k_asm) (by k_asm) (by first | exact rfl | assumption) (by ktr_room) (by ktr_units) ?_); (try dsimp only); intros; (try k_fold))
  k_with "call ref" => (k_dflt (refine' FnC.useN (by k_asm) (decr_fn _ _ _ _ _ _ (by k_extra "pre") (by k_extra "pre") (by k_extra "pre") (by k_extra "pre") (by k_extra "pre")) (by k_asm) (by k_asm) (by k_asm) (by k_asm) (by first | exact rfl | assumption) (by ktr_room) (by ktr_units) ?_); (try dsimp only); intros; (try k_fold))
  k_with "call ref" => (k_dflt (refine' FnC.use (lnext_fn _ _ _ _ _ (by k_extra "pre") (by k_extra "pre") (by k_extra "pre")) (by k_asm) (by k_asm) (by k_asm) (by k_asm) (by k_asm) (by first | exact rfl | assumption) (by ktr_room) (by ktr_units) ?_); (try dsimp only); intros; (try k_fold))
  k_with "compareOp NotIn" => ((k_dflt (refine' notin_v (by k_asm) (by k_asm) (by k_asm) (News.isList (by k_asm) (by k_mem)) (by first | assumption | exact IsV.mono (by assumption) (by k_extra "sub")) (by first | ke_room | ktr_units) ?_)); k_whole)
  k_with "compareOp NotEq" => ((with_reducible show wpAny _ _ (compareOp CmpOp.NotEq (incV _ _ _) (incV _ _ _)) _ _ _); (k_dflt (refine' ne_inc ?_)); k_whole)
  k_with "call builtin:isinstance" => refine Hold.out ?_
  exact ⟨h, g⟩
theorem numOf_abs {d : Vl} {wd : Int} (h1 : 4 ≤ wd) (h2 : wd ≤ 80) (ho : d.ok) : (numOf wd d).natAbs < 2 ^ 80 := by
  cases d with
  | none => show (0 : Int).natAbs < _; decide
  | int n => exact ho
  | str x => exact fitN_abs _ h1 h2
  | ref kd nm bl => have := ho.2; show nm.natAbs < _; omega
theorem rest_len (x : Str) : (mkS (restL (lst x))).length ≤ x.length := by
  rw [len_lst, lst_mkS, len_lst x]
  unfold restL bodyL
  exact Nat.le_trans (List.dropWhile_suffix _).length_le (by rw [List.length_drop]; have := (List.dropWhile_suffix (l := lst x) isSp).length_le; omega)
theorem inc_cases (wd : Int) (d : Vl) : (∃ y, ∀ t, incV wd d t = .str y t) ∨ ∃ n, ∀ t, incV wd d t = .int n t := by
  cases d with
  | str x =>
    by_cases hm : magic (lst x) = true
    · exact .inl ⟨_, fun t => if_pos hm⟩
    · exact .inr ⟨_, fun t => if_neg hm⟩
  | none => exact .inr ⟨_, fun _ => rfl⟩
  | int n => exact .inr ⟨_, fun _ => rfl⟩
  | ref a b c => exact .inr ⟨_, fun _ => rfl⟩
theorem ne_inc {prog : Program} {w : World} {A : Around} {E : Value → Shared → Prop} {s : Shared} {d : Vl} {wd : Int} {t t1 : Tok} {Q : Value → Shared → Prop} (h : Q (.bool false) s) :
    wpAny (model prog w) A (compareOp .NotEq (incV wd d t) (incV wd d t1)) Q E s := by
  rcases inc_cases wd d with ⟨y, e⟩ | ⟨n, e⟩
  · rw [e, e]; exact PyProof.Rows.ne_str (by rw [bne_self_eq_false]; exact h)
  · rw [e, e]; exact PyProof.Rows.ne_int (by rw [bne_self_eq_false]; exact h)
theorem lright_fn (w : World) (news : Led) (v : Value) (d : Vl) (lim : Addr) (wd : Int) (tw : Tok) (hv : IsV news v d) (hl : LimAt news lim wd) (h1 : 4 ≤ wd) (h2 : wd ≤ 80) (ho : d.ok) :
    FnC w 466 210 1700 news [v, .int wd tw, .ref lim] (fun k => k (.bool true) news) := by
  unfold FnC
  intro mean mg mb dp un gd cn cs a ccd cl outer A₀ base h₀ L m s Q E B F X N T hk hd hu hret
  have hb0 := numOf_abs h1 h2 ho
  have hb : (numOf wd d).natAbs < 10 ^ 30 := Nat.lt_trans hb0 (by decide)
  have hbl := back_len hb
  have mk : Mark := ⟨⟩
  k_dflt k_extra "enter"
  k_steps
  refine ⟨?_⟩
  with_unfolding_all refine' wl_cut (σ := Tok) (fun _ => news) (fun c => [(Str.ofString "number", .int (numOf wd d) c), (Str.ofString "value", v), (Str.ofString "width", .int wd tw), (Str.ofString "limits", .ref lim)]) (fun _ => True) (by assumption) ?s1 ?s2
  case s1 =>
    k_steps
    · rename numOf wd d ≠ numOf wd d => q
      exact absurd rfl q
    · rename (truthOf d != truthOf d) = true => q
      rw [bne_self_eq_false] at q; cases q
    · (rename News _ _ _ _ => nE')
      exact cut_end _ (by assumption) nE' (by kst_in) (by kst_all) ⟨trivial⟩
  case s2 =>
    rintro t0 u2 hh2 tkk2 - F1 N1
    (try dsimp only at F1 N1)
    have mk2 : Mark := ⟨⟩
    k_steps
    refine ⟨?_⟩
    with_unfolding_all refine' wl_cut (σ := Tok) (fun _ => news) (fun c => [(Str.ofString "step", incV wd d c), (Str.ofString "number", .int (numOf wd d) t0), (Str.ofString "value", v), (Str.ofString "width", .int wd tw), (Str.ofString "limits", .ref lim)]) (fun _ => True) (by assumption) ?s3 ?s4
    case s3 =>
      k_steps
      refine ⟨?_⟩
      cases q : kindIs 1 d with
      | true =>
        k_dflt (refine' isi_b q (by k_asm) (by k_asm) (by k_asm) (by assumption) ?_)
        intro _
        obtain ⟨x, rfl⟩ := kind_str q
        have hv' := hv
        obtain ⟨tv, rfl⟩ := hv'
        have ho' : x.length ≤ 1000 := Nat.le_trans ho (by decide)
        have hr := rest_len x
        have mk3 : Mark := ⟨⟩
        k_steps
        refine ⟨?_⟩
        with_unfolding_all refine' wl_cut (σ := Tok) (fun _ => news) (fun c => [(Str.ofString "step", .int (fitN (numOf wd (.str x) + 1) wd) c), (Str.ofString "number", .int (numOf wd (.str x)) t0), (Str.ofString "value", .str x tv), (Str.ofString "width", .int wd tw), (Str.ofString "limits", .ref lim)]) (fun _ => True) (by assumption) ?s5 ?s6
        case s5 =>
          k_steps
          · rename List.isEmpty (ds (lst x)) = true => q1
            rename (_ != _) = true => q2
            rw [q1] at q2; simp at q2
          · (rename News _ _ _ _ => nE')
            exact cut_end _ (by assumption) nE' (by kst_in) (by kst_all) ⟨trivial⟩
          · rename (_ != _) = true => q2
            rename List.isEmpty (ds (lst x)) = false => q1
            rw [q1, strip_all, lst_mkS] at q2; simp at q2
          · (rename News _ _ _ _ => nE')
            exact cut_end _ (by assumption) nE' (by kst_in) (by kst_all) ⟨trivial⟩
        case s6 =>
          rintro t6 u6 hh6 tkk6 - F1 N1
          (try dsimp only at F1 N1)
          cases hm : magic (lst x) with
          | true =>
            have hc : ∀ c ∈ lst x, c < 123 := fun c h => magic_lt (magic_all hm c h)
            have hl1 : x.length = (x.length - 1) + 1 := by
              obtain ⟨c, r, e, -⟩ := magic_first hm
              rw [len_lst, e, List.length_cons]; omega
            have ho2 : x.length ≤ 200 := ho
            k_steps
            (rename News _ _ _ _ => nE')
            refine' cut_end _ (by assumption) nE' (by kst_in) ?hk1 ⟨trivial⟩
            case hk1 =>
              simp only [incV, if_pos hm]
              kst_all
          | false =>
            k_steps
            (rename News _ _ _ _ => nE')
            refine' cut_end _ (by assumption) nE' (by kst_in) ?hk2 ⟨trivial⟩
            case hk2 =>
              simp only [incV, if_neg (show ¬ magic (lst x) = true by rw [hm]; decide)]
              kst_all
      | false =>
        k_dflt (refine' isi_b q (by k_asm) (by k_asm) (by k_asm) (by assumption) ?_)
        intro _
        k_steps
        (rename News _ _ _ _ => nE')
        refine' cut_end _ (by assumption) nE' (by kst_in) ?hk ⟨trivial⟩
        case hk =>
          simp only [inc_no q]
          kst_all
    case s4 =>
      rintro t1 u4 hh4 tkk4 - F1 N1
      (try dsimp only at F1 N1)
      have hnl := numText_len hb
      k_steps
      · rename fitN (numOf wd d - 1) wd ≠ fitN (numOf wd d - 1) wd => q
        exact absurd rfl q
      · exact retB ⟨by rw [num_back]; exact beq_self_eq_true _⟩ (hret _ _ (by k_asm) (by k_extra "led"))
      · rename (_ == _) = false => q
        rw [beq_self_eq_true] at q; cases q

end Mine
end
section
namespace Mine
noncomputable def Itm (led : Led) (y : Value) : Prop := ∃ tup d v t, y = .ref tup ∧ (tup, pairObj v (textOf d) t) ∈ led ∧ IsV led v d ∧ d.ok
theorem Itm.mono {led led' : Led} {y : Value} (h : Itm led y) (s : ∀ p ∈ led, p ∈ led') : Itm led' y := by
  obtain ⟨a, b, c, d, e, f, g, i⟩ := h
  exact ⟨a, b, c, d, e, s _ f, g.mono s, i⟩
structure CS where
  ex : Led
  eh : List DictEntry
  nh : Nat
  n : Int
noncomputable def ldC (dH : Addr) (base : Led) (c : CS) : Led := (dH, dictOf c.eh c.nh) :: (c.ex ++ base)
structure CInv (dH : Addr) (b : Int) (ys : List Value) (c : CS) : Prop where
  hp : HpE c.eh c.n
  lo : 0 ≤ c.n
  hi : c.n ≤ b
  ne : ∀ p ∈ c.ex, p.1 ≠ dH
  it : ∀ y ∈ ys, Itm c.ex y
noncomputable def CI (dH : Addr) (i : Nat) (ys : List Value) (c : CS) : Prop := ys.length = i ∧ CInv dH (5 * i) ys c
theorem comp_end {h₀ h' : Heap} {L J C D dH tup : Addr} {m : Str → Option Value} {s₁ : Shared} {oI oC : Obj} {ys : List Value} {S : Led → Prop} {i : Nat} {tk : Nat} {base ex1 news : Led} {c : CS} {eh' : List DictEntry} {nh' : Nat} {n1 : Int} {d : Vl} {v : Value} {t : Tok}
    (F : Fr h₀ L h' m) (N : News h₀ L h' ((dH, dictOf eh' nh') :: (ex1 ++ news))) (hJ : (J, oI) ∈ news) (hC : (C, oC) ∈ news) (hD : (D, LCg.lst ys) ∈ news) (hx : ∀ p ∈ c.ex ++ base, p ∈ news) (off : LCg.Off3 J C D (ldC dH base c)) (hI : CI dH i ys c)
    (hv : IsV ex1 v d) (ho : d.ok) (g1 : c.n ≤ n1) (g2 : n1 ≤ c.n + 5) (hE : HpE eh' n1) (hne : ∀ p ∈ ex1, p.1 ≠ dH) (hfr : ∀ p ∈ ex1, ∀ q ∈ news, @LT.lt Nat _ q.1 p.1) (ht : (tup, pairObj v (textOf d) t) ∈ ex1) (hS : S (ldC dH base ⟨ex1 ++ c.ex, eh', nh', n1⟩)) :
    LCg.CompEnd h₀ L m s₁ J oI C oC D (LCg.lst ys) S (fun y news' => ∃ c', news' = ldC dH base c' ∧ CI dH (i + 1) (ys ++ [y]) c') (.ref tup) { s₁ with heap := h', toks := tk } := by
  have o := off.mem
  refine LCg.CompEnd.intro F N (ldC dH base ⟨ex1 ++ c.ex, eh', nh', n1⟩) ?_ (LCg.Off3.of ?_) hS ⟨_, rfl, ?_, ?_⟩
  · intro p hp
    rcases List.mem_cons.mp hp with rfl | hp
    · exact .tail _ (List.mem_append_right _ hJ)
    rcases List.mem_cons.mp hp with rfl | hp
    · exact .tail _ (List.mem_append_right _ hC)
    rcases List.mem_cons.mp hp with rfl | hp
    · exact .tail _ (List.mem_append_right _ hD)
    rcases List.mem_cons.mp hp with rfl | hp
    · exact .head _
    rcases List.mem_append.mp hp with hp | hp
    · rcases List.mem_append.mp hp with hp | hp
      · exact .tail _ (List.mem_append_left _ hp)
      · exact .tail _ (List.mem_append_right _ (hx _ (List.mem_append_left _ hp)))
    · exact .tail _ (List.mem_append_right _ (hx _ (List.mem_append_right _ hp)))
  · intro p hp
    rcases List.mem_cons.mp hp with rfl | hp
    · exact o (dH, dictOf c.eh c.nh) (.head _)
    rcases List.mem_append.mp hp with hp | hp
    · rcases List.mem_append.mp hp with hp | hp
      · exact ⟨Nat.ne_of_gt (hfr p hp _ hJ), Nat.ne_of_gt (hfr p hp _ hC), Nat.ne_of_gt (hfr p hp _ hD)⟩
      · exact o _ (.tail _ (List.mem_append_left _ hp))
    · exact o _ (.tail _ (List.mem_append_right _ hp))
  · rw [List.length_append, hI.1]; rfl
  · obtain ⟨-, q⟩ := hI
    refine ⟨hE, ?_, ?_, ?_, ?_⟩
    · have := q.lo; show 0 ≤ n1; omega
    · have := q.hi; show n1 ≤ _; omega
    · intro p hp
      exact (List.mem_append.mp hp).elim (hne p) (q.ne p)
    · intro y hy
      rcases List.mem_append.mp hy with hy | hy
      · exact (q.it y hy).mono fun p hp => List.mem_append_right _ hp
      · rw [List.mem_singleton.mp hy]
        exact ⟨tup, d, v, t, rfl, List.mem_append_left _ ht, hv.mono fun p hp => List.mem_append_left _ hp, ho⟩
theorem ldC_sub {dH : Addr} {b b' : Led} {c : CS} (h : ∀ p ∈ b, p ∈ b') : ∀ p ∈ ldC dH b c, p ∈ ldC dH b' c := fun p hp => by
  rcases List.mem_cons.mp hp with rfl | hp
  · exact .head _
  · exact .tail _ ((List.mem_append.mp hp).elim (fun q => List.mem_append_left _ q) fun q => List.mem_append_right _ (h p q))
theorem lst_at {prog : Program} {w : World} {A : Around} {E : Value → Shared → Prop} {s : Shared} {h₀ : Heap} {L l : Addr} {news : Led} {value slice : Expr} {vs : List Value} {k : Int} {n : Nat} {u : Tok} {v : Value} {Q : Value → Shared → Prop}
    (N : News h₀ L s.heap news) (hm : (l, ({ cls := .type "list", data := .seq vs.toArray n } : Obj)) ∈ news) (h0 : 0 ≤ k) (hhi : k < 2 ^ 63) (hx : vs[k.toNat]? = some v) (h : Q v s)
    (hs : subscripted slice false (.ref l) (.int k u) = operate [.ref l, .int k u] (getItem (.ref l) (.int k u)) := by with_unfolding_all rfl) :
    wpAny (model prog w) A (subscriptTail value slice (.ref l) (.int k u)) Q E s :=
  have hl := News.isList N hm
  tail_any hl.typeIs slot_list_getitem.lookup (wpAny_getItem_list hl h0 hhi (by simpa using hx) h) hs
noncomputable def prevI (n i : Nat) : Nat := if i = 0 then n - 1 else i - 1
theorem lst_prev {prog : Program} {w : World} {A : Around} {E : Value → Shared → Prop} {s : Shared} {h₀ : Heap} {L l : Addr} {news : Led} {value slice : Expr} {vs : List Value} {i n : Nat} {u : Tok} {v : Value} {Q : Value → Shared → Prop}
    (N : News h₀ L s.heap news) (hm : (l, ({ cls := .type "list", data := .seq vs.toArray n } : Obj)) ∈ news) (hi : i < vs.length) (hhi : i < 2 ^ 60) (hx : vs[prevI vs.length i]? = some v) (h : Q v s)
    (hs : ∀ k, subscripted slice false (.ref l) (.int k u) = operate [.ref l, .int k u] (getItem (.ref l) (.int k u)) := by intro _; with_unfolding_all rfl) :
    wpAny (model prog w) A (subscriptTail value slice (.ref l) (.int ((i : Int) - 1) u)) Q E s := by
  have hl := News.isList N hm
  unfold prevI at hx
  by_cases e : i = 0
  · subst e
    rw [if_pos rfl] at hx
    refine tail_any hl.typeIs slot_list_getitem.lookup (wpAny_getItem_list_neg hl (by decide) (by rw [List.size_toArray]; omega) (by decide) ?_ h) (hs _)
    rw [List.size_toArray, List.getElem?_toArray, ← hx]
    congr 1; omega
  · rw [if_neg e] at hx
    refine tail_any hl.typeIs slot_list_getitem.lookup (wpAny_getItem_list hl (by omega) (by omega) ?_ h) (hs _)
    rw [List.getElem?_toArray, ← hx]
    congr 1; omega
theorem loop_led {h₀ h : Heap} {L V dH H l dl cH cW : Addr} {el : List DictEntry} {nl cap : Nat} {ys : List Value} {c : CS} {wd : Int} {tw : Tok} {oH oW oI : Obj}
    (N : News h₀ L h ((V, W.listOf ys.toArray cap) :: ldC dH [(H, oI), (l, instObj 387 dl), (dl, dictOf el nl), (cH, oH), (cW, oW)] c)) (I : CInv dH 35 ys c) (hv : @Ne Nat V dH) (g : getL (Str.ofString "width") el = some (some (.int wd tw)))
    (e1 : @Ne Nat H dH) (e2 : @Ne Nat l dH) (e3 : @Ne Nat dl dH) (e4 : @Ne Nat cH dH) (e5 : @Ne Nat cW dH) :
    ∃ led0 : Led, LimAt led0 l wd ∧ (∀ p ∈ (cH, oH) :: (cW, oW) :: (H, oI) :: (V, W.listOf ys.toArray cap) :: led0, p.1 ≠ dH) ∧ (∀ y ∈ ys, Itm led0 y) ∧ News h₀ L h ((dH, dictOf c.eh c.nh) :: (cH, oH) :: (cW, oW) :: (H, oI) :: (V, W.listOf ys.toArray cap) :: led0) := by
  refine ⟨c.ex ++ [(l, instObj 387 dl), (dl, dictOf el nl)], ⟨dl, el, nl, tw, List.mem_append_right _ (.head _), List.mem_append_right _ (.tail _ (.head _)), g⟩, ?_, fun y hy => (I.it y hy).mono fun p hp => List.mem_append_left _ hp, kst_newsOf N ?_⟩
  · intro p hp
    simp only [List.mem_cons, List.mem_append, List.not_mem_nil, or_false] at hp
    rcases hp with rfl | rfl | rfl | rfl | hp | rfl | rfl
    · exact e4
    · exact e5
    · exact e1
    · exact hv
    · exact I.ne p hp
    · exact e2
    · exact e3
  · intro p hp
    simp only [ldC, List.mem_cons, List.mem_append, List.not_mem_nil, or_false] at hp ⊢
    grind
theorem Itm.at {led : Led} {ys : List Value} (h : ∀ y ∈ ys, Itm led y) {i : Nat} (hi : i < ys.length) : ∃ tup d v t, ys[i]? = some (.ref tup) ∧ (tup, pairObj v (textOf d) t) ∈ led ∧ IsV led v d ∧ d.ok := by
  obtain ⟨tup, d, v, t, e, r⟩ := h ys[i] (List.getElem_mem hi)
  exact ⟨tup, d, v, t, by rw [List.getElem?_eq_getElem hi, e], r⟩
theorem same_self (d : Vl) : sameV d d = true := by cases d <;> simp [sameV]
end Mine
end
section
namespace Mine
theorem reg_O12 (h : PySem.Challenge.rw_nz0185_01 = PySem.Challenge.rw_nz0185_01) (g : ∀ w : World, Mine.mk.heap_1 w.params = Mine.mk.heap_1 w.params) : PySem.Challenge.rw_nz0185_01 = PySem.Challenge.rw_nz0185_01 ∧ ∀ w : World, Mine.mk.heap_1 w.params = Mine.mk.heap_1 w.params := by
  k_fill
  k_with_none
  k_with "enter" => (refine' enterK ?k1 ?k2 ?k3 ?k4 ?k5 ?kA ?kF ?kK ?k6 ?k7 ?k8 ?k9 ?kb ?kB ?_ ?c2 ?c3 ?c4 ?c5; (case kA => exact rfl); (case kF => exact rfl); (case kK => assumption); (case k1 => k_asm); (case k2 => k_asm); (case k3 => k_asm); (case k4 => k_asm); (case k5 => k_asm); (case k6 => k_is); (case k7 => k_is); (case k8 => ktr_room); (case k9 => exact BindsTo.of_eq rfl); (case kb => exact rfl); (case c5 => decide); (case kB => exact rfl); (case c2 => exact rfl); (case c3 => exact rfl); (case c4 => exact rfl); k_whole; intro g' L' h' tk' FG' F' N' B' X' T'; dsimp only [bindsOf, List.map, List.zip, List.zipWith, List.reverse, List.reverseAux] at F'; (try dsimp only); (try k_lift B'); (try k_fold))
  k_with "WlPost" => (dsimp only [WlPost])
  k_with "CutPost" => (dsimp only [CutPost])
  k_with "WlExit" => ((rename News _ _ _ _ => nE'); (refine' wl_exit (by assumption) nE' (by first | (with_reducible exact fun _ h9 => h9) | kst_in) (by kst_all) ?_))
  k_with "WlEnd" => ((rename News _ _ _ _ => nE'); first
  | (refine' wl_end ⟨⟩ (by assumption) nE' (by first | (with_reducible exact fun _ h9 => h9) | kst_in) (by kst_all) ?_)
  | (refine' wl_end ⟨_, _⟩ (by assumption) nE' (by first | (with_reducible exact fun _ h9 => h9) | kst_in) (by kst_all) ?_)
  | (refine' wl_end ⟨_, _, _⟩ (by assumption) nE' (by first | (with_reducible exact fun _ h9 => h9) | kst_in) (by kst_all) ?_)
  | (refine' wl_end ⟨_, _, _, _⟩ (by assumption) nE' (by first | (with_reducible exact fun _ h9 => h9) | kst_in) (by kst_all) ?_)
  | (refine' wl_end ⟨_, _, _, _, _⟩ (by assumption) nE' (by first | (with_reducible exact fun _ h9 => h9) | kst_in) (by kst_all) ?_)
  | (refine' wl_end ⟨_, _, _, _, _, _⟩ (by assumption) nE' (by first | (with_reducible exact fun _ h9 => h9) | kst_in) (by kst_all) ?_))
  k_with "CutEnd" => ((rename News _ _ _ _ => nE'); first
  | (refine' cut_end ⟨⟩ (by assumption) nE' (by first | (with_reducible exact fun _ h9 => h9) | kst_in) (by kst_all) ?_)
  | (refine' cut_end ⟨_, _⟩ (by assumption) nE' (by first | (with_reducible exact fun _ h9 => h9) | kst_in) (by kst_all) ?_)
  | (refine' cut_end ⟨_, _, _⟩ (by assumption) nE' (by first | (with_reducible exact fun _ h9 => h9) | kst_in) (by kst_all) ?_)
  | (refine' cut_end ⟨_, _, _, _⟩ (by assumption) nE' (by first | (with_reducible exact fun _ h9 => h9) | kst_in) (by kst_all) ?_)
  | (refine' cut_end ⟨_, _, _, _, _⟩ (by assumption) nE' (by first | (with_reducible exact fun _ h9 => h9) | kst_in) (by kst_all) ?_)
  | (refine' cut_end ⟨_, _, _, _, _, _⟩ (by assumption) nE' (by first | (with_reducible exact fun _ h9 => h9) | kst_in) (by kst_all) ?_))
  k_with "led" => (first | k_asm | (refine' kst_newsOf (by assumption) (by kst_in)))
  k_with "end" => (first | (refine' retI ?_ (hret _ _ _ (by k_asm) (by k_extra "led"))) | (refine' retS ?_ (hret _ _ _ (by k_asm) (by k_extra "led"))) | (refine' retB ?_ (hret _ _ (by k_asm) (by k_extra "led"))))
  k_with "exec While BoolOp cons nil" => refine Hold.out ?_
  k_with "exec While Compare cons nil" => refine Hold.out ?_
  k_with "exec If" => ((rename Mark => hm9); clear hm9; refine Hold.out ?_)
  k_with "sub" => (first | assumption | exact fun _ h9 => h9 | (intro p9 h9; (try dsimp only at h9); first | exact h9 | (simp only [List.mem_cons, List.mem_append, List.cons_append, List.nil_append] at h9 ⊢; first | (simp only [h9, true_or, or_true]; done) | grind)))
  k_with "FlPost" => (dsimp only [FlPost])
  k_with "FlEnd" => ((rename News _ _ _ _ => nE'); first
  | (refine' fl_end ⟨⟩ (by assumption) nE' (by k_extra "sub") (by k_extra "sub") (by kst_all) (by first | exact ⟨by assumption⟩ | skip) ?_)
  | (refine' fl_end ⟨_, _⟩ (by assumption) nE' (by k_extra "sub") (by k_extra "sub") (by kst_all) (by first | exact ⟨by assumption⟩ | skip) ?_)
  | (refine' fl_end ⟨_, _, _⟩ (by assumption) nE' (by k_extra "sub") (by k_extra "sub") (by kst_all) (by first | exact ⟨by assumption⟩ | skip) ?_)
  | (refine' fl_end ⟨_, _, _, _⟩ (by assumption) nE' (by k_extra "sub") (by k_extra "sub") (by kst_all) (by first | exact ⟨by assumption⟩ | skip) ?_))
  k_with "pyIter str" => ((with_reducible show wpAny _ _ (pyIter _) (fun it s₂ => LoopAtV _ _ _ _ _ _ _ _ _ it s₂) _ _); refine Hold.out ?_)
  k_with "pyIter ref" => ((with_reducible show wpAny _ _ (pyIter _) (fun it s₂ => LoopAtV _ _ _ _ _ _ _ _ _ it s₂) _ _); refine Hold.out ?_)
  k_with "call ref" => (k_dflt (refine' enterQ (by exact rfl) (by exact rfl) (by first | exact rfl | assumption) (by k_asm) (by k_asm) (by k_asm) (by k_asm) (by k_asm) (by k_is) (by k_is) (by ktr_room) (by exact BindsTo.of_eq rfl) (by exact rfl) (by exact rfl) (by exact rfl) (by exact rfl) (by exact rfl) (by decide) ?_); k_whole; intro g' L' h' tk' FG' F' N' B' X' T'; dsimp only [bindsOf, List.map, List.zip, List.zipWith, List.reverse, List.reverseAux] at F'; (try dsimp only); (try k_lift B'); (try k_fold))
  k_with "pre" => first | assumption | omega | exact IsV.mono (by assumption) (by k_extra "sub") | exact LimAt.mono (by assumption) (by k_extra "sub") | exact ThingAt.mono (by assumption) (by k_extra "sub") | exact RefAt.mono (by assumption) (by k_extra "sub")
  k_with "getAttr ref" => (k_dflt (refine' get_own (by k_asm) (by k_asm) (by k_inst) (by k_is) (by k_is) (by k_is) (by k_is) (by assumption) (by k_handed) ?_); k_whole)
  k_with "getAttr ref" => ((with_reducible show wpAny _ _ (getAttr (Value.ref _) (PySem.Str.ofString "number") _) _ _ _); k_dflt (refine' kd_num (by k_asm) (by k_asm) (by k_asm) (by k_mem) (by k_mem) (by assumption) (by assumption) (by k_handed) ?_); k_whole)
  k_with "getAttr ref" => ((with_reducible show wpAny _ _ (getAttr (Value.ref _) (PySem.Str.ofString "blessed") _) _ _ _); k_dflt (refine' kd_bl (by k_asm) (by k_asm) (by k_asm) (by k_mem) (by k_mem) (by assumption) (by assumption) (by k_handed) ?_); k_whole)
  k_with "compareOp NotEq ref str" => (k_dflt (refine' ref_ne_str (by exact Frag.In.keeps (by k_asm) (Fr.keep (by k_asm))) (by k_inst) (by first | ke_room | ktr_units) ?_); k_whole)
  k_with "compareOp NotEq ref int" => (k_dflt (refine' ref_ne_int (by exact Frag.In.keeps (by k_asm) (Fr.keep (by k_asm))) (by k_inst) (by first | ke_room | ktr_units) ?_); k_whole)
  k_with "compareOp NotIn ref ref" => (k_dflt (refine' ref_notIn (News.isList (by k_asm) (by k_mem)) (by exact Frag.In.keeps (by k_asm) (Fr.keep (by k_asm))) (by k_inst) (by first | ke_room | ktr_units) ?_); k_whole)
  k_with "call ref" => (k_dflt (refine' call_cls (by k_asm) (by k_asm) (by k_asm) (by k_is) (by k_is) (by k_is) ?_); k_whole; intro x' d' h' F' N' l1 l2; (try k_lt l1); (try k_lt2 l2); (try k_sweep); refine' enterI (by exact rfl) (by exact rfl) (by first | exact rfl | assumption) (by k_asm) (by k_asm) (by k_asm) (by k_asm) (by k_asm) (by k_is) (by k_is) (by ktr_room) (by first | exact BindsTo.of_eq rfl | exact binds_K (by k_in) rfl (by k_is) rfl rfl rfl) (by exact rfl) (by exact rfl) (by exact rfl) (by exact rfl) (by exact rfl) (by decide) ?_; k_whole; intro g' L' h' tk' FG' F' N' B' X' T'; (try dsimp only); (try k_lift B'); (try k_fold))
  k_with "setAttr ref" => (k_dflt (refine' set_abs (by k_asm) (by k_asm) (by k_asm) (by k_inst) (by exact rfl) (by k_is) (by k_is) (by k_is) (by k_is) (by assumption) (by assumption) (fun es' n' => by k_upd) ?_); k_whole; intro h' es' n' z' g1 g2 F' N'; (try dsimp only at g1); (try k_sweep))
  k_with "getMethod ref" => (k_dflt (refine' method_inst (by k_asm) (by k_asm) (by k_inst) (by k_is) (by k_is) (by k_is) (by assumption) ?_); k_whole)
  exact ⟨h, g⟩
theorem mklim_fn (w : World) (news : Led) (wd : Int) (tw : Tok) :
    FnC w 387 3 24 news [.int wd tw] (fun k => ∀ l dl el nl, getL (Str.ofString "width") el = some (some (.int wd tw)) → (∀ p ∈ news, p.1 < dl) → @LT.lt Nat _ dl l → k (.ref l) ((l, instObj 387 dl) :: (dl, dictOf el nl) :: news)) := by
  unfold FnC
  intro mean mg mb dp un gd cn cs a ccd cl outer A₀ base h₀ L m s Q E B F X N T hk hd hu hret
  k_steps
  refine' hret _ _ _ _ ?a ?b ?c _ _ ?d ?e
  case e => k_asm
  case d => k_asm
  case b => assumption
  case c => assumption
  case a => exact rfl
theorem mkheap_fn (w : World) (news : Led) (lim : Addr) :
    FnC w 267 3 24 news [.ref lim] (fun k => ∀ H dH eh nh, HpE eh 0 → (∀ p ∈ news, p.1 < dH) → @LT.lt Nat _ dH H → k (.ref H) ((dH, dictOf eh nh) :: (H, instObj 267 dH) :: news)) := by
  unfold FnC
  intro mean mg mb dp un gd cn cs a ccd cl outer A₀ base h₀ L m s Q E B F X N T hk hd hu hret
  k_steps
  refine' hret _ _ _ _ ⟨⟨_, ?a⟩, ?b, ?f, ?g, ?h, ?i⟩ (by assumption) (by assumption) _ _ (by k_asm) ?e
  case e => k_extra "led"
  case b => exact Nat.le_of_ble_eq_true rfl
  case a => exact rfl
  case f => exact rfl
  case g => exact rfl
  case h => exact rfl
  case i => exact rfl

end Mine
end
section
namespace Mine
theorem reg_O9 (h : PySem.Challenge.rw_nz0185_01 = PySem.Challenge.rw_nz0185_01) (g : ∀ w : World, Mine.mk.heap_1 w.params = Mine.mk.heap_1 w.params) : PySem.Challenge.rw_nz0185_01 = PySem.Challenge.rw_nz0185_01 ∧ ∀ w : World, Mine.mk.heap_1 w.params = Mine.mk.heap_1 w.params := by
  k_fill
  k_with_none
  k_with "enter" => (refine' enterK ?k1 ?k2 ?k3 ?k4 ?k5 ?kA ?kF ?kK ?k6 ?k7 ?k8 ?k9 ?kb ?kB ?_ ?c2 ?c3 ?c4 ?c5; (case kA => exact rfl); (case kF => exact rfl); (case kK => assumption); (case k1 => k_asm); (case k2 => k_asm); (case k3 => k_asm); (case k4 => k_asm); (case k5 => k_asm); (case k6 => k_is); (case k7 => k_is); (case k8 => ktr_room); (case k9 => exact BindsTo.of_eq rfl); (case kb => exact rfl); (case c5 => decide); (case kB => exact rfl); (case c2 => exact rfl); (case c3 => exact rfl); (case c4 => exact rfl); k_whole; intro g' L' h' tk' FG' F' N' B' X' T'; dsimp only [bindsOf, List.map, List.zip, List.zipWith, List.reverse, List.reverseAux] at F'; (try dsimp only); (try k_lift B'); (try k_fold))
  k_with "WlPost" => (dsimp only [WlPost])
  k_with "CutPost" => (dsimp only [CutPost])
  k_with "WlExit" => ((rename News _ _ _ _ => nE'); (refine' wl_exit (by assumption) nE' (by first | (with_reducible exact fun _ h9 => h9) | kst_in) (by kst_all) ?_))
  k_with "WlEnd" => ((rename News _ _ _ _ => nE'); first
  | (refine' wl_end ⟨⟩ (by assumption) nE' (by first | (with_reducible exact fun _ h9 => h9) | kst_in) (by kst_all) ?_)
  | (refine' wl_end ⟨_, _⟩ (by assumption) nE' (by first | (with_reducible exact fun _ h9 => h9) | kst_in) (by kst_all) ?_)
  | (refine' wl_end ⟨_, _, _⟩ (by assumption) nE' (by first | (with_reducible exact fun _ h9 => h9) | kst_in) (by kst_all) ?_)
  | (refine' wl_end ⟨_, _, _, _⟩ (by assumption) nE' (by first | (with_reducible exact fun _ h9 => h9) | kst_in) (by kst_all) ?_)
  | (refine' wl_end ⟨_, _, _, _, _⟩ (by assumption) nE' (by first | (with_reducible exact fun _ h9 => h9) | kst_in) (by kst_all) ?_)
  | (refine' wl_end ⟨_, _, _, _, _, _⟩ (by assumption) nE' (by first | (with_reducible exact fun _ h9 => h9) | kst_in) (by kst_all) ?_))
  k_with "CutEnd" => ((rename News _ _ _ _ => nE'); first
  | (refine' cut_end ⟨⟩ (by assumption) nE' (by first | (with_reducible exact fun _ h9 => h9) | kst_in) (by kst_all) ?_)
  | (refine' cut_end ⟨_, _⟩ (by assumption) nE' (by first | (with_reducible exact fun _ h9 => h9) | kst_in) (by kst_all) ?_)
  | (refine' cut_end ⟨_, _, _⟩ (by assumption) nE' (by first | (with_reducible exact fun _ h9 => h9) | kst_in) (by kst_all) ?_)
  | (refine' cut_end ⟨_, _, _, _⟩ (by assumption) nE' (by first | (with_reducible exact fun _ h9 => h9) | kst_in) (by kst_all) ?_)
  | (refine' cut_end ⟨_, _, _, _, _⟩ (by assumption) nE' (by first | (with_reducible exact fun _ h9 => h9) | kst_in) (by kst_all) ?_)
  | (refine' cut_end ⟨_, _, _, _, _, _⟩ (by assumption) nE' (by first | (with_reducible exact fun _ h9 => h9) | kst_in) (by kst_all) ?_))
  k_with "led" => (first | k_asm | (refine' kst_newsOf (by assumption) (by kst_in)))
  k_with "end" => (first | (refine' retI ?_ (hret _ _ _ (by k_asm) (by k_extra "led"))) | (refine' retS ?_ (hret _ _ _ (by k_asm) (by k_extra "led"))) | (refine' retB ?_ (hret _ _ (by k_asm) (by k_extra "led"))))
  k_with "exec While BoolOp cons nil" => refine Hold.out ?_
  k_with "exec While Compare cons nil" => refine Hold.out ?_
  k_with "exec If" => ((rename Mark => hm9); clear hm9; refine Hold.out ?_)
  k_with "sub" => (first | assumption | exact fun _ h9 => h9 | (intro p9 h9; (try dsimp only at h9); first | exact h9 | (simp only [List.mem_cons, List.mem_append, List.cons_append, List.nil_append] at h9 ⊢; first | (simp only [h9, true_or, or_true]; done) | grind)))
  k_with "FlPost" => (dsimp only [FlPost])
  k_with "FlEnd" => ((rename News _ _ _ _ => nE'); first
  | (refine' fl_end ⟨⟩ (by assumption) nE' (by k_extra "sub") (by k_extra "sub") (by kst_all) (by first | exact ⟨by assumption⟩ | skip) ?_)
  | (refine' fl_end ⟨_, _⟩ (by assumption) nE' (by k_extra "sub") (by k_extra "sub") (by kst_all) (by first | exact ⟨by assumption⟩ | skip) ?_)
  | (refine' fl_end ⟨_, _, _⟩ (by assumption) nE' (by k_extra "sub") (by k_extra "sub") (by kst_all) (by first | exact ⟨by assumption⟩ | skip) ?_)
  | (refine' fl_end ⟨_, _, _, _⟩ (by assumption) nE' (by k_extra "sub") (by k_extra "sub") (by kst_all) (by first | exact ⟨by assumption⟩ | skip) ?_))
  k_with "pyIter str" => ((with_reducible show wpAny _ _ (pyIter _) (fun it s₂ => LoopAtV _ _ _ _ _ _ _ _ _ it s₂) _ _); refine Hold.out ?_)
  k_with "pyIter ref" => ((with_reducible show wpAny _ _ (pyIter _) (fun it s₂ => LoopAtV _ _ _ _ _ _ _ _ _ it s₂) _ _); refine Hold.out ?_)
  k_with "call ref" => (k_dflt (refine' enterQ (by exact rfl) (by exact rfl) (by first | exact rfl | assumption) (by k_asm) (by k_asm) (by k_asm) (by k_asm) (by k_asm) (by k_is) (by k_is) (by ktr_room) (by exact BindsTo.of_eq rfl) (by exact rfl) (by exact rfl) (by exact rfl) (by exact rfl) (by exact rfl) (by decide) ?_); k_whole; intro g' L' h' tk' FG' F' N' B' X' T'; dsimp only [bindsOf, List.map, List.zip, List.zipWith, List.reverse, List.reverseAux] at F'; (try dsimp only); (try k_lift B'); (try k_fold))
  k_with "pre" => first | assumption | omega | exact IsV.mono (by assumption) (by k_extra "sub") | exact LimAt.mono (by assumption) (by k_extra "sub") | exact ThingAt.mono (by assumption) (by k_extra "sub") | exact RefAt.mono (by assumption) (by k_extra "sub") | k_mem | k_extra "ne9"
  k_with "ne9" => (first | assumption | (refine' List.forall_mem_cons.mpr ⟨by k_ne, ?_⟩; k_extra "ne9"))
  k_with "getAttr ref" => (k_dflt (refine' get_own (by k_asm) (by k_asm) (by k_inst) (by k_is) (by k_is) (by k_is) (by k_is) (by assumption) (by k_handed) ?_); k_whole)
  k_with "getAttr ref" => ((with_reducible show wpAny _ _ (getAttr (Value.ref _) (PySem.Str.ofString "number") _) _ _ _); k_dflt (refine' kd_num (by k_asm) (by k_asm) (by k_asm) (by k_mem) (by k_mem) (by assumption) (by assumption) (by k_handed) ?_); k_whole)
  k_with "getAttr ref" => ((with_reducible show wpAny _ _ (getAttr (Value.ref _) (PySem.Str.ofString "blessed") _) _ _ _); k_dflt (refine' kd_bl (by k_asm) (by k_asm) (by k_asm) (by k_mem) (by k_mem) (by assumption) (by assumption) (by k_handed) ?_); k_whole)
  k_with "compareOp NotEq ref str" => (k_dflt (refine' ref_ne_str (by exact Frag.In.keeps (by k_asm) (Fr.keep (by k_asm))) (by k_inst) (by first | ke_room | ktr_units) ?_); k_whole)
  k_with "compareOp NotEq ref int" => (k_dflt (refine' ref_ne_int (by exact Frag.In.keeps (by k_asm) (Fr.keep (by k_asm))) (by k_inst) (by first | ke_room | ktr_units) ?_); k_whole)
  k_with "compareOp NotIn ref ref" => (k_dflt (refine' ref_notIn (News.isList (by k_asm) (by k_mem)) (by exact Frag.In.keeps (by k_asm) (Fr.keep (by k_asm))) (by k_inst) (by first | ke_room | ktr_units) ?_); k_whole)
  k_with "call builtin:isinstance" => (k_dflt (first | (refine' isi_v (by k_asm) (by k_asm) (by k_asm) (by first | assumption | exact IsV.mono (by assumption) (by k_extra "sub")) (i := 2) (by decide) (by exact rfl) ?_) | (refine' isi_v (by k_asm) (by k_asm) (by k_asm) (by first | assumption | exact IsV.mono (by assumption) (by k_extra "sub")) (i := 0) (by decide) (by exact rfl) ?_)); k_whole; intro _)
  exact ⟨h, g⟩
theorem same_no2 {d1 d2 : Vl} (h : (kindIs 2 d1 && kindIs 2 d2) = false) (k : kindIs 2 d1 = true ∨ kindIs 2 d2 = true ∨ (kindIs 0 d1 != kindIs 0 d2) = true) : false = sameV d1 d2 := by
  cases d1 <;> cases d2 <;> first | rfl | (exfalso; revert h k; simp [kindIs])
theorem veq_fn (w : World) (news : Led) (v1 v2 : Value) (d1 d2 : Vl) (hv1 : IsV news v1 d1) (hv2 : IsV news v2 d2) (ho1 : d1.ok) (ho2 : d2.ok) :
    FnC w 369 1 8 news [v1, v2] (fun k => k (.bool (sameV d1 d2)) news) := by
  unfold FnC
  intro mean mg mb dp un gd cn cs a ccd cl outer A₀ base h₀ L m s Q E B F X N T hk hd hu hret
  have mk : Mark := ⟨⟩
  k_dflt k_extra "enter"
  k_steps
  refine ⟨?_⟩
  with_unfolding_all refine' wl_cut (σ := Unit) (fun _ => news) (fun _ => [(Str.ofString "x", v1), (Str.ofString "y", v2)]) (fun _ => (kindIs 2 d1 && kindIs 2 d2) = false) (by assumption) ?s1 ?s2
  case s1 =>
    k_steps
    · rename kindIs 2 d1 = true => q1
      rename kindIs 2 d2 = true => q2
      obtain ⟨kd1, nm1, bl1, rfl⟩ := kind_ref q1
      obtain ⟨kd2, nm2, bl2, rfl⟩ := kind_ref q2
      obtain ⟨r1, th1, rfl, dr1, er1, nr1, ra1, rb1, rc1, dth1, et1, nt1, tn1, rd1, re1, rf1, rg1⟩ := hv1
      obtain ⟨r2, th2, rfl, dr2, er2, nr2, ra2, rb2, rc2, dth2, et2, nt2, tn2, rd2, re2, rf2, rg2⟩ := hv2
      obtain ⟨hkd1, -⟩ := ho1
      obtain ⟨hkd2, -⟩ := ho2
      (rename News _ _ _ _ => nE')
      replace nE' := news4 (news4 nE' ra2 rb2 rd2 re2) (.tail _ (.tail _ (.tail _ (.tail _ ra1)))) (.tail _ (.tail _ (.tail _ (.tail _ rb1)))) (.tail _ (.tail _ (.tail _ (.tail _ rd1)))) (.tail _ (.tail _ (.tail _ (.tail _ re1))))
      k_steps
      exact hret _ _ (by k_asm) (by k_extra "led")
    · rename kindIs 2 d2 = false => q2
      exact ⟨by rw [q2, Bool.and_false]⟩
    · rename kindIs 2 d1 = false => q1
      exact ⟨by rw [q1, Bool.false_and]⟩
  case s2 =>
    rintro ⟨⟩ u2 h2 tk2 hnr F2 N2
    (try dsimp only at F2 N2)
    k_steps
    · rename kindIs 2 d1 = true => q
      exact retB ⟨same_no2 hnr (.inl q)⟩ (hret _ _ (by k_asm) (by k_extra "led"))
    · rename kindIs 2 d2 = true => q
      exact retB ⟨same_no2 hnr (.inr (.inl q))⟩ (hret _ _ (by k_asm) (by k_extra "led"))
    · rename (kindIs 0 d1 != kindIs 0 d2) = true => q
      exact retB ⟨same_no2 hnr (.inr (.inr q))⟩ (hret _ _ (by k_asm) (by k_extra "led"))
    · rename kindIs 2 d1 = false => q1
      rename kindIs 2 d2 = false => q2
      rename (kindIs 0 d1 != kindIs 0 d2) = false => q0
      cases d1 <;> cases d2 <;> first | (exfalso; revert q0 q1 q2; simp [kindIs]; done) | skip
      · obtain rfl := hv1; obtain rfl := hv2
        k_steps
        exact hret _ _ (by k_asm) (by k_extra "led")
      · obtain rfl := hv1; obtain ⟨t2, rfl⟩ := hv2
        k_steps
        exact hret _ _ (by k_asm) (by k_extra "led")
      · obtain ⟨t1, rfl⟩ := hv1; obtain ⟨t2, rfl⟩ := hv2
        k_steps
        exact hret _ _ (by k_asm) (by k_extra "led")
      · obtain ⟨t1, rfl⟩ := hv1; obtain rfl := hv2
        k_steps
        exact hret _ _ (by k_asm) (by k_extra "led")
      · obtain ⟨t1, rfl⟩ := hv1; obtain ⟨t2, rfl⟩ := hv2
        k_steps
        exact hret _ _ (by k_asm) (by k_extra "led")

end Mine
end
section
namespace Mine
theorem reg_F7 (h : PySem.Challenge.rw_nz0185_01 = PySem.Challenge.rw_nz0185_01) (g : ∀ w : World, Mine.mk.heap_1 w.params = Mine.mk.heap_1 w.params) : PySem.Challenge.rw_nz0185_01 = PySem.Challenge.rw_nz0185_01 ∧ ∀ w : World, Mine.mk.heap_1 w.params = Mine.mk.heap_1 w.params := by
  k_fill
  k_with_none
  k_with "enter" => (refine' enterK ?k1 ?k2 ?k3 ?k4 ?k5 ?kA ?kF ?kK ?k6 ?k7 ?k8 ?k9 ?kb ?kB ?_ ?c2 ?c3 ?c4 ?c5; (case kA => exact rfl); (case kF => exact rfl); (case kK => assumption); (case k1 => k_asm); (case k2 => k_asm); (case k3 => k_asm); (case k4 => k_asm); (case k5 => k_asm); (case k6 => k_is); (case k7 => k_is); (case k8 => ktr_room); (case k9 => exact BindsTo.of_eq rfl); (case kb => exact rfl); (case c5 => decide); (case kB => exact rfl); (case c2 => exact rfl); (case c3 => exact rfl); (case c4 => exact rfl); k_whole; intro g' L' h' tk' FG' F' N' B' X' T'; dsimp only [bindsOf, List.map, List.zip, List.zipWith, List.reverse, List.reverseAux] at F'; (try dsimp only); (try k_lift B'); (try k_fold))
  k_with "WlPost" => (dsimp only [WlPost])
  k_with "CutPost" => (dsimp only [CutPost])
  k_with "WlExit" => ((rename News _ _ _ _ => nE'); (refine' wl_exit (by assumption) nE' (by first | (with_reducible exact fun _ h9 => h9) | kst_in) (by kst_all) ?_))
  k_with "WlEnd" => ((rename News _ _ _ _ => nE'); first
  | (refine' wl_end ⟨⟩ (by assumption) nE' (by first | (with_reducible exact fun _ h9 => h9) | kst_in) (by kst_all) ?_)
  | (refine' wl_end ⟨_, _⟩ (by assumption) nE' (by first | (with_reducible exact fun _ h9 => h9) | kst_in) (by kst_all) ?_)
  | (refine' wl_end ⟨_, _, _⟩ (by assumption) nE' (by first | (with_reducible exact fun _ h9 => h9) | kst_in) (by kst_all) ?_)
  | (refine' wl_end ⟨_, _, _, _⟩ (by assumption) nE' (by first | (with_reducible exact fun _ h9 => h9) | kst_in) (by kst_all) ?_)
  | (refine' wl_end ⟨_, _, _, _, _⟩ (by assumption) nE' (by first | (with_reducible exact fun _ h9 => h9) | kst_in) (by kst_all) ?_)
  | (refine' wl_end ⟨_, _, _, _, _, _⟩ (by assumption) nE' (by first | (with_reducible exact fun _ h9 => h9) | kst_in) (by kst_all) ?_))
  k_with "CutEnd" => ((rename News _ _ _ _ => nE'); first
  | (refine' cut_end ⟨⟩ (by assumption) nE' (by first | (with_reducible exact fun _ h9 => h9) | kst_in) (by kst_all) ?_)
  | (refine' cut_end ⟨_, _⟩ (by assumption) nE' (by first | (with_reducible exact fun _ h9 => h9) | kst_in) (by kst_all) ?_)
  | (refine' cut_end ⟨_, _, _⟩ (by assumption) nE' (by first | (with_reducible exact fun _ h9 => h9) | kst_in) (by kst_all) ?_)
  | (refine' cut_end ⟨_, _, _, _⟩ (by assumption) nE' (by first | (with_reducible exact fun _ h9 => h9) | kst_in) (by kst_all) ?_)
  | (refine' cut_end ⟨_, _, _, _, _⟩ (by assumption) nE' (by first | (with_reducible exact fun _ h9 => h9) | kst_in) (by kst_all) ?_)
  | (refine' cut_end ⟨_, _, _, _, _, _⟩ (by assumption) nE' (by first | (with_reducible exact fun _ h9 => h9) | kst_in) (by kst_all) ?_))
  k_with "led" => (first | k_asm | (refine' kst_newsOf (by assumption) (by kst_in)))
  k_with "end" => (first | (refine' retI ?_ (hret _ _ _ (by k_asm) (by k_extra "led"))) | (refine' retS ?_ (hret _ _ _ (by k_asm) (by k_extra "led"))) | (refine' retB ?_ (hret _ _ (by k_asm) (by k_extra "led"))))
  k_with "exec While BoolOp cons nil" => refine Hold.out ?_
  k_with "exec While Compare cons nil" => refine Hold.out ?_
  k_with "exec If" => ((rename Mark => hm9); clear hm9; refine Hold.out ?_)
  k_with "sub" => (first | assumption | exact fun _ h9 => h9 | (intro p9 h9; (try dsimp only at h9); first | exact h9 | (simp only [List.mem_cons, List.mem_append, List.cons_append, List.nil_append] at h9 ⊢; first | (simp only [h9, true_or, or_true]; done) | grind)))
  k_with "FlPost" => (dsimp only [FlPost])
  k_with "FlEnd" => ((rename News _ _ _ _ => nE'); first
  | (refine' fl_end ⟨⟩ (by assumption) nE' (by k_extra "sub") (by k_extra "sub") (by kst_all) (by first | exact ⟨by assumption⟩ | skip) ?_)
  | (refine' fl_end ⟨_, _⟩ (by assumption) nE' (by k_extra "sub") (by k_extra "sub") (by kst_all) (by first | exact ⟨by assumption⟩ | skip) ?_)
  | (refine' fl_end ⟨_, _, _⟩ (by assumption) nE' (by k_extra "sub") (by k_extra "sub") (by kst_all) (by first | exact ⟨by assumption⟩ | skip) ?_)
  | (refine' fl_end ⟨_, _, _, _⟩ (by assumption) nE' (by k_extra "sub") (by k_extra "sub") (by kst_all) (by first | exact ⟨by assumption⟩ | skip) ?_))
  k_with "pyIter str" => refine Hold.out ?_
  k_with "pyIter ref" => refine Hold.out ?_
  k_with "pre" => first | assumption | omega
  exact ⟨h, g⟩
theorem hex_fn (w : World) (news : Led) (n : Int) (tn : Tok) (h1 : 0 ≤ n) (h2 : n < 16 ^ 20) :
    FnC w 285 1 8 news [.int n tn] (fun k => ∀ t, k (.str (mkS (hexs n.toNat)) t) news) := by
  unfold FnC
  intro mean mg mb dp un gd cn cs a ccd cl outer A₀ base h₀ L m s Q E B F X N T hk hd hu hret
  k_dflt k_extra "enter"
  k_steps
  refine ⟨?_⟩
  with_unfolding_all refine' wl_while (σ := Int × Tok × Str × Tok) (fun _ => news) (fun c => [(Str.ofString "number", .int c.1 c.2.1), (Str.ofString "text", .str c.2.2.1 c.2.2.2)]) (fun c => 0 ≤ c.1 ∧ c.2.2.1.length ≤ 20 ∧ hexs n.toNat = preHexs c.1.toNat ++ lst c.2.2.1) (fun c => c.1 ≤ 15) (fun c => c.1.toNat) (⟨_, _, _, _⟩) (by assumption) (by assumption) (by kst_in) (by kst_all) ?start ?turn ?done
  case start =>
    have e := hx_start h1 rfl
    exact ⟨h1, hx_len h2 h1 e, e⟩
  case turn =>
    rintro ⟨k, tk, x, tx⟩ u hh tkk ⟨p1, p3, p4⟩ F1 N1
    dsimp only at p1 p3 p4 F1 N1
    k_steps
    · have hk : 15 < k := by assumption
      have e := hx_step hk p4
      exact ⟨⟨⟨by rw [Int.fdiv_eq_ediv_of_nonneg _ (by decide)]; omega, hx_len h2 h1 e, e⟩, by dsimp only; rw [Int.fdiv_eq_ediv_of_nonneg _ (by decide)]; omega⟩⟩
    · exact ⟨by dsimp only; omega⟩
  case done =>
    rintro ⟨k, tk, x, tx⟩ u hh tkk ⟨p1, p3, p4⟩ p5 F1 N1
    dsimp only at p1 p3 p4 p5 F1 N1
    k_steps
    k_extra "end"; exact ⟨hx_end p1 p5 p4⟩

end Mine
end
section
namespace Mine
theorem reg_O4 (h : PySem.Challenge.rw_nz0185_01 = PySem.Challenge.rw_nz0185_01) (g : ∀ w : World, Mine.mk.heap_1 w.params = Mine.mk.heap_1 w.params) : PySem.Challenge.rw_nz0185_01 = PySem.Challenge.rw_nz0185_01 ∧ ∀ w : World, Mine.mk.heap_1 w.params = Mine.mk.heap_1 w.params := by
  k_fill
  k_with_none
  k_with "enter" => (refine' enterK ?k1 ?k2 ?k3 ?k4 ?k5 ?kA ?kF ?kK ?k6 ?k7 ?k8 ?k9 ?kb ?kB ?_ ?c2 ?c3 ?c4 ?c5; (case kA => exact rfl); (case kF => exact rfl); (case kK => assumption); (case k1 => k_asm); (case k2 => k_asm); (case k3 => k_asm); (case k4 => k_asm); (case k5 => k_asm); (case k6 => k_is); (case k7 => k_is); (case k8 => ktr_room); (case k9 => exact BindsTo.of_eq rfl); (case kb => exact rfl); (case c5 => decide); (case kB => exact rfl); (case c2 => exact rfl); (case c3 => exact rfl); (case c4 => exact rfl); k_whole; intro g' L' h' tk' FG' F' N' B' X' T'; dsimp only [bindsOf, List.map, List.zip, List.zipWith, List.reverse, List.reverseAux] at F'; (try dsimp only); (try k_lift B'); (try k_fold))
  k_with "WlPost" => (dsimp only [WlPost])
  k_with "CutPost" => (dsimp only [CutPost])
  k_with "WlExit" => ((rename News _ _ _ _ => nE'); (refine' wl_exit (by assumption) nE' (by first | (with_reducible exact fun _ h9 => h9) | kst_in) (by kst_all) ?_))
  k_with "WlEnd" => ((rename News _ _ _ _ => nE'); first
  | (refine' wl_end ⟨⟩ (by assumption) nE' (by first | (with_reducible exact fun _ h9 => h9) | kst_in) (by kst_all) ?_)
  | (refine' wl_end ⟨_, _⟩ (by assumption) nE' (by first | (with_reducible exact fun _ h9 => h9) | kst_in) (by kst_all) ?_)
  | (refine' wl_end ⟨_, _, _⟩ (by assumption) nE' (by first | (with_reducible exact fun _ h9 => h9) | kst_in) (by kst_all) ?_)
  | (refine' wl_end ⟨_, _, _, _⟩ (by assumption) nE' (by first | (with_reducible exact fun _ h9 => h9) | kst_in) (by kst_all) ?_)
  | (refine' wl_end ⟨_, _, _, _, _⟩ (by assumption) nE' (by first | (with_reducible exact fun _ h9 => h9) | kst_in) (by kst_all) ?_)
  | (refine' wl_end ⟨_, _, _, _, _, _⟩ (by assumption) nE' (by first | (with_reducible exact fun _ h9 => h9) | kst_in) (by kst_all) ?_))
  k_with "CutEnd" => ((rename News _ _ _ _ => nE'); first
  | (refine' cut_end ⟨⟩ (by assumption) nE' (by first | (with_reducible exact fun _ h9 => h9) | kst_in) (by kst_all) ?_)
  | (refine' cut_end ⟨_, _⟩ (by assumption) nE' (by first | (with_reducible exact fun _ h9 => h9) | kst_in) (by kst_all) ?_)
  | (refine' cut_end ⟨_, _, _⟩ (by assumption) nE' (by first | (with_reducible exact fun _ h9 => h9) | kst_in) (by kst_all) ?_)
  | (refine' cut_end ⟨_, _, _, _⟩ (by assumption) nE' (by first | (with_reducible exact fun _ h9 => h9) | kst_in) (by kst_all) ?_)
  | (refine' cut_end ⟨_, _, _, _, _⟩ (by assumption) nE' (by first | (with_reducible exact fun _ h9 => h9) | kst_in) (by kst_all) ?_)
  | (refine' cut_end ⟨_, _, _, _, _, _⟩ (by assumption) nE' (by first | (with_reducible exact fun _ h9 => h9) | kst_in) (by kst_all) ?_))
  k_with "led" => (first | k_asm | (refine' kst_newsOf (by assumption) (by kst_in)))
  k_with "end" => (first | (refine' retI ?_ (hret _ _ _ (by k_asm) (by k_extra "led"))) | (refine' retS ?_ (hret _ _ _ (by k_asm) (by k_extra "led"))) | (refine' retB ?_ (hret _ _ (by k_asm) (by k_extra "led"))))
  k_with "exec While BoolOp cons nil" => refine Hold.out ?_
  k_with "exec While Compare cons nil" => refine Hold.out ?_
  k_with "exec If" => ((rename Mark => hm9); clear hm9; refine Hold.out ?_)
  k_with "sub" => (first | assumption | exact fun _ h9 => h9 | (intro p9 h9; (try dsimp only at h9); first | exact h9 | (simp only [List.mem_cons, List.mem_append, List.cons_append, List.nil_append] at h9 ⊢; first | (simp only [h9, true_or, or_true]; done) | grind)))
  k_with "FlPost" => (dsimp only [FlPost])
  k_with "FlEnd" => ((rename News _ _ _ _ => nE'); first
  | (refine' fl_end ⟨⟩ (by assumption) nE' (by k_extra "sub") (by k_extra "sub") (by kst_all) (by first | exact ⟨by assumption⟩ | skip) ?_)
  | (refine' fl_end ⟨_, _⟩ (by assumption) nE' (by k_extra "sub") (by k_extra "sub") (by kst_all) (by first | exact ⟨by assumption⟩ | skip) ?_)
  | (refine' fl_end ⟨_, _, _⟩ (by assumption) nE' (by k_extra "sub") (by k_extra "sub") (by kst_all) (by first | exact ⟨by assumption⟩ | skip) ?_)
  | (refine' fl_end ⟨_, _, _, _⟩ (by assumption) nE' (by k_extra "sub") (by k_extra "sub") (by kst_all) (by first | exact ⟨by assumption⟩ | skip) ?_))
  k_with "pyIter str" => ((with_reducible show wpAny _ _ (pyIter _) (fun it s₂ => LoopAtV _ _ _ _ _ _ _ _ _ it s₂) _ _); refine Hold.out ?_)
  k_with "pyIter ref" => ((with_reducible show wpAny _ _ (pyIter _) (fun it s₂ => LoopAtV _ _ _ _ _ _ _ _ _ it s₂) _ _); refine Hold.out ?_)
  k_with "call ref" => (k_dflt (refine' enterQ (by exact rfl) (by exact rfl) (by first | exact rfl | assumption) (by k_asm) (by k_asm) (by k_asm) (by k_asm) (by k_asm) (by k_is) (by k_is) (by ktr_room) (by exact BindsTo.of_eq rfl) (by exact rfl) (by exact rfl) (by exact rfl) (by exact rfl) (by exact rfl) (by decide) ?_); k_whole; intro g' L' h' tk' FG' F' N' B' X' T'; dsimp only [bindsOf, List.map, List.zip, List.zipWith, List.reverse, List.reverseAux] at F'; (try dsimp only); (try k_lift B'); (try k_fold))
  k_with "pre" => first | assumption | omega | exact IsV.mono (by assumption) (by k_extra "sub") | exact LimAt.mono (by assumption) (by k_extra "sub") | exact ThingAt.mono (by assumption) (by k_extra "sub") | exact RefAt.mono (by assumption) (by k_extra "sub")
  k_with "getAttr ref" => (k_dflt (refine' get_own (by k_asm) (by k_asm) (by k_inst) (by k_is) (by k_is) (by k_is) (by k_is) (by assumption) (by k_handed) ?_); k_whole)
  k_with "getAttr ref" => ((with_reducible show wpAny _ _ (getAttr (Value.ref _) (PySem.Str.ofString "number") _) _ _ _); k_dflt (refine' kd_num (by k_asm) (by k_asm) (by k_asm) (by k_mem) (by k_mem) (by assumption) (by assumption) (by k_handed) ?_); k_whole)
  k_with "getAttr ref" => ((with_reducible show wpAny _ _ (getAttr (Value.ref _) (PySem.Str.ofString "blessed") _) _ _ _); k_dflt (refine' kd_bl (by k_asm) (by k_asm) (by k_asm) (by k_mem) (by k_mem) (by assumption) (by assumption) (by k_handed) ?_); k_whole)
  k_with "call ref" => (k_dflt (refine' FnC.use (hex_fn _ _ _ _ (by k_extra "pre") (by k_extra "pre")) (by k_asm) (by k_asm) (by k_asm) (by k_asm) (by k_asm) (by first | exact rfl | assumption) (by ktr_room) (by ktr_units) ?_); (try dsimp only); intros; (try k_fold))
  exact ⟨h, g⟩
theorem word_fn (w : World) (news : Led) (th : Addr) (kd : Nat) (nm : Int) (bl : Bool) (ht : ThingAt news th kd nm bl) (hkd : kd < 4) :
    FnC w 278 1 8 news [.ref th] (fun k => ∀ t, k (.str (wordOf kd) t) news) := by
  unfold FnC
  intro mean mg mb dp un gd cn cs a ccd cl outer A₀ base h₀ L m s Q E B F X N T hk hd hu hret
  obtain ⟨dth, et, nt, t, r4, r5, r6, r7, r8, r9⟩ := ht
  rcases kd_cases hkd with rfl | rfl | rfl | rfl <;> dsimp only [clsOf] at r4
  · have r8' := r8 rfl
    replace N := news2 N r4 r5
    k_dflt k_extra "enter"
    k_steps
    exact hret _ _ _ (by k_asm) (by k_extra "led")
  · replace N := news2 N r4 r5
    k_dflt k_extra "enter"
    k_steps
    exact hret _ _ _ (by k_asm) (by k_extra "led")
  · replace N := news2 N r4 r5
    k_dflt k_extra "enter"
    k_steps
    exact hret _ _ _ (by k_asm) (by k_extra "led")
  · obtain ⟨r2, dr2, e2, n2, s1, s2, s3⟩ := r9 rfl
    replace N := news4 N r4 r5 s2 s3
    k_dflt k_extra "enter"
    k_steps
    exact hret _ _ _ (by k_asm) (by k_extra "led")

end Mine
end
section
namespace Mine
theorem reg_O5 (h : PySem.Challenge.rw_nz0185_01 = PySem.Challenge.rw_nz0185_01) (g : ∀ w : World, Mine.mk.heap_1 w.params = Mine.mk.heap_1 w.params) : PySem.Challenge.rw_nz0185_01 = PySem.Challenge.rw_nz0185_01 ∧ ∀ w : World, Mine.mk.heap_1 w.params = Mine.mk.heap_1 w.params := by
  k_fill
  k_with_none
  k_with "enter" => (refine' enterK ?k1 ?k2 ?k3 ?k4 ?k5 ?kA ?kF ?kK ?k6 ?k7 ?k8 ?k9 ?kb ?kB ?_ ?c2 ?c3 ?c4 ?c5; (case kA => exact rfl); (case kF => exact rfl); (case kK => assumption); (case k1 => k_asm); (case k2 => k_asm); (case k3 => k_asm); (case k4 => k_asm); (case k5 => k_asm); (case k6 => k_is); (case k7 => k_is); (case k8 => ktr_room); (case k9 => exact BindsTo.of_eq rfl); (case kb => exact rfl); (case c5 => decide); (case kB => exact rfl); (case c2 => exact rfl); (case c3 => exact rfl); (case c4 => exact rfl); k_whole; intro g' L' h' tk' FG' F' N' B' X' T'; dsimp only [bindsOf, List.map, List.zip, List.zipWith, List.reverse, List.reverseAux] at F'; (try dsimp only); (try k_lift B'); (try k_fold))
  k_with "WlPost" => (dsimp only [WlPost])
  k_with "CutPost" => (dsimp only [CutPost])
  k_with "WlExit" => ((rename News _ _ _ _ => nE'); (refine' wl_exit (by assumption) nE' (by first | (with_reducible exact fun _ h9 => h9) | kst_in) (by kst_all) ?_))
  k_with "WlEnd" => ((rename News _ _ _ _ => nE'); first
  | (refine' wl_end ⟨⟩ (by assumption) nE' (by first | (with_reducible exact fun _ h9 => h9) | kst_in) (by kst_all) ?_)
  | (refine' wl_end ⟨_, _⟩ (by assumption) nE' (by first | (with_reducible exact fun _ h9 => h9) | kst_in) (by kst_all) ?_)
  | (refine' wl_end ⟨_, _, _⟩ (by assumption) nE' (by first | (with_reducible exact fun _ h9 => h9) | kst_in) (by kst_all) ?_)
  | (refine' wl_end ⟨_, _, _, _⟩ (by assumption) nE' (by first | (with_reducible exact fun _ h9 => h9) | kst_in) (by kst_all) ?_)
  | (refine' wl_end ⟨_, _, _, _, _⟩ (by assumption) nE' (by first | (with_reducible exact fun _ h9 => h9) | kst_in) (by kst_all) ?_)
  | (refine' wl_end ⟨_, _, _, _, _, _⟩ (by assumption) nE' (by first | (with_reducible exact fun _ h9 => h9) | kst_in) (by kst_all) ?_))
  k_with "CutEnd" => ((rename News _ _ _ _ => nE'); first
  | (refine' cut_end ⟨⟩ (by assumption) nE' (by first | (with_reducible exact fun _ h9 => h9) | kst_in) (by kst_all) ?_)
  | (refine' cut_end ⟨_, _⟩ (by assumption) nE' (by first | (with_reducible exact fun _ h9 => h9) | kst_in) (by kst_all) ?_)
  | (refine' cut_end ⟨_, _, _⟩ (by assumption) nE' (by first | (with_reducible exact fun _ h9 => h9) | kst_in) (by kst_all) ?_)
  | (refine' cut_end ⟨_, _, _, _⟩ (by assumption) nE' (by first | (with_reducible exact fun _ h9 => h9) | kst_in) (by kst_all) ?_)
  | (refine' cut_end ⟨_, _, _, _, _⟩ (by assumption) nE' (by first | (with_reducible exact fun _ h9 => h9) | kst_in) (by kst_all) ?_)
  | (refine' cut_end ⟨_, _, _, _, _, _⟩ (by assumption) nE' (by first | (with_reducible exact fun _ h9 => h9) | kst_in) (by kst_all) ?_))
  k_with "led" => (first | k_asm | (refine' kst_newsOf (by assumption) (by kst_in)))
  k_with "end" => (first | (refine' retI ?_ (hret _ _ _ (by k_asm) (by k_extra "led"))) | (refine' retS ?_ (hret _ _ _ (by k_asm) (by k_extra "led"))) | (refine' retB ?_ (hret _ _ (by k_asm) (by k_extra "led"))))
  k_with "exec While BoolOp cons nil" => refine Hold.out ?_
  k_with "exec While Compare cons nil" => refine Hold.out ?_
  k_with "exec If" => ((rename Mark => hm9); clear hm9; refine Hold.out ?_)
  k_with "sub" => (first | assumption | exact fun _ h9 => h9 | (intro p9 h9; (try dsimp only at h9); first | exact h9 | (simp only [List.mem_cons, List.mem_append, List.cons_append, List.nil_append] at h9 ⊢; first | (simp only [h9, true_or, or_true]; done) | grind)))
  k_with "FlPost" => (dsimp only [FlPost])
  k_with "FlEnd" => ((rename News _ _ _ _ => nE'); first
  | (refine' fl_end ⟨⟩ (by assumption) nE' (by k_extra "sub") (by k_extra "sub") (by kst_all) (by first | exact ⟨by assumption⟩ | skip) ?_)
  | (refine' fl_end ⟨_, _⟩ (by assumption) nE' (by k_extra "sub") (by k_extra "sub") (by kst_all) (by first | exact ⟨by assumption⟩ | skip) ?_)
  | (refine' fl_end ⟨_, _, _⟩ (by assumption) nE' (by k_extra "sub") (by k_extra "sub") (by kst_all) (by first | exact ⟨by assumption⟩ | skip) ?_)
  | (refine' fl_end ⟨_, _, _, _⟩ (by assumption) nE' (by k_extra "sub") (by k_extra "sub") (by kst_all) (by first | exact ⟨by assumption⟩ | skip) ?_))
  k_with "pyIter str" => ((with_reducible show wpAny _ _ (pyIter _) (fun it s₂ => LoopAtV _ _ _ _ _ _ _ _ _ it s₂) _ _); refine Hold.out ?_)
  k_with "pyIter ref" => ((with_reducible show wpAny _ _ (pyIter _) (fun it s₂ => LoopAtV _ _ _ _ _ _ _ _ _ it s₂) _ _); refine Hold.out ?_)
  k_with "call ref" => (k_dflt (refine' enterQ (by exact rfl) (by exact rfl) (by first | exact rfl | assumption) (by k_asm) (by k_asm) (by k_asm) (by k_asm) (by k_asm) (by k_is) (by k_is) (by ktr_room) (by exact BindsTo.of_eq rfl) (by exact rfl) (by exact rfl) (by exact rfl) (by exact rfl) (by exact rfl) (by decide) ?_); k_whole; intro g' L' h' tk' FG' F' N' B' X' T'; dsimp only [bindsOf, List.map, List.zip, List.zipWith, List.reverse, List.reverseAux] at F'; (try dsimp only); (try k_lift B'); (try k_fold))
  k_with "pre" => first | assumption | omega | exact IsV.mono (by assumption) (by k_extra "sub") | exact LimAt.mono (by assumption) (by k_extra "sub") | exact ThingAt.mono (by assumption) (by k_extra "sub") | exact RefAt.mono (by assumption) (by k_extra "sub")
  k_with "getAttr ref" => (k_dflt (refine' get_own (by k_asm) (by k_asm) (by k_inst) (by k_is) (by k_is) (by k_is) (by k_is) (by assumption) (by k_handed) ?_); k_whole)
  k_with "getAttr ref" => ((with_reducible show wpAny _ _ (getAttr (Value.ref _) (PySem.Str.ofString "number") _) _ _ _); k_dflt (refine' kd_num (by k_asm) (by k_asm) (by k_asm) (by k_mem) (by k_mem) (by assumption) (by assumption) (by k_handed) ?_); k_whole)
  k_with "getAttr ref" => ((with_reducible show wpAny _ _ (getAttr (Value.ref _) (PySem.Str.ofString "blessed") _) _ _ _); k_dflt (refine' kd_bl (by k_asm) (by k_asm) (by k_asm) (by k_mem) (by k_mem) (by assumption) (by assumption) (by k_handed) ?_); k_whole)
  k_with "compareOp NotEq ref str" => (k_dflt (refine' ref_ne_str (by exact Frag.In.keeps (by k_asm) (Fr.keep (by k_asm))) (by k_inst) (by first | ke_room | ktr_units) ?_); k_whole)
  k_with "compareOp NotEq ref int" => (k_dflt (refine' ref_ne_int (by exact Frag.In.keeps (by k_asm) (Fr.keep (by k_asm))) (by k_inst) (by first | ke_room | ktr_units) ?_); k_whole)
  k_with "compareOp NotIn ref ref" => (k_dflt (refine' ref_notIn (News.isList (by k_asm) (by k_mem)) (by exact Frag.In.keeps (by k_asm) (Fr.keep (by k_asm))) (by k_inst) (by first | ke_room | ktr_units) ?_); k_whole)
  k_with "call ref" => (k_dflt (refine' FnC.use (hex_fn _ _ _ _ (by k_extra "pre") (by k_extra "pre")) (by k_asm) (by k_asm) (by k_asm) (by k_asm) (by k_asm) (by first | exact rfl | assumption) (by ktr_room) (by ktr_units) ?_); (try dsimp only); intros; (try k_fold))
  k_with "call ref" => (k_dflt (refine' FnC.useN (by k_asm) (word_fn _ _ _ _ _ _ (by k_extra "pre") (by k_extra "pre")) (by k_asm) (by k_asm) (by k_asm) (by k_asm) (by first | exact rfl | assumption) (by ktr_room) (by ktr_units) ?_); (try dsimp only); intros; (try k_fold))
  exact ⟨h, g⟩
theorem wordOf_len : ∀ kd, (wordOf kd).length ≤ 6
  | 0 | 1 | 2 => by decide
  | _ + 3 => by show (Str.ofString "REF").length ≤ 6; decide
theorem hexS_len {n : Int} (h1 : 0 ≤ n) (h2 : n < 16 ^ 20) : (mkS (hexs n.toNat)).length ≤ 20 := by
  show (hexs n.toNat).toArray.size ≤ 20
  rw [List.size_toArray]
  exact hexs_len 19 _ (by omega)
theorem rtext_fn (w : World) (news : Led) (r th : Addr) (kd : Nat) (nm : Int) (bl : Bool) (hr : RefAt news r th kd nm bl) (ho : (Vl.ref kd nm bl).ok) :
    FnC w 292 2 16 news [.ref r] (fun k => ∀ t, k (.str (refText kd nm bl) t) news) := by
  unfold FnC
  intro mean mg mb dp un gd cn cs a ccd cl outer A₀ base h₀ L m s Q E B F X N T hk hd hu hret
  obtain ⟨hkd, h1, h2⟩ := ho
  have h1' : 0 ≤ nm := by omega
  have h2' : nm < 16 ^ 20 := by omega
  obtain ⟨dr, er, nr, r1, r2, r3, ht⟩ := hr
  have ht' := ht
  obtain ⟨dth, et, nt, t, r4, r5, r6, ⟨tb, r7⟩, -⟩ := ht
  replace N := news4 N r1 r2 r4 r5
  have hwl := wordOf_len kd
  have hxl := hexS_len h1' h2'
  cases bl with
  | false =>
    rw [if_neg Bool.false_ne_true] at r7
    k_dflt k_extra "enter"
    k_steps
    exact hret _ _ _ (by k_asm) (by k_extra "led")

  | true =>
    rw [if_pos rfl] at r7
    k_dflt k_extra "enter"
    k_steps
    exact hret _ _ _ (by k_asm) (by k_extra "led")


end Mine
end
section
namespace Mine
theorem reg_O8 (h : PySem.Challenge.rw_nz0185_01 = PySem.Challenge.rw_nz0185_01) (g : ∀ w : World, Mine.mk.heap_1 w.params = Mine.mk.heap_1 w.params) : PySem.Challenge.rw_nz0185_01 = PySem.Challenge.rw_nz0185_01 ∧ ∀ w : World, Mine.mk.heap_1 w.params = Mine.mk.heap_1 w.params := by
  k_fill
  k_with_none
  k_with "enter" => (refine' enterK ?k1 ?k2 ?k3 ?k4 ?k5 ?kA ?kF ?kK ?k6 ?k7 ?k8 ?k9 ?kb ?kB ?_ ?c2 ?c3 ?c4 ?c5; (case kA => exact rfl); (case kF => exact rfl); (case kK => assumption); (case k1 => k_asm); (case k2 => k_asm); (case k3 => k_asm); (case k4 => k_asm); (case k5 => k_asm); (case k6 => k_is); (case k7 => k_is); (case k8 => ktr_room); (case k9 => exact BindsTo.of_eq rfl); (case kb => exact rfl); (case c5 => decide); (case kB => exact rfl); (case c2 => exact rfl); (case c3 => exact rfl); (case c4 => exact rfl); k_whole; intro g' L' h' tk' FG' F' N' B' X' T'; dsimp only [bindsOf, List.map, List.zip, List.zipWith, List.reverse, List.reverseAux] at F'; (try dsimp only); (try k_lift B'); (try k_fold))
  k_with "WlPost" => (dsimp only [WlPost])
  k_with "CutPost" => (dsimp only [CutPost])
  k_with "WlExit" => ((rename News _ _ _ _ => nE'); (refine' wl_exit (by assumption) nE' (by first | (with_reducible exact fun _ h9 => h9) | kst_in) (by kst_all) ?_))
  k_with "WlEnd" => ((rename News _ _ _ _ => nE'); first
  | (refine' wl_end ⟨⟩ (by assumption) nE' (by first | (with_reducible exact fun _ h9 => h9) | kst_in) (by kst_all) ?_)
  | (refine' wl_end ⟨_, _⟩ (by assumption) nE' (by first | (with_reducible exact fun _ h9 => h9) | kst_in) (by kst_all) ?_)
  | (refine' wl_end ⟨_, _, _⟩ (by assumption) nE' (by first | (with_reducible exact fun _ h9 => h9) | kst_in) (by kst_all) ?_)
  | (refine' wl_end ⟨_, _, _, _⟩ (by assumption) nE' (by first | (with_reducible exact fun _ h9 => h9) | kst_in) (by kst_all) ?_)
  | (refine' wl_end ⟨_, _, _, _, _⟩ (by assumption) nE' (by first | (with_reducible exact fun _ h9 => h9) | kst_in) (by kst_all) ?_)
  | (refine' wl_end ⟨_, _, _, _, _, _⟩ (by assumption) nE' (by first | (with_reducible exact fun _ h9 => h9) | kst_in) (by kst_all) ?_))
  k_with "CutEnd" => ((rename News _ _ _ _ => nE'); first
  | (refine' cut_end ⟨⟩ (by assumption) nE' (by first | (with_reducible exact fun _ h9 => h9) | kst_in) (by kst_all) ?_)
  | (refine' cut_end ⟨_, _⟩ (by assumption) nE' (by first | (with_reducible exact fun _ h9 => h9) | kst_in) (by kst_all) ?_)
  | (refine' cut_end ⟨_, _, _⟩ (by assumption) nE' (by first | (with_reducible exact fun _ h9 => h9) | kst_in) (by kst_all) ?_)
  | (refine' cut_end ⟨_, _, _, _⟩ (by assumption) nE' (by first | (with_reducible exact fun _ h9 => h9) | kst_in) (by kst_all) ?_)
  | (refine' cut_end ⟨_, _, _, _, _⟩ (by assumption) nE' (by first | (with_reducible exact fun _ h9 => h9) | kst_in) (by kst_all) ?_)
  | (refine' cut_end ⟨_, _, _, _, _, _⟩ (by assumption) nE' (by first | (with_reducible exact fun _ h9 => h9) | kst_in) (by kst_all) ?_))
  k_with "led" => (first | k_asm | (refine' kst_newsOf (by assumption) (by kst_in)))
  k_with "end" => (first | (refine' retI ?_ (hret _ _ _ (by k_asm) (by k_extra "led"))) | (refine' retS ?_ (hret _ _ _ (by k_asm) (by k_extra "led"))) | (refine' retB ?_ (hret _ _ (by k_asm) (by k_extra "led"))))
  k_with "exec While BoolOp cons nil" => refine Hold.out ?_
  k_with "exec While Compare cons nil" => refine Hold.out ?_
  k_with "exec If" => ((rename Mark => hm9); clear hm9; refine Hold.out ?_)
  k_with "sub" => (first | assumption | exact fun _ h9 => h9 | (intro p9 h9; (try dsimp only at h9); first | exact h9 | (simp only [List.mem_cons, List.mem_append, List.cons_append, List.nil_append] at h9 ⊢; first | (simp only [h9, true_or, or_true]; done) | grind)))
  k_with "FlPost" => (dsimp only [FlPost])
  k_with "FlEnd" => ((rename News _ _ _ _ => nE'); first
  | (refine' fl_end ⟨⟩ (by assumption) nE' (by k_extra "sub") (by k_extra "sub") (by kst_all) (by first | exact ⟨by assumption⟩ | skip) ?_)
  | (refine' fl_end ⟨_, _⟩ (by assumption) nE' (by k_extra "sub") (by k_extra "sub") (by kst_all) (by first | exact ⟨by assumption⟩ | skip) ?_)
  | (refine' fl_end ⟨_, _, _⟩ (by assumption) nE' (by k_extra "sub") (by k_extra "sub") (by kst_all) (by first | exact ⟨by assumption⟩ | skip) ?_)
  | (refine' fl_end ⟨_, _, _, _⟩ (by assumption) nE' (by k_extra "sub") (by k_extra "sub") (by kst_all) (by first | exact ⟨by assumption⟩ | skip) ?_))
  k_with "pyIter str" => ((with_reducible show wpAny _ _ (pyIter _) (fun it s₂ => LoopAtV _ _ _ _ _ _ _ _ _ it s₂) _ _); refine Hold.out ?_)
  k_with "pyIter ref" => ((with_reducible show wpAny _ _ (pyIter _) (fun it s₂ => LoopAtV _ _ _ _ _ _ _ _ _ it s₂) _ _); refine Hold.out ?_)
  k_with "call ref" => (k_dflt (refine' enterQ (by exact rfl) (by exact rfl) (by first | exact rfl | assumption) (by k_asm) (by k_asm) (by k_asm) (by k_asm) (by k_asm) (by k_is) (by k_is) (by ktr_room) (by exact BindsTo.of_eq rfl) (by exact rfl) (by exact rfl) (by exact rfl) (by exact rfl) (by exact rfl) (by decide) ?_); k_whole; intro g' L' h' tk' FG' F' N' B' X' T'; dsimp only [bindsOf, List.map, List.zip, List.zipWith, List.reverse, List.reverseAux] at F'; (try dsimp only); (try k_lift B'); (try k_fold))
  k_with "pre" => first | assumption | omega | exact IsV.mono (by assumption) (by k_extra "sub") | exact LimAt.mono (by assumption) (by k_extra "sub") | exact ThingAt.mono (by assumption) (by k_extra "sub") | exact RefAt.mono (by assumption) (by k_extra "sub")
  k_with "getAttr ref" => (k_dflt (refine' get_own (by k_asm) (by k_asm) (by k_inst) (by k_is) (by k_is) (by k_is) (by k_is) (by assumption) (by k_handed) ?_); k_whole)
  k_with "getAttr ref" => ((with_reducible show wpAny _ _ (getAttr (Value.ref _) (PySem.Str.ofString "number") _) _ _ _); k_dflt (refine' kd_num (by k_asm) (by k_asm) (by k_asm) (by k_mem) (by k_mem) (by assumption) (by assumption) (by k_handed) ?_); k_whole)
  k_with "getAttr ref" => ((with_reducible show wpAny _ _ (getAttr (Value.ref _) (PySem.Str.ofString "blessed") _) _ _ _); k_dflt (refine' kd_bl (by k_asm) (by k_asm) (by k_asm) (by k_mem) (by k_mem) (by assumption) (by assumption) (by k_handed) ?_); k_whole)
  k_with "compareOp NotEq ref str" => (k_dflt (refine' ref_ne_str (by exact Frag.In.keeps (by k_asm) (Fr.keep (by k_asm))) (by k_inst) (by first | ke_room | ktr_units) ?_); k_whole)
  k_with "compareOp NotEq ref int" => (k_dflt (refine' ref_ne_int (by exact Frag.In.keeps (by k_asm) (Fr.keep (by k_asm))) (by k_inst) (by first | ke_room | ktr_units) ?_); k_whole)
  k_with "compareOp NotIn ref ref" => (k_dflt (refine' ref_notIn (News.isList (by k_asm) (by k_mem)) (by exact Frag.In.keeps (by k_asm) (Fr.keep (by k_asm))) (by k_inst) (by first | ke_room | ktr_units) ?_); k_whole)
  k_with "call ref" => (k_dflt (refine' FnC.use (ntext_fn _ _ _ _ (by k_extra "pre")) (by k_asm) (by k_asm) (by k_asm) (by k_asm) (by k_asm) (by first | exact rfl | assumption) (by ktr_room) (by ktr_units) ?_); (try dsimp only); intros; (try k_fold))
  k_with "call ref" => (k_dflt (refine' FnC.useN (by k_asm) (rtext_fn _ _ _ _ _ _ _ (by k_extra "pre") (by k_extra "pre")) (by k_asm) (by k_asm) (by k_asm) (by k_asm) (by first | exact rfl | assumption) (by ktr_room) (by ktr_units) ?_); (try dsimp only); intros; (try k_fold))
  exact ⟨h, g⟩
theorem totext_fn (w : World) (news : Led) (v : Value) (d : Vl) (hv : IsV news v d) (ho : d.ok) :
    FnC w 306 3 24 news [v] (fun k => ∀ t, k (.str (textOf d) t) news) := by
  unfold FnC
  intro mean mg mb dp un gd cn cs a ccd cl outer A₀ base h₀ L m s Q E B F X N T hk hd hu hret
  cases d with
  | none =>
    obtain rfl := hv
    k_dflt k_extra "enter"
    k_steps
    exact hret _ _ _ (by k_asm) (by k_extra "led")
  | int n =>
    have hb := Vl.ok_int ho
    obtain ⟨t, rfl⟩ := hv
    k_dflt k_extra "enter"
    k_steps
    exact hret _ _ _ (by k_asm) (by k_extra "led")
  | str x =>
    obtain ⟨t, rfl⟩ := hv
    k_dflt k_extra "enter"
    k_steps
    exact hret _ _ _ (by k_asm) (by k_extra "led")
  | ref kd nm bl =>
    obtain ⟨r, th, rfl, hr⟩ := hv
    have hr' := hr
    obtain ⟨dr, er, nr, r1, r2, r3, ht⟩ := hr
    replace N := news2 N r1 r2
    k_dflt k_extra "enter"
    k_steps
    exact hret _ _ _ (by k_asm) (by k_extra "led")
local macro_rules | `(tactic| k_handed) => `(tactic| assumption)
theorem valof_fn (w : World) (news : Led) (x : Addr) (v : Value) (d : Vl) (hx : ScalAt news x v) (hv : IsV news v d) :
    FnC w 299 1 8 news [.ref x] (fun k => k v news) := by
  unfold FnC
  intro mean mg mb dp un gd cn cs a ccd cl outer A₀ base h₀ L m s Q E B F X N T hk hd hu hret
  have hh : handedIn v = true := by
    cases d with
    | none => obtain rfl := hv; rfl
    | int n => obtain ⟨t, rfl⟩ := hv; rfl
    | str x => obtain ⟨t, rfl⟩ := hv; rfl
    | ref kd nm bl => obtain ⟨r, th, rfl, hr⟩ := hv; rfl
  obtain ⟨dx, es, n, x1, x2, x3, x4⟩ := hx
  replace N := news2 N x1 x2
  k_dflt k_extra "enter"
  k_steps
  exact hret _ _ (by k_asm) (by k_extra "led")

end Mine
end
section
namespace Mine
theorem reg_L4 (h : PySem.Challenge.rw_nz0185_01 = PySem.Challenge.rw_nz0185_01) (g : ∀ w : World, Mine.mk.heap_1 w.params = Mine.mk.heap_1 w.params) : PySem.Challenge.rw_nz0185_01 = PySem.Challenge.rw_nz0185_01 ∧ ∀ w : World, Mine.mk.heap_1 w.params = Mine.mk.heap_1 w.params := by
  k_fill
  k_with_none
  k_with "enter" => (refine' enterK ?k1 ?k2 ?k3 ?k4 ?k5 ?kA ?kF ?kK ?k6 ?k7 ?k8 ?k9 ?kb ?kB ?_ ?c2 ?c3 ?c4 ?c5; (case kA => exact rfl); (case kF => exact rfl); (case kK => assumption); (case k1 => k_asm); (case k2 => k_asm); (case k3 => k_asm); (case k4 => k_asm); (case k5 => k_asm); (case k6 => k_is); (case k7 => k_is); (case k8 => ktr_room); (case k9 => exact BindsTo.of_eq rfl); (case kb => exact rfl); (case c5 => decide); (case kB => exact rfl); (case c2 => exact rfl); (case c3 => exact rfl); (case c4 => exact rfl); k_whole; intro g' L' h' tk' FG' F' N' B' X' T'; dsimp only [bindsOf, List.map, List.zip, List.zipWith, List.reverse, List.reverseAux] at F'; (try dsimp only); (try k_lift B'); (try k_fold))
  k_with "WlPost" => (dsimp only [WlPost])
  k_with "CutPost" => (dsimp only [CutPost])
  k_with "WlExit" => ((rename News _ _ _ _ => nE'); (refine' wl_exit (by assumption) nE' (by first | (with_reducible exact fun _ h9 => h9) | kst_in) (by kst_all) ?_))
  k_with "WlEnd" => ((rename News _ _ _ _ => nE'); first
  | (refine' wl_end ⟨⟩ (by assumption) nE' (by first | (with_reducible exact fun _ h9 => h9) | kst_in) (by kst_all) ?_)
  | (refine' wl_end ⟨_, _⟩ (by assumption) nE' (by first | (with_reducible exact fun _ h9 => h9) | kst_in) (by kst_all) ?_)
  | (refine' wl_end ⟨_, _, _⟩ (by assumption) nE' (by first | (with_reducible exact fun _ h9 => h9) | kst_in) (by kst_all) ?_)
  | (refine' wl_end ⟨_, _, _, _⟩ (by assumption) nE' (by first | (with_reducible exact fun _ h9 => h9) | kst_in) (by kst_all) ?_)
  | (refine' wl_end ⟨_, _, _, _, _⟩ (by assumption) nE' (by first | (with_reducible exact fun _ h9 => h9) | kst_in) (by kst_all) ?_)
  | (refine' wl_end ⟨_, _, _, _, _, _⟩ (by assumption) nE' (by first | (with_reducible exact fun _ h9 => h9) | kst_in) (by kst_all) ?_))
  k_with "in0" => (first | (with_reducible exact fun _ h9 => h9) | (with_reducible exact fun _ h9 => (List.mem_cons_of_mem _ h9)) | (with_reducible exact fun _ h9 => (List.mem_cons_of_mem _ (List.mem_cons_of_mem _ h9))) | (with_reducible exact fun _ h9 => (List.mem_cons_of_mem _ (List.mem_cons_of_mem _ (List.mem_cons_of_mem _ h9)))) | (with_reducible exact List.forall_mem_cons.mpr ⟨List.mem_cons_self, fun _ h9 => (List.mem_cons_of_mem _ (List.mem_cons_of_mem _ (List.mem_cons_of_mem _ h9)))⟩) | kst_in)
  k_with "CutEnd" => ((rename News _ _ _ _ => nE'); first
  | (refine' cut_end ⟨⟩ (by assumption) nE' (by k_extra "in0") (by kst_all) ?_)
  | (refine' cut_end ⟨_, _⟩ (by assumption) nE' (by k_extra "in0") (by kst_all) ?_)
  | (refine' cut_end ⟨_, _, _⟩ (by assumption) nE' (by k_extra "in0") (by kst_all) ?_)
  | (refine' cut_end ⟨_, _, _, _⟩ (by assumption) nE' (by k_extra "in0") (by kst_all) ?_)
  | (refine' cut_end ⟨_, _, _, _, _⟩ (by assumption) nE' (by k_extra "in0") (by kst_all) ?_)
  | (refine' cut_end ⟨_, _, _, _, _, _⟩ (by assumption) nE' (by k_extra "in0") (by kst_all) ?_))
  k_with "led" => (first | k_asm | (refine' kst_newsOf (by assumption) (by kst_in)))
  k_with "end" => (first | (refine' retI ?_ (hret _ _ _ (by k_asm) (by k_extra "led"))) | (refine' retS ?_ (hret _ _ _ (by k_asm) (by k_extra "led"))) | (refine' retB ?_ (hret _ _ (by k_asm) (by k_extra "led"))))
  k_with "exec While BoolOp cons nil" => refine Hold.out ?_
  k_with "exec While Compare cons nil" => refine Hold.out ?_
  k_with "exec If" => ((rename Mark => hm9); clear hm9; refine Hold.out ?_)
  k_with "sub" => (first | assumption | exact fun _ h9 => h9 | (intro p9 h9; (try dsimp only at h9); first | exact h9 | (simp only [List.mem_cons, List.mem_append, List.cons_append, List.nil_append] at h9 ⊢; first | (simp only [h9, true_or, or_true]; done) | grind)))
  k_with "FlPost" => (dsimp only [FlPost])
  k_with "FlEnd" => ((rename News _ _ _ _ => nE'); first
  | (refine' fl_end ⟨⟩ (by assumption) nE' (by k_extra "sub") (by k_extra "sub") (by kst_all) (by first | exact ⟨by assumption⟩ | skip) ?_)
  | (refine' fl_end ⟨_, _⟩ (by assumption) nE' (by k_extra "sub") (by k_extra "sub") (by kst_all) (by first | exact ⟨by assumption⟩ | skip) ?_)
  | (refine' fl_end ⟨_, _, _⟩ (by assumption) nE' (by k_extra "sub") (by k_extra "sub") (by kst_all) (by first | exact ⟨by assumption⟩ | skip) ?_)
  | (refine' fl_end ⟨_, _, _, _⟩ (by assumption) nE' (by k_extra "sub") (by k_extra "sub") (by kst_all) (by first | exact ⟨by assumption⟩ | skip) ?_))
  k_with "pyIter str" => ((with_reducible show wpAny _ _ (pyIter _) (fun it s₂ => LoopAtV _ _ _ _ _ _ _ _ _ it s₂) _ _); refine Hold.out ?_)
  k_with "pyIter ref" => ((with_reducible show wpAny _ _ (pyIter _) (fun it s₂ => LoopAtV _ _ _ _ _ _ _ _ _ it s₂) _ _); refine Hold.out ?_)
  k_with "call ref" => (k_dflt (refine' enterQ (by exact rfl) (by exact rfl) (by first | exact rfl | assumption) (by k_asm) (by k_asm) (by k_asm) (by k_asm) (by k_asm) (by k_is) (by k_is) (by ktr_room) (by exact BindsTo.of_eq rfl) (by exact rfl) (by exact rfl) (by exact rfl) (by exact rfl) (by exact rfl) (by decide) ?_); k_whole; intro g' L' h' tk' FG' F' N' B' X' T'; dsimp only [bindsOf, List.map, List.zip, List.zipWith, List.reverse, List.reverseAux] at F'; (try dsimp only); (try k_lift B'); (try k_fold))
  k_with "pre" => first | assumption | omega | exact IsV.mono (by assumption) (by k_extra "sub") | exact LimAt.mono (by assumption) (by k_extra "sub") | exact ThingAt.mono (by assumption) (by k_extra "sub") | exact RefAt.mono (by assumption) (by k_extra "sub") | k_mem | k_extra "ne9"
  k_with "ne9" => (first | assumption | (refine' List.forall_mem_cons.mpr ⟨by k_ne, ?_⟩; k_extra "ne9"))
  k_with "getAttr ref" => (k_dflt (refine' get_own (by k_asm) (by k_asm) (by k_inst) (by k_is) (by k_is) (by k_is) (by k_is) (by assumption) (by k_handed) ?_); k_whole)
  k_with "getAttr ref" => ((with_reducible show wpAny _ _ (getAttr (Value.ref _) (PySem.Str.ofString "number") _) _ _ _); k_dflt (refine' kd_num (by k_asm) (by k_asm) (by k_asm) (by k_mem) (by k_mem) (by assumption) (by assumption) (by k_handed) ?_); k_whole)
  k_with "getAttr ref" => ((with_reducible show wpAny _ _ (getAttr (Value.ref _) (PySem.Str.ofString "blessed") _) _ _ _); k_dflt (refine' kd_bl (by k_asm) (by k_asm) (by k_asm) (by k_mem) (by k_mem) (by assumption) (by assumption) (by k_handed) ?_); k_whole)
  k_with "compareOp NotEq ref str" => (k_dflt (refine' ref_ne_str (by exact Frag.In.keeps (by k_asm) (Fr.keep (by k_asm))) (by k_inst) (by first | ke_room | ktr_units) ?_); k_whole)
  k_with "compareOp NotEq ref int" => (k_dflt (refine' ref_ne_int (by exact Frag.In.keeps (by k_asm) (Fr.keep (by k_asm))) (by k_inst) (by first | ke_room | ktr_units) ?_); k_whole)
  k_with "compareOp NotIn ref ref" => (k_dflt (refine' ref_notIn (News.isList (by k_asm) (by k_mem)) (by exact Frag.In.keeps (by k_asm) (Fr.keep (by k_asm))) (by k_inst) (by first | ke_room | ktr_units) ?_); k_whole)
  k_with "call ref" => ((with_reducible show wpAny _ _ (call (Value.ref 419) _) _ _ _); k_dflt (refine' FnC.useN (by k_asm) (lvalue_fn _ _ _ _ _ _ _ _ _ _ _ (by k_extra "pre") (by k_extra "pre") (by k_extra "pre") (by k_extra "pre") (by k_extra "pre") (by k_extra "pre") (by k_extra "pre")) (by k_asm) (by k_asm) (by k_asm) (by k_asm) (by first | exact rfl | assumption) (by ktr_room) (by ktr_units) ?_); (try dsimp only); intros; (try k_fold))
  k_with "call ref" => ((with_reducible show wpAny _ _ (call (Value.ref 204) _) _ _ _); k_dflt (refine' FnC.useN (by k_asm) (mkref_fn _ _ _ _) (by k_asm) (by k_asm) (by k_asm) (by k_asm) (by first | exact rfl | assumption) (by ktr_room) (by ktr_units) ?_); (try dsimp only); intros; (try k_fold))
  k_with "item" => (k_dflt (first | (refine' item_tupleT (News.isTup (by k_asm) (by k_mem)) (by decide) (by decide) (by rfl) (by rfl) ?_) | (refine' lst_at (by k_asm) (by k_mem) (by decide) (by decide) (by rfl) ?_) | (refine' lst_at (by k_asm) (by k_mem) (by omega) (by omega) (by assumption) ?_) | (refine' lst_prev (by k_asm) (by k_mem) (by assumption) (by omega) (by assumption) ?_)); k_whole)
  k_with "exec Assign" => ((with_reducible show wpAny _ _ (exec (Stmt.Assign [Expr.Name (PySem.Str.ofString "width") _] _ _) _) _ _ _); (rename Todo True => hm9); clear hm9; refine Hold.out ?_)
  k_with "hold" => (refine Hold.out ?_)
  k_with "holdM" => ((rename Mark => hm9); clear hm9; refine Hold.out ?_)
  k_with "itemS" => ((with_reducible show wpAny _ _ (subscriptTail _ _ (Value.ref _) (Value.int _ _)) _ _ _); k_extra "item")
  k_with "mlen" => ((with_reducible show wpAny _ _ (call (Value.builtin "len") [Value.ref _]) _ _ _); k_dflt (refine' len_led (by with_reducible assumption) (by k_asm) (by k_mem) (by omega) ?_); k_whole)
  k_with "mit" => ((with_reducible show wpAny _ _ (pyIter _) (fun it s₂ => LoopAtV _ _ _ _ _ _ _ _ _ it s₂) _ _); refine Hold.out ?_)
  k_with "misi" => ((have l9 : Late := by with_reducible assumption); clear l9; refine Hold.out ?_)
  k_with "mgm" => ((have l9 : Late := by with_reducible assumption); clear l9; k_dflt (refine' method_inst (by k_asm) (by k_asm) (by k_inst) (by k_is) (by k_is) (by k_is) (by exact HpE.b (by assumption)) ?_); k_whole)
  exact ⟨h, g⟩
local macro_rules | `(tactic| walk_at "exec Assign cons ListComp") => `(tactic| k_extra "hold")
local macro_rules | `(tactic| walk_at "exec Assign cons IfExp") => `(tactic| k_extra "holdM")
local macro_rules | `(tactic| walk_at "CompSrc") => `(tactic| k_extra "hold")
noncomputable def SrcPost (h₀ : Heap) (L dH : Addr) (m : Str → Option Value) (led : Led) (s : Shared) (xv : Value) (s₁ : Shared) : Prop :=
  ∃ ax its h tk, xv = .ref ax ∧ s₁ = { s with heap := h, toks := tk } ∧ Fr h₀ L h m ∧ News h₀ L h ((ax, W.listOf its 0) :: led) ∧ (∀ v ∈ its.toList, ∃ n t, v = .int n t) ∧ 1 ≤ its.size ∧ its.size ≤ 7 ∧ (@Ne Nat ax dH)
local macro_rules | `(tactic| walk_at "subscriptTail") => `(tactic| k_extra "itemS")
local macro_rules | `(tactic| walk_at "binaryOp Add ref ref") => `(tactic| k_extra "hold")
structure Late : Prop
theorem len_led {prog : Program} {w : World} {A : Around} {E : Value → Shared → Prop} {s : Shared} {h₀ : Heap} {L l : Addr} {news : Led} {vs : List Value} {n : Nat} {Q : Value → Shared → Prop} (_ : Late) (N : News h₀ L s.heap news) (hm : (l, ({ cls := .type "list", data := .seq vs.toArray n } : Obj)) ∈ news) (hf : vs.length < 2 ^ 60)
    (h : Q (.int vs.length (s.toks + 1)) { s with toks := s.toks + 1 + 1 }) : wpAny (model prog w) A (call (.builtin "len") [.ref l]) Q E s :=
  PyProof.Rows.len_list (News.isList N hm) (by rw [List.size_toArray]; omega) (by rw [List.size_toArray]; exact h)
local macro_rules | `(tactic| walk_at "call builtin:len") => `(tactic| k_extra "mlen")
local macro_rules | `(tactic| walk_at "pyIter ref") => `(tactic| k_extra "mit")
local macro_rules | `(tactic| walk_at "call builtin:isinstance") => `(tactic| k_extra "misi")
local macro_rules | `(tactic| walk_at "getMethod ref") => `(tactic| k_extra "mgm")
theorem isi_r {w : World} {A : Around} {E : Value → Shared → Prop} {s : Shared} {h₀ : Heap} {L : Addr} {m : Str → Option Value} {news : Led} {v : Value} {d : Vl} {b : Bool} {Q : Value → Shared → Prop}
    (hb : kindIs 2 d = b) (F : Fr h₀ L s.heap m) (X : (Mine.mk.heap_1 w.params).In h₀) (N : News h₀ L s.heap news) (hv : IsV news v d) (h : ∀ tk, Q (.bool b) { s with toks := tk }) :
    wpAny (model pw w) A (call (.builtin "isinstance") [v, .ref 204]) Q E s := by
  subst hb; exact isi_v F X N hv (i := 2) (by decide) rfl h
theorem ints_items {vs : List Value} {ns : List Int} (h : IntsAre vs ns) : ∀ v ∈ vs.toArray.toList, ∃ n t, v = .int n t := fun v hv => by
  obtain ⟨i, hi⟩ := List.mem_iff_getElem?.mp hv
  obtain ⟨n, t, e, -⟩ := h.at i v hi
  exact ⟨n, t, e⟩
theorem wd_ok (n : Int) : 4 ≤ 4 + n.fmod 77 ∧ 4 + n.fmod 77 ≤ 80 := by
  rw [Int.fmod_eq_emod_of_nonneg _ (by decide)]; omega
theorem rowL (said : PySem.Challenge.rw_nz0185_01.row.wellSaid = true) : PySem.Challenge.rw_nz0185_01.row.Holds := by
  refine holds_open (q := view) (loose := loose0) (Xt := Xt0) (XP := XL view []) (Yf := H0.obs) (Ya := H0.val) (YP := H0.says) (N := 4000) left0 H0.of H0.keeps (fun s e => xl_of s (Bool.and_eq_true_iff.mp e).1) XL.keeps (by rfl) (by rfl) (by rfl) (fun s e => recFacts_of (Bool.and_eq_true_iff.mp e).2) (by rfl) said (by decide +kernel) ⟨rfl, rfl, rfl, rfl, rfl, by decide +kernel⟩ ?hw ?hc
  case hw => w_witness2
  case hc =>
    k_go0
    all_goals try k_fold
    rename Frag.In _ _ => KX
    replace KX : (Mine.mk.heap_1 _).In _ := KX
    have mk : Todo True := ⟨⟨⟩⟩
    k_steps
    refine ⟨?_⟩
    rename World => w
    rename Heap.CodeRec _ _ _ => hcd9
    rename Dflts _ _ _ _ _ _ => hD9
    rename Top _ _ _ _ _ _ => T0
    clear hcd9 hD9
    rename Shared => s1
    rename_i oH oW hcH hcW X0 D1 ws hx1 hI hC hL8 l1 hx2 F0 N0
    have hln : ws.length ≤ 8 := by
      have := hI.length
      have := List.length_take_le 8 (by assumption : List Int)
      omega
    with_unfolding_all refine' wl_cut (σ := Int × Tok × Obj) (fun c => [(D1, W.listOf ws.toArray 0), (s1.heap.objs.size + 1 + 1, oH), (s1.heap.objs.size + 1, c.2.2)]) (fun c => [(Str.ofString "s", .ref D1)]) (fun c => 4 ≤ c.1 ∧ c.1 ≤ 80 ∧ c.2.2.data = .cell (some (.int c.1 c.2.1))) F0 ?s1 ?s2
    case s1 =>
      k_steps
      · refine ⟨⟨?x1, ?y1, ?z1⟩⟩
        case z1 => assumption
        case x1 => exact (wd_ok _).1
        case y1 => exact (wd_ok _).2
      · refine ⟨⟨?x2, ?y2, ?z2⟩⟩
        case z2 => assumption
        case x2 => exact (wd_ok _).1
        case y2 => exact (wd_ok _).2
    case s2 =>
      rintro ⟨wd, tw, oW2⟩ u2 hh2 tkk2 ⟨h1, h2, hcW2⟩ F1 N1
      (try dsimp only at h1 h2 hcW2 F1 N1)
      replace F1 : Fr s1.heap s1.heap.objs.size hh2 (kstB u2 [(Str.ofString "s", .ref D1)]) := F1
      replace N1 : News s1.heap s1.heap.objs.size hh2 [(D1, W.listOf ws.toArray 0), (s1.heap.objs.size + 1 + 1, oH), (s1.heap.objs.size + 1, oW2)] := N1
      have hcH2 : oH.data = .cell none := hcH
      clear hcH hcW X0 F0 N0
      have mk : Todo True := ⟨⟨⟩⟩
      k_with "call ref" => refine Hold.out ?_
      k_steps
      refine ⟨?_⟩
      k_dflt (refine' FnC.useN ?bN (mklim_fn _ _ _ _) ?bB ?bF ?bX ?bT ?bk ?bd ?bu ?_)
      case bN => k_asm
      case bB => k_asm
      case bF => k_asm
      case bX => k_asm
      case bT => k_asm
      case bk => rfl
      case bd => ktr_room
      case bu => ktr_units
      (try dsimp only)
      intro l dl el nl el1 q1 q2 hh3 tk3 F3 N3
      have q3 := ltN (q1 _ (.head _))
      have q4 := ltN (q1 _ (.tail _ (.head _)))
      have q5 := ltN (q1 _ (.tail _ (.tail _ (.head _))))
      (try dsimp only at q3 q4 q5)
      replace q2 := ltN q2
      clear q1
      (try k_fold)
      k_steps
      refine ⟨?_⟩
      k_dflt (refine' FnC.useN ?bN2 (mkheap_fn _ _ _) ?bB2 ?bF2 ?bX2 ?bT2 ?bk2 ?bd2 ?bu2 ?_)
      case bN2 => k_asm
      case bB2 => k_asm
      case bF2 => k_asm
      case bX2 => k_asm
      case bT2 => k_asm
      case bk2 => rfl
      case bd2 => ktr_room
      case bu2 => ktr_units
      (try dsimp only)
      intro H dH eh nh hE r1 r2 hh4 tk4 F4 N4
      have r3 := ltN (r1 _ (.head _))
      have r4 := ltN (r1 _ (.tail _ (.head _)))
      have r5 := ltN (r1 _ (.tail _ (.tail _ (.head _))))
      have r6 := ltN (r1 _ (.tail _ (.tail _ (.tail _ (.head _)))))
      have r7 := ltN (r1 _ (.tail _ (.tail _ (.tail _ (.tail _ (.head _))))))
      (try dsimp only at r3 r4 r5 r6 r7)
      replace r2 := ltN r2
      clear r1
      (try k_fold)
      k_steps
      refine ⟨?_⟩
      rename Fr _ _ _ _ => F5
      rename News _ _ _ _ => N5
      rename Obj => oH5
      rename Obj.data oH5 = _ => hcH5
      with_unfolding_all refine' wl_cut (σ := Addr × List Value × CS) (fun c => (c.1, LCg.lst c.2.1) :: ldC dH [(H, instObj 267 dH), (l, instObj 387 dl), (dl, dictOf el nl), (s1.heap.objs.size + 1 + 1, oH5), (s1.heap.objs.size + 1, oW2)] c.2.2) (fun c => [(Str.ofString "limits", .ref l), (Str.ofString "values", .ref c.1)]) (fun c => 1 ≤ c.2.1.length ∧ c.2.1.length ≤ 7 ∧ CInv dH 35 c.2.1 c.2.2 ∧ (@Ne Nat c.1 dH)) F5 ?s3 ?s4
      case s3 =>
        k_dflt (refine LCg.Assign_ListComp_U (F₀ := F5) (by rfl) (by with_unfolding_all rfl) (by with_unfolding_all rfl) (by decide) (by rfl) (by decide) (by rfl) (by rfl) (by rfl) ?_)
        refine wpAny_mono (Q := SrcPost s1.heap s1.heap.objs.size dH (fun y => if y = Str.ofString "limits" then some (.ref l) else kstB u2 [(Str.ofString "s", .ref D1)] y) [(dH, dictOf eh nh), (H, instObj 267 dH), (l, instObj 387 dl), (dl, dictOf el nl), (s1.heap.objs.size + 1 + 1, oH5), (s1.heap.objs.size + 1, oW2)] s1) ?a1 ?a2 (fun _ _ e => e)
        case a1 =>
          k_steps
          · rename IntsAre _ (List.drop 1 _) => hI6
            have := hI6.length
            rename News _ _ _ _ => nE'
            exact ⟨_, _, _, _, rfl, rfl, by assumption, kst_newsOf nE' (by kst_in), ints_items hI6, by rw [List.size_toArray]; omega, by rw [List.size_toArray]; omega, by k_ne⟩
          · rename News _ _ _ _ => nE'
            exact ⟨_, _, _, _, rfl, rfl, by assumption, kst_newsOf nE' (by kst_in), by simp, Nat.le_of_ble_eq_true rfl, Nat.le_of_ble_eq_true rfl, by k_ne⟩
        case a2 =>
          rintro _ _ ⟨ax, its, h7, tk7, rfl, rfl, F7, N7, i1, i2, i3, i4⟩
          refine LCg.CompSrc.ledger (k := 0) (by rfl) F7 (kst_newsOf (l' := ldC dH ([(ax, W.listOf its 0), (H, instObj 267 dH), (l, instObj 387 dl), (dl, dictOf el nl), (s1.heap.objs.size + 1 + 1, oH5), (s1.heap.objs.size + 1, oW2)]) ⟨[], eh, nh, 0⟩) N7 ?b1) ?b2 (Nat.le_trans i3 (by decide)) fun g => ?b3
          case b1 =>
            dsimp only [ldC, List.nil_append]
            kst_in
          case b2 => exact .tail _ (.head _)
          case b3 =>
            refine comp_ind (ldC dH ([(ax, W.listOf its 0), (H, instObj 267 dH), (l, instObj 387 dl), (dl, dictOf el nl), (s1.heap.objs.size + 1 + 1, oH5), (s1.heap.objs.size + 1, oW2)])) (CI dH) ?turn ?fin _ 0 [] _ (Nat.zero_add _) ?start
            case start => exact ⟨rfl, hE, Int.le_refl _, Int.le_refl _, fun _ h9 => (nomatch h9), fun _ h9 => (nomatch h9)⟩
            case turn =>
              rintro i v ys c J oI C oC D m₂ h8 tk8 E8 hi hv hI hC hx F8 N8 off ne
              obtain ⟨kn, kt, rfl⟩ := i1 v (by
                have := Array.mem_of_getElem? hv
                exact Array.mem_toList_iff.mpr this)
              have hmn := off.mem
              have hI' := hI.2
              obtain ⟨eE, eLo, eHi, eNe, eIt⟩ := hI'
              have hi7 : c.n < 1000 := by omega
              have hne : ∀ p ∈ (s1.heap.objs.size + 1 + 1, oH5) :: (s1.heap.objs.size + 1, oW2) :: (H, instObj 267 dH) :: (C, oC) :: (J, oI) :: (D, LCg.lst ys) :: (c.ex ++ [(ax, W.listOf its 0), (H, instObj 267 dH), (l, instObj 387 dl), (dl, dictOf el nl), (s1.heap.objs.size + 1 + 1, oH5), (s1.heap.objs.size + 1, oW2)]), p.1 ≠ dH := by
                have hd := hmn (dH, dictOf c.eh c.nh) (.head _)
                intro p hp
                simp only [List.mem_cons, List.mem_append, List.not_mem_nil, or_false] at hp
                rcases hp with rfl | rfl | rfl | rfl | rfl | rfl | hp | rfl | rfl | rfl | rfl | rfl | rfl
                · k_ne
                · k_ne
                · k_ne
                · exact Ne.symm hd.2.1
                · exact Ne.symm hd.1
                · exact Ne.symm hd.2.2
                · exact eNe p hp
                · exact i4
                · k_ne
                · k_ne
                · k_ne
                · k_ne
                · k_ne
              replace N8 : News _ _ h8 ((dH, dictOf c.eh c.nh) :: (s1.heap.objs.size + 1 + 1, oH5) :: (s1.heap.objs.size + 1, oW2) :: (H, instObj 267 dH) :: (C, oC) :: (J, oI) :: (D, LCg.lst ys) :: (c.ex ++ [(ax, W.listOf its 0), (H, instObj 267 dH), (l, instObj 387 dl), (dl, dictOf el nl), (s1.heap.objs.size + 1 + 1, oH5), (s1.heap.objs.size + 1, oW2)])) := kst_newsOf N8 (by
                intro p hp
                simp only [ldC, List.mem_cons, List.mem_append] at hp ⊢
                grind)
              iterate 2 walk1
              k_dflt (refine LCgL.ld_global F8 KX T0 (by k_is) ?_)
              walk1
              walk1
              k_dflt (refine' lcf_cell N8 (by rfl) (.tail _ (.head _)) hcH5 ?_ (by rfl) (by rfl))
              k_whole
              walk1
              k_dflt (refine' lcf_cell N8 (by rfl) (.tail _ (.tail _ (.head _))) hcW2 ?_ (by rfl) (by rfl))
              k_whole
              walk1
              k_dflt (refine' LCgL.ld_own N8 (.tail _ (.tail _ (.tail _ (.tail _ (.head _))))) hC hx ?_)
              walk1
              walk1
              k_dflt (refine' FnC.useN (by exact N8) (lvalue_fn w _ H dH c.eh c.nh c.n wd kn tw kt (.tail _ (.tail _ (.head _))) hne eE h1 h2 eLo hi7) ?cB ?cF ?cX ?cT ?ck ?cd ?cu ?_)
              case cB => k_asm
              case cF => exact F8
              case cX => exact KX
              case cT => exact T0
              case ck => rfl
              case cd => ktr_room
              case cu => ktr_units
              dsimp only
              intro tup d v t ex1 eh1 nh1 n1 z1 z2 z3 z4 z5 z6 z7 z8 h9 tk9 F9 N9
              exact comp_end F9 N9 (.tail _ (.tail _ (.tail _ (.tail _ (.head _))))) (.tail _ (.tail _ (.tail _ (.head _)))) (.tail _ (.tail _ (.tail _ (.tail _ (.tail _ (.head _)))))) (fun p hp => .tail _ (.tail _ (.tail _ (.tail _ (.tail _ (.tail _ hp)))))) off hI z1 z2 z3 z4 z5 z6 z7 z8 (.inr ⟨_, .tail _ (List.mem_append_right _ (.head _)), rfl, _, rfl⟩)
            case fin =>
              rintro ys c ⟨e1, e2⟩ D h8 tk8 F8 N8 o1
              have hz : (its.size : Int) ≤ 7 := by omega
              exact cut_end (⟨D, ys, c⟩ : Addr × List Value × CS) F8 N8 (List.forall_mem_cons.mpr ⟨.head _, fun p hp => .tail _ (ldC_sub (fun p hp => .tail _ hp) p hp)⟩) (by kst_all) ⟨⟨by dsimp only; omega, by dsimp only; omega, ⟨e2.hp, e2.lo, Int.le_trans e2.hi (by omega), e2.ne, e2.it⟩, Ne.symm o1.1⟩⟩
      case s4 =>
        rintro ⟨V, ys, c⟩ u3 hh3 tkk3 ⟨y1, y2, cI, vne⟩ F7 N7
        dsimp only at y1 y2 cI vne
        replace F7 : Fr s1.heap s1.heap.objs.size hh3 (kstB u3 [(Str.ofString "limits", .ref l), (Str.ofString "values", .ref V)]) := F7
        replace N7 : News s1.heap s1.heap.objs.size hh3 ((V, LCg.lst ys) :: ldC dH [(H, instObj 267 dH), (l, instObj 387 dl), (dl, dictOf el nl), (s1.heap.objs.size + 1 + 1, oH5), (s1.heap.objs.size + 1, oW2)] c) := N7
        clear F5 N5
        have mk5 : Mark := ⟨⟩
        k_steps
        refine ⟨?_⟩
        with_unfolding_all refine' wl_cut (σ := Addr × Nat × List Value × CS) (fun c => (c.1, W.listOf c.2.2.1.toArray c.2.1) :: ldC dH [(H, instObj 267 dH), (l, instObj 387 dl), (dl, dictOf el nl), (s1.heap.objs.size + 1 + 1, oH5), (s1.heap.objs.size + 1, oW2)] c.2.2.2) (fun c => [(Str.ofString "limits", .ref l), (Str.ofString "values", .ref c.1)]) (fun c => 1 ≤ c.2.2.1.length ∧ c.2.2.1.length ≤ 8 ∧ CInv dH 35 c.2.2.1 c.2.2.2 ∧ (@Ne Nat c.1 dH)) F7 ?s5 ?s6
        case s5 =>
          cases ys with
          | nil => exact absurd y1 (by decide)
          | cons y0 ys =>
            obtain ⟨tup, d, v, t, rfl, m1, m2, m3⟩ := cI.it y0 (.head _)
            cases d with
            | ref kd nm bl =>
              obtain ⟨r, th, rfl, dr, er, nr, ra, rb, rc, rd⟩ := m2
              replace N7 : News s1.heap s1.heap.objs.size hh3 ((tup, { cls := .type "tuple", data := .seq #[.ref r, .str (textOf (.ref kd nm bl)) t] }) :: (r, instObj 204 dr) :: (dr, dictOf er nr) :: (V, LCg.lst (.ref tup :: ys)) :: (dH, dictOf c.eh c.nh) :: (c.ex ++ [(H, instObj 267 dH), (l, instObj 387 dl), (dl, dictOf el nl), (s1.heap.objs.size + 1 + 1, oH5), (s1.heap.objs.size + 1, oW2)])) := kst_newsOf N7 (by
                intro p hp
                simp only [List.mem_cons, ldC] at hp ⊢
                rcases hp with rfl | rfl | rfl | rfl | hp
                · exact .inr (.inr (List.mem_append_left _ m1))
                · exact .inr (.inr (List.mem_append_left _ ra))
                · exact .inr (.inr (List.mem_append_left _ rb))
                · exact .inl rfl
                · exact .inr hp)
              k_steps
              refine ⟨?_⟩
              k_dflt (refine' FnC.useN ?dN (mkref_fn w _ _ _) ?dB ?dF ?dX ?dT ?dk ?dd ?du ?_)
              case dN => k_asm
              case dB => k_asm
              case dF => k_asm
              case dX => exact KX
              case dT => exact T0
              case dk => rfl
              case dd => ktr_room
              case du => ktr_units
              dsimp only
              intro r2 dr2 er2 nr2 x1 x2 x3 x4 hh5 tk5 F5 N5
              (try k_fold)
              k_steps
              refine ⟨?_⟩
              rename_i D6 hB lD6 l6 hA F6 N6 lL6
              have hsz := ltN (Heap.lt_size (N6 (dH, dictOf c.eh c.nh) (by k_mem)).1)
              refine' add_arrays (by k_asm) (by k_asm) (News.isList (by k_asm) (by k_mem)) (News.isList (by k_asm) (by k_mem)) ?_ ?sz
              case sz => simp only [List.size_toArray]; rw [sizeLine_eq]; dsimp only [List.length_cons, List.length_nil] at y2 ⊢; omega
              intro hh6 F8 N8
              dsimp only at F8 N8
              iterate 2 walk1
              (rename News _ _ _ _ => nE')
              have hdr := ltN (x3 (dH, dictOf c.eh c.nh) (by k_mem))
              dsimp only at hdr hsz
              replace x4 := ltN x4
              refine cut_end (⟨hA.objs.size, 0, (.ref tup :: ys) ++ [.ref D6], ⟨(D6, pairObj (.ref r2) (textOf (.ref kd nm bl)) t) :: (r2, instObj 204 dr2) :: (dr2, dictOf er2 nr2) :: c.ex, c.eh, c.nh, c.n⟩⟩ : Addr × Nat × List Value × CS) (by assumption) nE' ?hn ?hk ⟨?hp⟩
              case hk => kst_all
              case hn =>
                intro p hp
                dsimp only [ldC, pairObj] at hp
                simp only [List.mem_cons, List.mem_append, List.cons_append] at hp ⊢
                grind
              case hp =>
                dsimp only [List.length_cons, List.length_nil] at y2 ⊢
                refine ⟨by simp, by rw [List.length_append]; simp only [List.length_cons, List.length_nil]; omega, ⟨cI.hp, cI.lo, cI.hi, ?e1, ?e2⟩, by omega⟩
                case e1 => exact List.forall_mem_cons.mpr ⟨by k_ne, List.forall_mem_cons.mpr ⟨by k_ne, List.forall_mem_cons.mpr ⟨by k_ne, cI.ne⟩⟩⟩
                case e2 =>
                  intro y hy
                  rcases List.mem_append.mp hy with hy | hy
                  · exact (cI.it y hy).mono fun p hp => .tail _ (.tail _ (.tail _ hp))
                  · rw [List.mem_singleton.mp hy]
                    exact ⟨D6, .ref kd nm bl, .ref r2, t, rfl, .head _, ⟨r2, th, rfl, dr2, er2, nr2, .tail _ (.head _), .tail _ (.tail _ (.head _)), x1, rd.mono fun p hp => .tail _ (.tail _ (.tail _ hp))⟩, m3⟩
            | none =>
              obtain rfl := m2
              replace N7 : News s1.heap s1.heap.objs.size hh3 ((tup, { cls := .type "tuple", data := .seq #[.none, .str (textOf (Vl.none)) t] }) :: (V, LCg.lst (.ref tup :: ys)) :: (dH, dictOf c.eh c.nh) :: (c.ex ++ [(H, instObj 267 dH), (l, instObj 387 dl), (dl, dictOf el nl), (s1.heap.objs.size + 1 + 1, oH5), (s1.heap.objs.size + 1, oW2)])) := kst_newsOf N7 (by
                intro p hp
                simp only [List.mem_cons, ldC] at hp ⊢
                rcases hp with rfl | rfl | hp
                · exact .inr (.inr (List.mem_append_left _ m1))
                · exact .inl rfl
                · exact .inr hp)
              k_steps
              exact ⟨⟨y1, Nat.le_succ_of_le y2, cI, vne⟩⟩
            | int n =>
              obtain ⟨tz, rfl⟩ := m2
              replace N7 : News s1.heap s1.heap.objs.size hh3 ((tup, { cls := .type "tuple", data := .seq #[.int n tz, .str (textOf (.int n)) t] }) :: (V, LCg.lst (.ref tup :: ys)) :: (dH, dictOf c.eh c.nh) :: (c.ex ++ [(H, instObj 267 dH), (l, instObj 387 dl), (dl, dictOf el nl), (s1.heap.objs.size + 1 + 1, oH5), (s1.heap.objs.size + 1, oW2)])) := kst_newsOf N7 (by
                intro p hp
                simp only [List.mem_cons, ldC] at hp ⊢
                rcases hp with rfl | rfl | hp
                · exact .inr (.inr (List.mem_append_left _ m1))
                · exact .inl rfl
                · exact .inr hp)
              k_steps
              exact ⟨⟨y1, Nat.le_succ_of_le y2, cI, vne⟩⟩
            | str x =>
              obtain ⟨tz, rfl⟩ := m2
              replace N7 : News s1.heap s1.heap.objs.size hh3 ((tup, { cls := .type "tuple", data := .seq #[.str x tz, .str (textOf (.str x)) t] }) :: (V, LCg.lst (.ref tup :: ys)) :: (dH, dictOf c.eh c.nh) :: (c.ex ++ [(H, instObj 267 dH), (l, instObj 387 dl), (dl, dictOf el nl), (s1.heap.objs.size + 1 + 1, oH5), (s1.heap.objs.size + 1, oW2)])) := kst_newsOf N7 (by
                intro p hp
                simp only [List.mem_cons, ldC] at hp ⊢
                rcases hp with rfl | rfl | hp
                · exact .inr (.inr (List.mem_append_left _ m1))
                · exact .inl rfl
                · exact .inr hp)
              k_steps
              exact ⟨⟨y1, Nat.le_succ_of_le y2, cI, vne⟩⟩
        case s6 =>
          rintro ⟨V, cap, ys, c⟩ u4 hh4 tkk4 ⟨y1, y2, cI, vne⟩ F9 N9
          dsimp only at y1 y2 cI vne
          replace F9 : Fr s1.heap s1.heap.objs.size hh4 (kstB u4 [(Str.ofString "limits", .ref l), (Str.ofString "values", .ref V)]) := F9
          replace N9 : News s1.heap s1.heap.objs.size hh4 ((V, W.listOf ys.toArray cap) :: ldC dH [(H, instObj 267 dH), (l, instObj 387 dl), (dl, dictOf el nl), (s1.heap.objs.size + 1 + 1, oH5), (s1.heap.objs.size + 1, oW2)] c) := N9
          obtain ⟨led0, b1, b2, b3, N8⟩ := loop_led (h := hh4) N9 cI vne el1 (by k_ne) (by k_ne) (by k_ne) (by k_ne) (by k_ne)
          clear N9 N7 F7
          have late : Late := ⟨⟩
          k_with "call ref" => ((with_reducible show wpAny _ _ (call (Value.ref 292) _) _ _ _); k_dflt (refine' FnC.useN (by k_asm) (rtext_fn _ _ _ _ _ _ _ (by k_extra "pre") (by k_extra "pre")) (by k_asm) (by k_asm) (by k_asm) (by k_asm) (by first | exact rfl | assumption) (by ktr_room) (by ktr_units) ?_); (try dsimp only); intros; (try k_fold))
          k_with "call ref" => ((with_reducible show wpAny _ _ (call (Value.ref 299) _) _ _ _); k_dflt (refine' FnC.useN (by k_asm) (valof_fn _ _ _ _ _ (by k_extra "pre") (by k_extra "pre")) (by k_asm) (by k_asm) (by k_asm) (by k_asm) (by first | exact rfl | assumption) (by ktr_room) (by ktr_units) ?_); (try dsimp only); intros; (try k_fold))
          k_with "call ref" => ((with_reducible show wpAny _ _ (call (Value.ref 306) _) _ _ _); k_dflt (refine' FnC.useN (by k_asm) (totext_fn _ _ _ _ (by k_extra "pre") (by k_extra "pre")) (by k_asm) (by k_asm) (by k_asm) (by k_asm) (by first | exact rfl | assumption) (by ktr_room) (by ktr_units) ?_); (try dsimp only); intros; (try k_fold))
          k_with "call ref" => ((with_reducible show wpAny _ _ (call (Value.ref 466) _) _ _ _); k_dflt (refine' FnC.useN (by k_asm) (lright_fn _ _ _ _ _ _ _ (by k_extra "pre") (by k_extra "pre") (by k_extra "pre") (by k_extra "pre") (by k_extra "pre")) (by k_asm) (by k_asm) (by k_asm) (by k_asm) (by first | exact rfl | assumption) (by ktr_room) (by ktr_units) ?_); (try dsimp only); intros; (try k_fold))
          k_with "call ref" => ((with_reducible show wpAny _ _ (call (Value.ref 440) _) _ _ _); k_dflt (refine' FnC.useN (by k_asm) (lnum_fn _ _ _ _ _ _ (by k_extra "pre") (by k_extra "pre") (by k_extra "pre") (by k_extra "pre")) (by k_asm) (by k_asm) (by k_asm) (by k_asm) (by first | exact rfl | assumption) (by ktr_room) (by ktr_units) ?_); (try dsimp only); intros; (try k_fold))
          k_with "call ref" => ((with_reducible show wpAny _ _ (call (Value.ref 362) _) _ _ _); k_dflt (refine' FnC.useN (by k_asm) (cmpn_fn _ _ _ _ _ _ _ _ (by k_extra "pre") (by k_extra "pre") (by k_extra "pre") (by k_extra "pre") (by k_extra "pre") (by k_extra "pre") (by k_extra "pre")) (by k_asm) (by k_asm) (by k_asm) (by k_asm) (by first | exact rfl | assumption) (by ktr_room) (by ktr_units) ?_); (try dsimp only); intros; (try k_fold))
          k_with "call ref" => ((with_reducible show wpAny _ _ (call (Value.ref 369) _) _ _ _); k_dflt (refine' FnC.useN (by k_asm) (veq_fn _ _ _ _ _ _ (by k_extra "pre") (by k_extra "pre") (by k_extra "pre") (by k_extra "pre")) (by k_asm) (by k_asm) (by k_asm) (by k_asm) (by first | exact rfl | assumption) (by ktr_room) (by ktr_units) ?_); (try dsimp only); intros; (try k_fold))
          k_with "call ref" => ((with_reducible show wpAny _ _ (call (Value.ref 473) _) _ _ _); k_dflt (refine' FnC.useN (by k_asm) (lsame_fn _ _ _ _ _ _ (by k_extra "pre") (by k_extra "pre") (by k_extra "pre") (by k_extra "pre")) (by k_asm) (by k_asm) (by k_asm) (by k_asm) (by first | exact rfl | assumption) (by ktr_room) (by ktr_units) ?_); (try dsimp only); intros; (try k_fold))
          k_steps
          refine ⟨?_⟩
          have hyl : ys.length < 2 ^ 60 := by omega
          with_unfolding_all refine' fl_rangeG (σ := List DictEntry × Nat × Int) (fun c => (dH, dictOf c.1 c.2.1) :: (s1.heap.objs.size + 1 + 1, oH5) :: (s1.heap.objs.size + 1, oW2) :: (H, instObj 267 dH) :: (V, W.listOf ys.toArray cap) :: led0) (fun _ => [(Str.ofString "limits", .ref l), (Str.ofString "values", .ref V)]) (fun i c => HpE c.1 c.2.2 ∧ 0 ≤ c.2.2 ∧ c.2.2 ≤ 35 + i) (⟨c.eh, c.nh, c.n⟩) (ys.length) (by rfl) (by assumption) (by rfl) (by rfl) hyl (by assumption) (by assumption) (by k_extra "sub") (by kst_all) ?start ?turn ?done
          case start => exact ⟨cI.hp, cI.lo, by have := cI.hi; dsimp only; omega⟩
          case done =>
            rintro ⟨eh2, nh2, n2⟩ u5 hh5 tkk5 p F1 N1
            (try dsimp only at F1 N1)
            k_steps
          case turn =>
            rintro i ti ⟨eh2, nh2, n2⟩ u5 hh5 tkk5 own wr hi ⟨p1, p2, p3⟩ hw how F1 N1
            dsimp only at p1 p2 p3
            replace F1 : Fr s1.heap s1.heap.objs.size hh5 (fun y => if y = Str.ofString "k" then some (.int (i : Int) ti) else kstB u5 [(Str.ofString "limits", .ref l), (Str.ofString "values", .ref V)] y) := F1
            obtain ⟨tup, d, v, t, hx0, ht, hv, hd⟩ := Itm.at b3 hi
            have hj : prevI ys.length i < ys.length := by unfold prevI; split <;> omega
            obtain ⟨tup2, d2, v2, t2, hx2, ht2, hv2, hd2⟩ := Itm.at b3 hj
            have hx1 : ys[((i : Nat) : Int).toNat]? = some (.ref tup) := hx0
            have hne2 : ∀ p ∈ (s1.heap.objs.size + 1 + 1, oH5) :: (s1.heap.objs.size + 1, oW2) :: (H, instObj 267 dH) :: (V, W.listOf ys.toArray cap) :: led0 ++ own, p.1 ≠ dH := fun p hp => (List.mem_append.mp hp).elim (b2 p) fun q e => hw (dH, dictOf eh2 nh2) (.head _) (e ▸ how p q)
            replace N1 : News s1.heap s1.heap.objs.size hh5 ((tup, { cls := .type "tuple", data := .seq #[v, .str (textOf d) t] }) :: (tup2, { cls := .type "tuple", data := .seq #[v2, .str (textOf d2) t2] }) :: (dH, dictOf eh2 nh2) :: (s1.heap.objs.size + 1 + 1, oH5) :: (s1.heap.objs.size + 1, oW2) :: (H, instObj 267 dH) :: (V, W.listOf ys.toArray cap) :: (led0 ++ own)) := kst_newsOf N1 (by
              intro p hp
              simp only [List.mem_cons, List.mem_append, List.cons_append] at hp ⊢
              rcases hp with rfl | rfl | hp
              · exact .inr (.inr (.inr (.inr (.inr (.inl ht)))))
              · exact .inr (.inr (.inr (.inr (.inr (.inl ht2)))))
              · exact hp)
            have mk6 : Mark := ⟨⟩
            k_steps
            refine ⟨?_⟩
            with_unfolding_all refine' wl_cut (σ := Unit) (fun _ => (dH, dictOf eh2 nh2) :: (s1.heap.objs.size + 1 + 1, oH5) :: (s1.heap.objs.size + 1, oW2) :: (H, instObj 267 dH) :: (V, W.listOf ys.toArray cap) :: (led0 ++ own)) (fun _ => [(Str.ofString "limits", .ref l), (Str.ofString "values", .ref V), (Str.ofString "value", v), (Str.ofString "text", .str (textOf d) t), (Str.ofString "other", v2)]) (fun _ => True) (by assumption) ?i1 ?i2
            case i1 =>
              k_steps
              all_goals exact ⟨trivial⟩
            case i2 =>
              rintro ⟨⟩ u6 hh6 tkk6 - F1 N1
              replace F1 : Fr s1.heap s1.heap.objs.size hh6 (kstB u6 [(Str.ofString "limits", .ref l), (Str.ofString "values", .ref V), (Str.ofString "value", v), (Str.ofString "text", .str (textOf d) t), (Str.ofString "other", v2)]) := F1
              replace N1 : News s1.heap s1.heap.objs.size hh6 ((dH, dictOf eh2 nh2) :: (s1.heap.objs.size + 1 + 1, oH5) :: (s1.heap.objs.size + 1, oW2) :: (H, instObj 267 dH) :: (V, W.listOf ys.toArray cap) :: (led0 ++ own)) := N1
              have mk7 : Mark := ⟨⟩
              k_steps
              refine ⟨?_⟩
              with_unfolding_all refine' wl_cut (σ := List DictEntry × Nat) (fun c => (dH, dictOf c.1 c.2) :: (s1.heap.objs.size + 1 + 1, oH5) :: (s1.heap.objs.size + 1, oW2) :: (H, instObj 267 dH) :: (V, W.listOf ys.toArray cap) :: (led0 ++ own)) (fun _ => [(Str.ofString "limits", .ref l), (Str.ofString "values", .ref V), (Str.ofString "value", v), (Str.ofString "text", .str (textOf d) t), (Str.ofString "other", v2)]) (fun c => HpE c.1 (n2 + 1)) (by assumption) ?i3 ?i4
              case i3 =>
                k_steps
                refine ⟨?_⟩
                have hvN : IsV ((dH, dictOf eh2 nh2) :: (s1.heap.objs.size + 1 + 1, oH5) :: (s1.heap.objs.size + 1, oW2) :: (H, instObj 267 dH) :: (V, W.listOf ys.toArray cap) :: (led0 ++ own)) v d := hv.mono (by k_extra "sub")
                cases q : kindIs 2 d with
                | true =>
                  k_dflt (refine' isi_r q F1 KX N1 hvN ?_)
                  intro _
                  obtain ⟨kd, nm, bl, rfl⟩ := kind_ref q
                  obtain ⟨r, th, rfl, hr⟩ := id hvN
                  (try dsimp only)
                  k_steps
                  · rename (_ != _) = true => q9
                    rw [show textOf (Vl.ref kd nm bl) = refText kd nm bl from rfl, bne_self_eq_false] at q9
                    cases q9
                  · refine ⟨?_⟩
                    k_dflt (refine' FnC.useN (by k_asm) (newsc_fn w _ H dH eh2 nh2 n2 (.ref r) (by k_mem) (by exact hne2) p1) ?By ?Fy ?Xy ?Ty ?ky ?dy ?uy ?_)
                    case By => k_asm
                    case Fy => k_asm
                    case Xy => exact KX
                    case Ty => exact T0
                    case ky => rfl
                    case dy => ktr_room
                    case uy => ktr_units
                    dsimp only
                    intro x dx es n3 eh3 nh3 g1 g2 g3 g4 g5 g6 g7 hh7 tk7 F7 N7
                    (try k_fold)
                    have hsc : ScalAt ((dH, dictOf eh3 nh3) :: (dx, dictOf es n3) :: (x, instObj 108 dx) :: (s1.heap.objs.size + 1 + 1, oH5) :: (s1.heap.objs.size + 1, oW2) :: (H, instObj 267 dH) :: (V, W.listOf ys.toArray cap) :: (led0 ++ own)) x (.ref r) := ⟨dx, es, n3, .tail _ (.tail _ (.head _)), .tail _ (.head _), g3, g2⟩
                    have hv7 : IsV ((dH, dictOf eh3 nh3) :: (dx, dictOf es n3) :: (x, instObj 108 dx) :: (s1.heap.objs.size + 1 + 1, oH5) :: (s1.heap.objs.size + 1, oW2) :: (H, instObj 267 dH) :: (V, W.listOf ys.toArray cap) :: (led0 ++ own)) (.ref r) (.ref kd nm bl) := hv.mono (by k_extra "sub")
                    have hse := same_self (.ref kd nm bl)
                    k_steps
                    exact ⟨g4⟩
                | false =>
                  k_dflt (refine' isi_r q F1 KX N1 hvN ?_)
                  intro _
                  (try dsimp only)
                  k_steps
                  refine ⟨?_⟩
                  k_dflt (refine' FnC.useN (by k_asm) (newsc_fn w _ H dH eh2 nh2 n2 v (by k_mem) (by exact hne2) p1) ?Bz ?Fz ?Xz ?Tz ?kz ?dz ?uz ?_)
                  case Bz => k_asm
                  case Fz => k_asm
                  case Xz => exact KX
                  case Tz => exact T0
                  case kz => rfl
                  case dz => ktr_room
                  case uz => ktr_units
                  dsimp only
                  intro x dx es n3 eh3 nh3 g1 g2 g3 g4 g5 g6 g7 hh7 tk7 F7 N7
                  (try k_fold)
                  have hsc : ScalAt ((dH, dictOf eh3 nh3) :: (dx, dictOf es n3) :: (x, instObj 108 dx) :: (s1.heap.objs.size + 1 + 1, oH5) :: (s1.heap.objs.size + 1, oW2) :: (H, instObj 267 dH) :: (V, W.listOf ys.toArray cap) :: (led0 ++ own)) x v := ⟨dx, es, n3, .tail _ (.tail _ (.head _)), .tail _ (.head _), g3, g2⟩
                  have hv7 : IsV ((dH, dictOf eh3 nh3) :: (dx, dictOf es n3) :: (x, instObj 108 dx) :: (s1.heap.objs.size + 1 + 1, oH5) :: (s1.heap.objs.size + 1, oW2) :: (H, instObj 267 dH) :: (V, W.listOf ys.toArray cap) :: (led0 ++ own)) v d := hv.mono (by k_extra "sub")
                  have hse := same_self d
                  k_steps
                  exact ⟨g4⟩
              case i4 =>
                rintro ⟨eh3, nh3⟩ u7 hh7 tkk7 p4 F1 N1
                replace F1 : Fr s1.heap s1.heap.objs.size hh7 (kstB u7 [(Str.ofString "limits", .ref l), (Str.ofString "values", .ref V), (Str.ofString "value", v), (Str.ofString "text", .str (textOf d) t), (Str.ofString "other", v2)]) := F1
                replace N1 : News s1.heap s1.heap.objs.size hh7 ((dH, dictOf eh3 nh3) :: (s1.heap.objs.size + 1 + 1, oH5) :: (s1.heap.objs.size + 1, oW2) :: (H, instObj 267 dH) :: (V, W.listOf ys.toArray cap) :: (led0 ++ own)) := N1
                dsimp only at p4
                have mk8 : Mark := ⟨⟩
                k_steps
                refine ⟨?_⟩
                with_unfolding_all refine' wl_cut (σ := Tok × Int) (fun _ => (dH, dictOf eh3 nh3) :: (s1.heap.objs.size + 1 + 1, oH5) :: (s1.heap.objs.size + 1, oW2) :: (H, instObj 267 dH) :: (V, W.listOf ys.toArray cap) :: (led0 ++ own)) (fun c => [(Str.ofString "limits", .ref l), (Str.ofString "values", .ref V), (Str.ofString "value", v), (Str.ofString "other", v2), (Str.ofString "order", .int c.2 c.1)]) (fun c => c.2 = cmpOf (numOf wd d) (numOf wd d2)) (by assumption) ?i5 ?i6
                case i5 =>
                  k_steps
                  all_goals
                    refine ⟨?_⟩
                    dsimp only
                    unfold cmpOf
                    split <;> (try split) <;> omega
                case i6 =>
                  rintro ⟨t9, z9⟩ u8 hh8 tkk8 hz9 F1 N1
                  obtain rfl : z9 = cmpOf (numOf wd d) (numOf wd d2) := hz9
                  replace F1 : Fr s1.heap s1.heap.objs.size hh8 (kstB u8 [(Str.ofString "limits", .ref l), (Str.ofString "values", .ref V), (Str.ofString "value", v), (Str.ofString "other", v2), (Str.ofString "order", .int (cmpOf (numOf wd d) (numOf wd d2)) t9)]) := F1
                  replace N1 : News s1.heap s1.heap.objs.size hh8 ((dH, dictOf eh3 nh3) :: (s1.heap.objs.size + 1 + 1, oH5) :: (s1.heap.objs.size + 1, oW2) :: (H, instObj 267 dH) :: (V, W.listOf ys.toArray cap) :: (led0 ++ own)) := N1
                  k_steps
                  (rename News _ _ _ _ => nE')
                  exact fl_end (⟨eh3, nh3, n2 + 1⟩ : List DictEntry × Nat × Int) (by assumption) nE' (fun p hp => .tail _ (.tail _ (.tail _ (.tail _ (.tail _ (List.mem_append_right _ hp)))))) (by k_extra "sub") (by kst_all) ⟨List.forall_mem_cons.mpr ⟨hw (dH, dictOf eh2 nh2) (.head _), fun p hp => hw p (.tail _ hp)⟩⟩ ⟨p4, by dsimp only; omega, by dsimp only; omega⟩

end Mine
end
theorem PySem.Challenge.cw_nz0185_01_holds : PySem.Challenge.rw_nz0185_01.Holds :=
  Mine.hol Mine.rowL
