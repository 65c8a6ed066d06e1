import PyProof.Rows.All
import Wide.All
import OpenK.AllK
import Wide.FinOn
import Lean
import PySem.Challenge.RW_nn0264_01
open PySem PySem.W PyProof.Rows
set_option Elab.async false
set_option autoImplicit false
set_option linter.unusedVariables false
namespace Mine
open PySem.Calls
/-- the program's statement at a place -/
noncomputable def stAt (i : Nat) : Option Stmt := PySem.Challenge.rw_nn0264_01.row.prog.main.body[i]?
/-- the function object that a def at place i leaves behind -/
noncomputable abbrev fnO (i : Nat) (nm : Str) (md : Str) (tok : Nat) (cd : Addr) {n : Str} {ar : Arguments} {b : List Stmt} {ds : List Expr} {r : Option Expr} {ts : List TypeParam} {sc : Scope} {tc : Option Scope} {bd : Str} {ps : Pos}
    (_h : stAt i = some (.FunctionDef n ar b ds r ts sc tc bd ps)) : Obj :=
  { cls := .type "function", data := .func { name := nm, qualname := nm, params := ar, body := .stmts b, scope := sc, globals := 3, closure := [], defaults := .none, kwdefaults := .none, pyModule := .str md tok, code := .ref cd } }
noncomputable abbrev glE (P : Params) (x : Str) (tok : Nat) (v : Value) : DictEntry := ⟨PyData.keyHash P x, .str x tok, v⟩
noncomputable def heapK : Params → Frag := fun P =>
  [(3, { cls := .type "dict", data := .dict #[glE P (Str.ofString "__name__") 165 (.str (Str.ofString "law_nn0264_01") 414),
    glE P (Str.ofString "__doc__") 166 (.none),
    glE P (Str.ofString "__package__") 167 (.none),
    glE P (Str.ofString "__loader__") 168 (.builtin "__main__.__loader__#opaque"),
    glE P (Str.ofString "__spec__") 169 (.none),
    glE P (Str.ofString "__annotations__") 170 (.ref 6),
    glE P (Str.ofString "__builtins__") 171 (.ref 4),
    glE P (Str.ofString "__file__") 173 (.str (Str.ofString "/claim/cut.py") 172),
    glE P (Str.ofString "__cached__") 174 (.none),
    glE P (Str.ofString "CasFail") 219 (.ref 31),
    glE P (Str.ofString "gcd") 229 (.ref 41),
    glE P (Str.ofString "gcd_all") 238 (.ref 48),
    glE P (Str.ofString "ztrim") 248 (.ref 55),
    glE P (Str.ofString "zdegree") 255 (.ref 62),
    glE P (Str.ofString "zlead") 262 (.ref 69),
    glE P (Str.ofString "zadd") 268 (.ref 74),
    glE P (Str.ofString "zneg") 274 (.ref 79),
    glE P (Str.ofString "zsub") 282 (.ref 86),
    glE P (Str.ofString "zscale") 288 (.ref 91),
    glE P (Str.ofString "zraise") 296 (.ref 98),
    glE P (Str.ofString "zcontent") 303 (.ref 105),
    glE P (Str.ofString "zshift") 314 (.ref 112),
    glE P (Str.ofString "check_bottom") 323 (.ref 119),
    glE P (Str.ofString "pseudo") 339 (.ref 126),
    glE P (Str.ofString "divided") 347 (.ref 131),
    glE P (Str.ofString "full_rest") 353 (.ref 136),
    glE P (Str.ofString "row_resultant") 367 (.ref 143),
    glE P (Str.ofString "resultant") 379 (.ref 150),
    glE P (Str.ofString "root_bound") 387 (.ref 155),
    glE P (Str.ofString "first_differences") 395 (.ref 160),
    glE P (Str.ofString "zeros_on") 407 (.ref 167),
    glE P (Str.ofString "dispersions") 413 (.ref 172),
    glE P (Str.ofString "_law_take") 424 (.ref 179),
    glE P (Str.ofString "_law_draws") 430 (.ref 184),
    glE P (Str.ofString "_law_mul") 443 (.ref 191),
    glE P (Str.ofString "_law_made") 456 (.ref 198),
    glE P (Str.ofString "law") 462 (.ref 203)] 37 }),
   (40, { cls := .type "code", data := .fields #[.str (Str.ofString "gcd") 222, .str (Str.ofString "gcd") 223, .str (Str.ofString "/claim/cut.py") 224, .int 9 0, .int 2 0, .int 0 0, .int 0 0, .int 3 0, .ref 35, .bool true, .int 181 0, .ref 36, .none, .ref 37, .ref 38, .ref 39, .int 227 0, .int 9 0, .str (Str.ofString "/claim/cut.py") 228] }),
   (41, fnO 3 (Str.ofString "gcd") (Str.ofString "cas.ints") 220 40 rfl),
   (47, { cls := .type "code", data := .fields #[.str (Str.ofString "gcd_all") 230, .str (Str.ofString "gcd_all") 231, .str (Str.ofString "/claim/cut.py") 232, .int 14 0, .int 1 0, .int 0 0, .int 0 0, .int 3 0, .ref 42, .bool true, .int 181 0, .ref 43, .none, .ref 44, .ref 45, .ref 46, .int 236 0, .int 14 0, .str (Str.ofString "/claim/cut.py") 237] }),
   (48, fnO 4 (Str.ofString "gcd_all") (Str.ofString "cas.ints") 220 47 rfl),
   (54, { cls := .type "code", data := .fields #[.str (Str.ofString "ztrim") 241, .str (Str.ofString "ztrim") 242, .str (Str.ofString "/claim/cut.py") 243, .int 20 0, .int 1 0, .int 0 0, .int 0 0, .int 3 0, .ref 49, .bool true, .int 181 0, .ref 50, .none, .ref 51, .ref 52, .ref 53, .int 246 0, .int 20 0, .str (Str.ofString "/claim/cut.py") 247] }),
   (55, fnO 6 (Str.ofString "ztrim") (Str.ofString "cas.zpoly") 239 54 rfl),
   (61, { cls := .type "code", data := .fields #[.str (Str.ofString "zdegree") 249, .str (Str.ofString "zdegree") 250, .str (Str.ofString "/claim/cut.py") 251, .int 25 0, .int 1 0, .int 0 0, .int 0 0, .int 3 0, .ref 56, .bool true, .int 181 0, .ref 57, .none, .ref 58, .ref 59, .ref 60, .int 253 0, .int 25 0, .str (Str.ofString "/claim/cut.py") 254] }),
   (62, fnO 7 (Str.ofString "zdegree") (Str.ofString "cas.zpoly") 239 61 rfl),
   (68, { cls := .type "code", data := .fields #[.str (Str.ofString "zlead") 256, .str (Str.ofString "zlead") 257, .str (Str.ofString "/claim/cut.py") 258, .int 27 0, .int 1 0, .int 0 0, .int 0 0, .int 3 0, .ref 63, .bool true, .int 181 0, .ref 64, .none, .ref 65, .ref 66, .ref 67, .int 260 0, .int 27 0, .str (Str.ofString "/claim/cut.py") 261] }),
   (69, fnO 8 (Str.ofString "zlead") (Str.ofString "cas.zpoly") 239 68 rfl),
   (73, { cls := .type "code", data := .fields #[.str (Str.ofString "zadd") 263, .str (Str.ofString "zadd") 264, .str (Str.ofString "/claim/cut.py") 265, .int 29 0, .int 2 0, .int 0 0, .int 0 0, .int 3 0, .ref 70, .bool true, .int 181 0, .ref 71, .none, .none, .none, .ref 72, .int 266 0, .int 29 0, .str (Str.ofString "/claim/cut.py") 267] }),
   (74, fnO 9 (Str.ofString "zadd") (Str.ofString "cas.zpoly") 239 73 rfl),
   (78, { cls := .type "code", data := .fields #[.str (Str.ofString "zneg") 269, .str (Str.ofString "zneg") 270, .str (Str.ofString "/claim/cut.py") 271, .int 32 0, .int 1 0, .int 0 0, .int 0 0, .int 3 0, .ref 75, .bool true, .int 181 0, .ref 76, .none, .none, .none, .ref 77, .int 272 0, .int 32 0, .str (Str.ofString "/claim/cut.py") 273] }),
   (79, fnO 10 (Str.ofString "zneg") (Str.ofString "cas.zpoly") 239 78 rfl),
   (85, { cls := .type "code", data := .fields #[.str (Str.ofString "zsub") 275, .str (Str.ofString "zsub") 276, .str (Str.ofString "/claim/cut.py") 277, .int 34 0, .int 2 0, .int 0 0, .int 0 0, .int 3 0, .ref 80, .bool true, .int 181 0, .ref 81, .none, .ref 82, .ref 83, .ref 84, .int 280 0, .int 34 0, .str (Str.ofString "/claim/cut.py") 281] }),
   (86, fnO 11 (Str.ofString "zsub") (Str.ofString "cas.zpoly") 239 85 rfl),
   (90, { cls := .type "code", data := .fields #[.str (Str.ofString "zscale") 283, .str (Str.ofString "zscale") 284, .str (Str.ofString "/claim/cut.py") 285, .int 36 0, .int 2 0, .int 0 0, .int 0 0, .int 3 0, .ref 87, .bool true, .int 181 0, .ref 88, .none, .none, .none, .ref 89, .int 286 0, .int 36 0, .str (Str.ofString "/claim/cut.py") 287] }),
   (91, fnO 12 (Str.ofString "zscale") (Str.ofString "cas.zpoly") 239 90 rfl),
   (97, { cls := .type "code", data := .fields #[.str (Str.ofString "zraise") 289, .str (Str.ofString "zraise") 290, .str (Str.ofString "/claim/cut.py") 291, .int 38 0, .int 2 0, .int 0 0, .int 0 0, .int 3 0, .ref 92, .bool true, .int 181 0, .ref 93, .none, .ref 94, .ref 95, .ref 96, .int 294 0, .int 38 0, .str (Str.ofString "/claim/cut.py") 295] }),
   (98, fnO 13 (Str.ofString "zraise") (Str.ofString "cas.zpoly") 239 97 rfl),
   (104, { cls := .type "code", data := .fields #[.str (Str.ofString "zcontent") 297, .str (Str.ofString "zcontent") 298, .str (Str.ofString "/claim/cut.py") 299, .int 40 0, .int 1 0, .int 0 0, .int 0 0, .int 3 0, .ref 99, .bool true, .int 181 0, .ref 100, .none, .ref 101, .ref 102, .ref 103, .int 301 0, .int 40 0, .str (Str.ofString "/claim/cut.py") 302] }),
   (105, fnO 14 (Str.ofString "zcontent") (Str.ofString "cas.zpoly") 239 104 rfl),
   (111, { cls := .type "code", data := .fields #[.str (Str.ofString "zshift") 304, .str (Str.ofString "zshift") 305, .str (Str.ofString "/claim/cut.py") 306, .int 42 0, .int 2 0, .int 0 0, .int 0 0, .int 3 0, .ref 106, .bool true, .int 181 0, .ref 107, .none, .ref 108, .ref 109, .ref 110, .int 312 0, .int 42 0, .str (Str.ofString "/claim/cut.py") 313] }),
   (112, fnO 15 (Str.ofString "zshift") (Str.ofString "cas.zpoly") 239 111 rfl),
   (118, { cls := .type "code", data := .fields #[.str (Str.ofString "check_bottom") 317, .str (Str.ofString "check_bottom") 318, .str (Str.ofString "/claim/cut.py") 319, .int 49 0, .int 1 0, .int 0 0, .int 0 0, .int 3 0, .ref 113, .bool true, .int 181 0, .ref 114, .none, .ref 115, .ref 116, .ref 117, .int 321 0, .int 49 0, .str (Str.ofString "/claim/cut.py") 322] }),
   (119, fnO 17 (Str.ofString "check_bottom") (Str.ofString "cas.zdiv") 315 118 rfl),
   (125, { cls := .type "code", data := .fields #[.str (Str.ofString "pseudo") 324, .str (Str.ofString "pseudo") 325, .str (Str.ofString "/claim/cut.py") 326, .int 52 0, .int 2 0, .int 0 0, .int 0 0, .int 3 0, .ref 120, .bool true, .int 181 0, .ref 121, .none, .ref 122, .ref 123, .ref 124, .int 337 0, .int 52 0, .str (Str.ofString "/claim/cut.py") 338] }),
   (126, fnO 18 (Str.ofString "pseudo") (Str.ofString "cas.zdiv") 315 125 rfl),
   (130, { cls := .type "code", data := .fields #[.str (Str.ofString "divided") 342, .str (Str.ofString "divided") 343, .str (Str.ofString "/claim/cut.py") 344, .int 64 0, .int 2 0, .int 0 0, .int 0 0, .int 3 0, .ref 127, .bool true, .int 181 0, .ref 128, .none, .none, .none, .ref 129, .int 345 0, .int 64 0, .str (Str.ofString "/claim/cut.py") 346] }),
   (131, fnO 20 (Str.ofString "divided") (Str.ofString "cas.resultants") 340 130 rfl),
   (135, { cls := .type "code", data := .fields #[.str (Str.ofString "full_rest") 348, .str (Str.ofString "full_rest") 349, .str (Str.ofString "/claim/cut.py") 350, .int 66 0, .int 2 0, .int 0 0, .int 0 0, .int 3 0, .ref 132, .bool true, .int 181 0, .ref 133, .none, .none, .none, .ref 134, .int 351 0, .int 66 0, .str (Str.ofString "/claim/cut.py") 352] }),
   (136, fnO 21 (Str.ofString "full_rest") (Str.ofString "cas.resultants") 340 135 rfl),
   (142, { cls := .type "code", data := .fields #[.str (Str.ofString "row_resultant") 354, .str (Str.ofString "row_resultant") 355, .str (Str.ofString "/claim/cut.py") 356, .int 70 0, .int 3 0, .int 0 0, .int 0 0, .int 3 0, .ref 137, .bool true, .int 181 0, .ref 138, .none, .ref 139, .ref 140, .ref 141, .int 365 0, .int 70 0, .str (Str.ofString "/claim/cut.py") 366] }),
   (143, fnO 22 (Str.ofString "row_resultant") (Str.ofString "cas.resultants") 340 142 rfl),
   (149, { cls := .type "code", data := .fields #[.str (Str.ofString "resultant") 368, .str (Str.ofString "resultant") 369, .str (Str.ofString "/claim/cut.py") 370, .int 85 0, .int 2 0, .int 0 0, .int 0 0, .int 3 0, .ref 144, .bool true, .int 181 0, .ref 145, .none, .ref 146, .ref 147, .ref 148, .int 377 0, .int 85 0, .str (Str.ofString "/claim/cut.py") 378] }),
   (150, fnO 23 (Str.ofString "resultant") (Str.ofString "cas.resultants") 340 149 rfl),
   (154, { cls := .type "code", data := .fields #[.str (Str.ofString "root_bound") 382, .str (Str.ofString "root_bound") 383, .str (Str.ofString "/claim/cut.py") 384, .int 96 0, .int 1 0, .int 0 0, .int 0 0, .int 3 0, .ref 151, .bool true, .int 181 0, .ref 152, .none, .none, .none, .ref 153, .int 385 0, .int 96 0, .str (Str.ofString "/claim/cut.py") 386] }),
   (155, fnO 25 (Str.ofString "root_bound") (Str.ofString "cas.sturm") 380 154 rfl),
   (159, { cls := .type "code", data := .fields #[.str (Str.ofString "first_differences") 390, .str (Str.ofString "first_differences") 391, .str (Str.ofString "/claim/cut.py") 392, .int 100 0, .int 1 0, .int 0 0, .int 0 0, .int 3 0, .ref 156, .bool true, .int 181 0, .ref 157, .none, .none, .none, .ref 158, .int 393 0, .int 100 0, .str (Str.ofString "/claim/cut.py") 394] }),
   (160, fnO 27 (Str.ofString "first_differences") (Str.ofString "cas.dispersion") 388 159 rfl),
   (166, { cls := .type "code", data := .fields #[.str (Str.ofString "zeros_on") 396, .str (Str.ofString "zeros_on") 397, .str (Str.ofString "/claim/cut.py") 398, .int 106 0, .int 2 0, .int 0 0, .int 0 0, .int 3 0, .ref 161, .bool true, .int 181 0, .ref 162, .none, .ref 163, .ref 164, .ref 165, .int 405 0, .int 106 0, .str (Str.ofString "/claim/cut.py") 406] }),
   (167, fnO 28 (Str.ofString "zeros_on") (Str.ofString "cas.dispersion") 388 166 rfl),
   (171, { cls := .type "code", data := .fields #[.str (Str.ofString "dispersions") 408, .str (Str.ofString "dispersions") 409, .str (Str.ofString "/claim/cut.py") 410, .int 114 0, .int 2 0, .int 0 0, .int 0 0, .int 3 0, .ref 168, .bool true, .int 181 0, .ref 169, .none, .none, .none, .ref 170, .int 411 0, .int 114 0, .str (Str.ofString "/claim/cut.py") 412] }),
   (172, fnO 29 (Str.ofString "dispersions") (Str.ofString "cas.dispersion") 388 171 rfl),
   (178, { cls := .type "code", data := .fields #[.str (Str.ofString "_law_take") 416, .str (Str.ofString "_law_take") 417, .str (Str.ofString "/claim/cut.py") 418, .int 121 0, .int 2 0, .int 0 0, .int 0 0, .int 3 0, .ref 173, .bool true, .int 181 0, .ref 174, .none, .ref 175, .ref 176, .ref 177, .int 422 0, .int 121 0, .str (Str.ofString "/claim/cut.py") 423] }),
   (179, fnO 31 (Str.ofString "_law_take") (Str.ofString "law_nn0264_01") 414 178 rfl),
   (183, { cls := .type "code", data := .fields #[.str (Str.ofString "_law_draws") 425, .str (Str.ofString "_law_draws") 426, .str (Str.ofString "/claim/cut.py") 427, .int 127 0, .int 1 0, .int 0 0, .int 0 0, .int 3 0, .ref 180, .bool true, .int 181 0, .ref 181, .none, .none, .none, .ref 182, .int 428 0, .int 127 0, .str (Str.ofString "/claim/cut.py") 429] }),
   (184, fnO 32 (Str.ofString "_law_draws") (Str.ofString "law_nn0264_01") 414 183 rfl),
   (190, { cls := .type "code", data := .fields #[.str (Str.ofString "_law_mul") 431, .str (Str.ofString "_law_mul") 432, .str (Str.ofString "/claim/cut.py") 433, .int 132 0, .int 2 0, .int 0 0, .int 0 0, .int 3 0, .ref 185, .bool true, .int 181 0, .ref 186, .none, .ref 187, .ref 188, .ref 189, .int 441 0, .int 132 0, .str (Str.ofString "/claim/cut.py") 442] }),
   (191, fnO 33 (Str.ofString "_law_mul") (Str.ofString "law_nn0264_01") 414 190 rfl),
   (197, { cls := .type "code", data := .fields #[.str (Str.ofString "_law_made") 444, .str (Str.ofString "_law_made") 445, .str (Str.ofString "/claim/cut.py") 446, .int 140 0, .int 1 0, .int 0 0, .int 0 0, .int 3 0, .ref 192, .bool true, .int 181 0, .ref 193, .none, .ref 194, .ref 195, .ref 196, .int 454 0, .int 140 0, .str (Str.ofString "/claim/cut.py") 455] }),
   (198, fnO 34 (Str.ofString "_law_made") (Str.ofString "law_nn0264_01") 414 197 rfl),
   (202, { cls := .type "code", data := .fields #[.str (Str.ofString "law") 457, .str (Str.ofString "law") 458, .str (Str.ofString "/claim/cut.py") 459, .int 152 0, .int 1 0, .int 0 0, .int 0 0, .int 3 0, .ref 199, .bool true, .int 181 0, .ref 200, .none, .none, .none, .ref 201, .int 460 0, .int 152 0, .str (Str.ofString "/claim/cut.py") 461] }),
   (203, fnO 35 (Str.ofString "law") (Str.ofString "law_nn0264_01") 414 202 rfl)]
noncomputable def view : Program := { PySem.Challenge.rw_nn0264_01.row.prog with main := { PySem.Challenge.rw_nn0264_01.row.prog.main with body := PySem.Challenge.rw_nn0264_01.row.prog.main.body.filter fun s => match s with | .Assign .. => false | _ => true } }
noncomputable abbrev hook : Hook := kHook heapK [3, 40, 41, 47, 48, 54, 55, 61, 62, 68, 69, 73, 74, 78, 79, 85, 86, 90, 91, 97, 98, 104, 105, 111, 112, 118, 119, 125, 126, 130, 131, 135, 136, 142, 143, 149, 150, 154, 155, 159, 160, 166, 167, 171, 172, 178, 179, 183, 184, 190, 191, 197, 198, 202, 203] (fun _ => by kernel_rfl)
set_option maxHeartbeats 8000000
theorem left_ok : LeftO PySem.Challenge.rw_nn0264_01.row.prog view [] (fun s => xlAt view [] s && recOk (RowW.records PySem.Challenge.rw_nn0264_01.row.toRowW) s) (Hook.obs hook) (Hook.val hook) 2336 := by
  intro w
  delta openEnds fencedOpening topFrom
  try rw [Fast.te14082659384304107361, Fast.te10274390034422433532, Fast.te14289696077712309145, Fast.te14364793385576792824, Fast.te1435165496053646825, Fast.te4187177175401517315]
  kernel_rfl
theorem said_ok : OpenLaw.wellSaid PySem.Challenge.rw_nn0264_01 = true := by
  try rw [Fast.te9446332074065402090]
  kernel_rfl
/-! ## Abstract values, the abstract heap, and how the machine's heap bears them -/
inductive MV where
  | none
  | bool (b : Bool)
  | int (i : Int)
  | ref (p : Nat)
  | ext (a : Addr)
  | str (x : Str)
inductive Cel where
  | list (vs : List MV)
  | tup (vs : List MV)
  | draws (g m : Int)
  | range (a b c : Int)
noncomputable abbrev MH := List Cel

noncomputable def VRel (r : List Addr) : MV → Value → Prop
  | .none, v => v = .none
  | .bool b, v => v = .bool b
  | .int i, v => ∃ t, v = .int i t
  | .ref p, v => ∃ a, r[p]? = some a ∧ v = .ref a
  | .ext a, v => v = .ref a
  | .str x, v => ∃ t, v = .str x t

inductive VRels (r : List Addr) : List MV → List Value → Prop
  | nil : VRels r [] []
  | cons {v rv vs rvs} : VRel r v rv → VRels r vs rvs → VRels r (v :: vs) (rv :: rvs)

theorem VRels.len {r vs rvs} (h : VRels r vs rvs) : vs.length = rvs.length := by
  induction h with
  | nil => rfl
  | cons _ _ ih => simp [ih]
theorem VRels.get {r vs rvs} (h : VRels r vs rvs) : ∀ {i : Nat} {v : MV}, vs[i]? = some v → ∃ rv, rvs[i]? = some rv ∧ VRel r v rv := by
  induction h with
  | nil => intro i v e; simp at e
  | cons h1 _ ih =>
    intro i v e
    cases i with
    | zero => simp at e; subst e; exact ⟨_, rfl, h1⟩
    | succ i => simp at e; simpa using ih e
theorem VRels.app {r vs rvs us rus} (h : VRels r vs rvs) (h' : VRels r us rus) : VRels r (vs ++ us) (rvs ++ rus) := by
  induction h with
  | nil => exact h'
  | cons h1 _ ih => exact .cons h1 ih
theorem VRels.one {r v rv} (h : VRel r v rv) : VRels r [v] [rv] := .cons h .nil
theorem VRels.set {r vs rvs v rv} (h : VRels r vs rvs) (hv : VRel r v rv) : ∀ i : Nat, VRels r (vs.set i v) (rvs.set i rv) := by
  induction h with
  | nil => intro i; exact .nil
  | cons h1 h2 ih =>
    intro i
    cases i with
    | zero => exact .cons hv h2
    | succ i => exact .cons h1 (ih i)
theorem VRels.take {r vs rvs} (h : VRels r vs rvs) : ∀ i : Nat, VRels r (vs.take i) (rvs.take i) := by
  induction h with
  | nil => intro i; simp; exact .nil
  | cons h1 _ ih =>
    intro i
    cases i with
    | zero => exact .nil
    | succ i => exact .cons h1 (ih i)
theorem VRels.rep {r v rv} (hv : VRel r v rv) : ∀ n : Nat, VRels r (List.replicate n v) (List.replicate n rv)
  | 0 => .nil
  | n + 1 => .cons hv (VRels.rep hv n)

theorem VRel.mono {r r' : List Addr} (h : r <+: r') : ∀ {v rv}, VRel r v rv → VRel r' v rv := by
  intro v rv hv
  cases v with
  | ref p =>
    obtain ⟨a, ha, rfl⟩ := hv
    obtain ⟨t, rfl⟩ := h
    refine ⟨a, ?_, rfl⟩
    have : p < r.length := by
      rcases Nat.lt_or_ge p r.length with q | q
      · exact q
      · rw [List.getElem?_eq_none q] at ha; cases ha
    rw [List.getElem?_append_left this]; exact ha
  | none => exact hv
  | bool b => exact hv
  | int i => exact hv
  | ext a => exact hv
  | str x => exact hv
theorem VRels.mono {r r' : List Addr} (h : r <+: r') {vs rvs} (x : VRels r vs rvs) : VRels r' vs rvs := by
  induction x with
  | nil => exact .nil
  | cons h1 _ ih => exact .cons (h1.mono h) ih

noncomputable def CAt (pr : Program) (w : World) (r : List Addr) (h : Heap) (a : Addr) : Cel → Prop
  | .list vs => ∃ rvs : List Value, h.PlainList a rvs.toArray ∧ VRels r vs rvs
  | .tup vs => ∃ rvs : List Value, IsTup h a rvs.toArray ∧ VRels r vs rvs
  | .draws g m => ∃ tg tm, h.DictOf (PySem.strKind pr w) a [(Str.ofString "great", .int g tg), (Str.ofString "mixed", .int m tm)]
  | .range x y z => ∃ t u v, IsRange h a x y z t u v

theorem CAt.keeps {pr : Program} {w : World} {r : List Addr} {h h' : Heap} {a : Addr} {c : Cel} (x : CAt pr w r h a c) (hk : ∀ o, h.get? a = some o → h'.get? a = some o) : CAt pr w r h' a c := by
  cases c with
  | list vs => obtain ⟨rvs, hp, hv⟩ := x; exact ⟨rvs, hp.at hk, hv⟩
  | tup vs => obtain ⟨rvs, ⟨o, ho, q⟩, hv⟩ := x; exact ⟨rvs, ⟨o, hk _ ho, q⟩, hv⟩
  | draws g m => obtain ⟨t, u, ⟨o, es, ep, ho, q⟩⟩ := x; exact ⟨t, u, ⟨o, es, ep, hk _ ho, q⟩⟩
  | range x y z => obtain ⟨t, u, v, hr⟩ := x; exact ⟨t, u, v, hk _ hr⟩
theorem CAt.mono {pr : Program} {w : World} {r r' : List Addr} {h : Heap} {a : Addr} {c : Cel} (x : CAt pr w r h a c) (hr : r <+: r') : CAt pr w r' h a c := by
  cases c with
  | list vs => obtain ⟨rvs, hp, hv⟩ := x; exact ⟨rvs, hp, hv.mono hr⟩
  | tup vs => obtain ⟨rvs, hp, hv⟩ := x; exact ⟨rvs, hp, hv.mono hr⟩
  | draws g m => exact x
  | range x y z => exact x
theorem CAt.some {pr : Program} {w : World} {r : List Addr} {h : Heap} {a : Addr} {c : Cel} (x : CAt pr w r h a c) : ∃ o, h.get? a = some o := by
  cases c with
  | list vs => obtain ⟨rvs, ⟨n, hp⟩, hv⟩ := x; exact ⟨_, hp⟩
  | tup vs => obtain ⟨rvs, ⟨o, ho, q⟩, hv⟩ := x; exact ⟨_, ho⟩
  | draws g m => obtain ⟨t, u, ⟨o, es, ep, ho, q⟩⟩ := x; exact ⟨_, ho⟩
  | range x y z => obtain ⟨t, u, v, hr⟩ := x; exact ⟨_, hr⟩

structure Led (pr : Program) (w : World) (base : Heap) (r : List Addr) (H : MH) (h : Heap) : Prop where
  sub : ∀ b o, base.get? b = some o → h.get? b = some o
  len : r.length = H.length
  nd : r.Nodup
  off : ∀ a ∈ r, base.get? a = none
  bear : ∀ (p : Nat) (c : Cel), H[p]? = some c → ∃ a, r[p]? = some a ∧ CAt pr w r h a c

/-- how a step grows the heap: what is not of the ledger stands -/
structure Gr (r : List Addr) (h : Heap) (r' : List Addr) (h' : Heap) : Prop where
  pre : r <+: r'
  keep : ∀ b o, h.get? b = some o → b ∉ r → h'.get? b = some o
  new : ∀ a ∈ r', a ∈ r ∨ h.get? a = none

theorem Gr.refl (r : List Addr) (h : Heap) : Gr r h r h := ⟨List.prefix_refl _, fun _ _ e _ => e, fun _ h => .inl h⟩
theorem Gr.off {r r' : List Addr} {h h' : Heap} (g : Gr r h r' h') {b : Addr} {o : Obj} (e : h.get? b = some o) (hb : b ∉ r) : b ∉ r' := fun hm => by
  rcases g.new b hm with q | q
  · exact hb q
  · rw [e] at q; cases q
theorem Gr.trans {r r₁ r₂ : List Addr} {h h₁ h₂ : Heap} (g : Gr r h r₁ h₁) (g' : Gr r₁ h₁ r₂ h₂) : Gr r h r₂ h₂ where
  pre := g.pre.trans g'.pre
  keep := fun b o e hb => g'.keep b o (g.keep b o e hb) (g.off e hb)
  new := fun a ha => by
    rcases g'.new a ha with q | q
    · exact g.new a q
    · cases e : h.get? a with
      | none => exact .inr rfl
      | some o =>
        by_cases hm : a ∈ r
        · exact .inl hm
        · rw [g.keep a o e hm] at q; cases q

section led
variable {pr : Program} {w : World} {base : Heap} {r : List Addr} {H : MH} {h h' : Heap}

theorem Led.get (x : Led pr w base r H h) {p : Nat} {c : Cel} (e : H[p]? = some c) {rv : Value} (hv : VRel r (.ref p) rv) : ∃ a, rv = .ref a ∧ r[p]? = some a ∧ CAt pr w r h a c := by
  obtain ⟨a, ha, hc⟩ := x.bear p c e
  obtain ⟨a', ha', rfl⟩ := hv
  rw [ha] at ha'; cases ha'
  exact ⟨a, rfl, ha, hc⟩

/-- the heap grew or turned off the ledger -/
theorem Led.keeps (x : Led pr w base r H h) (hk : ∀ b o, h.get? b = some o → h'.get? b = some o) : Led pr w base r H h' :=
  ⟨fun b o e => hk b o (x.sub b o e), x.len, x.nd, x.off, fun p c e => let ⟨a, ha, hc⟩ := x.bear p c e; ⟨a, ha, hc.keeps fun o e => hk a o e⟩⟩
theorem Gr.ofKeeps (r : List Addr) (hk : ∀ b o, h.get? b = some o → h'.get? b = some o) : Gr r h r h' := ⟨List.prefix_refl _, fun b o e _ => hk b o e, fun _ h => .inl h⟩

/-- a new object onto the ledger -/
theorem Led.add (x : Led pr w base r H h) (hk : ∀ b o, h.get? b = some o → h'.get? b = some o) {a : Addr} (ha : h.get? a = none) {c : Cel} (hc : CAt pr w (r ++ [a]) h' a c) :
    Led pr w base (r ++ [a]) (H ++ [c]) h' ∧ Gr r h (r ++ [a]) h' ∧ VRel (r ++ [a]) (.ref H.length) (.ref a) := by
  have hn : a ∉ r := fun hm => by
    obtain ⟨p, hp, e⟩ := List.getElem_of_mem hm
    have hp' : p < H.length := x.len ▸ hp
    obtain ⟨b, hb, hc⟩ := x.bear p H[p] (by simp [hp'])
    obtain ⟨o, ho⟩ := hc.some
    have : b = a := by
      have e2 : r[p]? = some a := by rw [List.getElem?_eq_getElem hp, e]
      rw [e2] at hb; cases hb; rfl
    rw [this, ha] at ho; cases ho
  refine ⟨⟨fun b o e => hk b o (x.sub b o e), by simp [x.len], ?_, ?_, ?_⟩, ⟨⟨[a], rfl⟩, fun b o e _ => hk b o e, ?_⟩, ?_⟩
  · rw [List.nodup_append]
    exact ⟨x.nd, by simp, fun b hb c hc => by rw [List.mem_singleton.mp hc]; rintro rfl; exact hn hb⟩
  · intro b hb
    rcases List.mem_append.mp hb with q | q
    · exact x.off b q
    · rw [List.mem_singleton.mp q]
      cases e : base.get? a with
      | none => rfl
      | some o => rw [x.sub _ _ e] at ha; cases ha
  · intro p c' e
    rcases Nat.lt_trichotomy p H.length with q | q | q
    · rw [List.getElem?_append_left q] at e
      obtain ⟨b, hb, hc'⟩ := x.bear p c' e
      exact ⟨b, by rw [List.getElem?_append_left (x.len ▸ q)]; exact hb, (hc'.keeps fun o e => hk b o e).mono ⟨[a], rfl⟩⟩
    · subst q
      rw [List.getElem?_append_right (Nat.le_refl _)] at e
      simp at e
      subst e
      exact ⟨a, by rw [List.getElem?_append_right (by rw [x.len]; exact Nat.le_refl _), x.len]; simp, hc⟩
    · rw [List.getElem?_append_right (Nat.le_of_lt q), List.getElem?_eq_none (by simp; omega)] at e; cases e
  · intro b hb
    rcases List.mem_append.mp hb with q | q
    · exact .inl q
    · rw [List.mem_singleton.mp q]; exact .inr ha
  · exact ⟨a, by rw [List.getElem?_append_right (by rw [x.len]; exact Nat.le_refl _), x.len]; simp, rfl⟩

/-- an object of the ledger changed in place -/
theorem Led.upd (x : Led pr w base r H h) {p : Nat} {a : Addr} (ha : r[p]? = some a) (hs : Heap.SameBut a h h') {c : Cel} (hc : CAt pr w r h' a c) :
    Led pr w base r (H.set p c) h' ∧ Gr r h r h' := by
  have hm : a ∈ r := List.mem_of_getElem? ha
  refine ⟨⟨fun b o e => ?_, by simp [x.len], x.nd, x.off, ?_⟩, ⟨List.prefix_refl _, fun b o e hb => (hs.2 b (fun q => hb (q ▸ hm))).trans e, fun _ h => .inl h⟩⟩
  · refine (hs.2 b fun q => ?_).trans (x.sub b o e)
    have := x.off a hm
    rw [← q, e] at this; cases this
  · intro q c' e
    by_cases hq : q = p
    · subst hq
      have hlt : q < H.length := by
        rcases Nat.lt_or_ge q H.length with z | z
        · exact z
        · rw [List.getElem?_eq_none (by simpa using z)] at e; cases e
      rw [List.getElem?_set_self hlt] at e
      cases e
      exact ⟨a, ha, hc⟩
    · rw [List.getElem?_set_ne (Ne.symm hq)] at e
      obtain ⟨b, hb, hc'⟩ := x.bear q c' e
      refine ⟨b, hb, hc'.keeps fun o e => ?_⟩
      refine (hs.2 b fun z => ?_).trans e
      subst z
      have hq1 : q < r.length := by
        rcases Nat.lt_or_ge q r.length with z | z
        · exact z
        · rw [List.getElem?_eq_none z] at hb; cases hb
      have hp1 : p < r.length := by
        rcases Nat.lt_or_ge p r.length with z | z
        · exact z
        · rw [List.getElem?_eq_none z] at ha; cases ha
      exact hq ((List.getElem_inj x.nd (h₀ := hq1) (h₁ := hp1)).mp (by
        rw [List.getElem?_eq_getElem hq1] at hb; rw [List.getElem?_eq_getElem hp1] at ha
        exact (Option.some.inj hb).trans (Option.some.inj ha).symm))

/-- an object off the ledger and off the base changed in place -/
theorem Led.other (x : Led pr w base r H h) {a : Addr} (hb : base.get? a = none) (ha : a ∉ r) (hs : Heap.SameBut a h h') : Led pr w base r H h' := by
  refine ⟨fun b o e => (hs.2 b fun q => ?_).trans (x.sub b o e), x.len, x.nd, x.off, fun p c e => ?_⟩
  · rw [← q, e] at hb; cases hb
  · obtain ⟨b, hb', hc⟩ := x.bear p c e
    exact ⟨b, hb', hc.keeps fun o e => (hs.2 b fun q => ha (q ▸ List.mem_of_getElem? hb')).trans e⟩
end led
structure Cx where
  pr : Program
  w : World
  K : Frag
  sa : Addr
  sn : List Int

structure Room (A : Around) (n : Nat) : Prop where
  hd : A.handled = none
  dp : A.depth + n + 4 < recursionLimit
  un : A.units + 8 * n + 200 < cLine


structure BF (C : Cx) (base : Heap) : Prop where
  kin : C.K.In base
  sc : ∃ rvs : List Value, base.IsList C.sa rvs.toArray ∧ IntsAre rvs C.sn
  nl : base.NoLimit
  g : ∃ mg, base.Ns mainGlobals mg
  b : ∃ mb, base.Ns builtinsNs mb ∧ ∀ x, x ≠ Str.ofString "__name__" → mb x = bootBuiltins x

theorem BF.keeps {C : Cx} {b b' : Heap} (h : BF C b) (hk : ∀ a o, b.get? a = some o → b'.get? a = some o) : BF C b' :=
  ⟨fun a o e => hk a o (h.kin a o e), let ⟨v, q, r⟩ := h.sc; ⟨v, q.at fun o e => hk _ o e, r⟩, h.nl.keeps hk, let ⟨m, q⟩ := h.g; ⟨m, q.keeps hk⟩, let ⟨m, q, r⟩ := h.b; ⟨m, q.keeps hk, r⟩⟩

structure Ev where
  env : Env
  cell : Str → Option Addr
structure Dn where
  ns : List Str
  cs : List Str
  gs : List Str

structure EvOK (C : Cx) (V : Ev) (D : Dn) (base : Heap) : Prop where
  bf : BF C base
  kind : V.env.scope.kind = .function
  glob : V.env.globals = mainGlobals
  blt : V.env.builtins = builtinsNs
  nd : D.ns.Nodup
  isl : ∀ x ∈ D.ns, x ∉ D.cs → V.cell x = none
  isc : ∀ x ∈ D.cs, ∃ c, V.cell x = some c
  csn : ∀ x ∈ D.cs, x ∈ D.ns
  loc : ∀ x ∈ D.ns, V.cell x = none → V.env.kindOf x = some .local
  cel : ∀ x ∈ D.ns, ∀ c, V.cell x = some c → V.env.kindOf x = some .cell ∧ V.env.cells.lookup x = some c
  gl : ∀ x ∈ D.gs, V.env.kindOf x = some .globalImplicit
  apart : ∀ x ∈ D.ns, ∀ c, V.cell x = some c → c ≠ V.env.locals
  inj : ∀ x ∈ D.ns, ∀ y ∈ D.ns, ∀ c, V.cell x = some c → V.cell y = some c → x = y
  bl : base.get? V.env.locals = none
  bc : ∀ x ∈ D.ns, ∀ c, V.cell x = some c → base.get? c = none

noncomputable abbrev Locs := List (Option MV)

structure Rep (C : Cx) (V : Ev) (base : Heap) (ns : List Str) (loc : Locs) (H : MH) (r : List Addr) (h : Heap) : Prop where
  led : Led C.pr C.w base r H h
  lcl : ∃ m, h.Ns V.env.locals m ∧ ∀ (i : Nat) (x : Str) (v : MV), ns[i]? = some x → loc[i]? = some (some v) → V.cell x = none → ∃ rv, m x = some rv ∧ VRel r v rv
  cel : ∀ (i : Nat) (x : Str) (c : Addr), ns[i]? = some x → V.cell x = some c → ∃ ov, h.IsCell c ov ∧ ∀ v, loc[i]? = some (some v) → ∃ rv, ov = some rv ∧ VRel r v rv
  offL : V.env.locals ∉ r
  offC : ∀ x ∈ ns, ∀ c, V.cell x = some c → c ∉ r

theorem Rep.grow {C : Cx} {V : Ev} {base : Heap} {ns : List Str} {loc : Locs} {H H' : MH} {r r' : List Addr} {h h' : Heap} (x : Rep C V base ns loc H r h) (l : Led C.pr C.w base r' H' h') (g : Gr r h r' h') : Rep C V base ns loc H' r' h' where
  led := l
  lcl := by
    obtain ⟨m, ⟨o, es, ep, ho, q⟩, hm⟩ := x.lcl
    refine ⟨m, ⟨o, es, ep, g.keep _ _ ho x.offL, q⟩, fun i y v h1 h2 h3 => ?_⟩
    obtain ⟨rv, e, hv⟩ := hm i y v h1 h2 h3
    exact ⟨rv, e, hv.mono g.pre⟩
  cel := fun i y c h1 h2 => by
    obtain ⟨ov, ⟨o, ho, hd⟩, hv⟩ := x.cel i y c h1 h2
    refine ⟨ov, ⟨o, g.keep _ _ ho (x.offC y (List.mem_of_getElem? h1) c h2), hd⟩, fun v e => ?_⟩
    obtain ⟨rv, e1, e2⟩ := hv v e
    exact ⟨rv, e1, e2.mono g.pre⟩
  offL := by
    obtain ⟨m, ⟨o, es, ep, ho, q⟩, hm⟩ := x.lcl
    exact g.off ho x.offL
  offC := fun y hy c hc => by
    obtain ⟨i, hi, e⟩ := List.getElem_of_mem hy
    obtain ⟨ov, ⟨o, ho, hd⟩, hv⟩ := x.cel i y c (by rw [List.getElem?_eq_getElem hi, e]) hc
    exact g.off ho (x.offC y hy c hc)

/-- what an expression's end hands on -/
noncomputable def Ends (C : Cx) (base : Heap) (r : List Addr) (s : Shared) (Q : MV → MH → Prop) (Qr : Value → Shared → Prop) : Prop :=
  ∀ v H' rv r' h' tk, Q v H' → VRel r' v rv → Led C.pr C.w base r' H' h' → Gr r s.heap r' h' → Qr rv { s with heap := h', toks := tk }
noncomputable def EndsB (C : Cx) (base : Heap) (r : List Addr) (s : Shared) (Q : Bool → MH → Prop) (Qr : Bool → Shared → Prop) : Prop :=
  ∀ v H' r' h' tk, Q v H' → Led C.pr C.w base r' H' h' → Gr r s.heap r' h' → Qr v { s with heap := h', toks := tk }
noncomputable abbrev NoE : Value → Shared → Prop := fun _ _ => False

noncomputable def EV (C : Cx) (V : Ev) (D : Dn) (n : Nat) (e : Expr) (loc : Locs) (H : MH) (Q : MV → MH → Prop) : Prop :=
  ∀ (base : Heap) (A : Around) (s : Shared) (r : List Addr) (Qr : Value → Shared → Prop), Room A n → EvOK C V D base → Rep C V base D.ns loc H r s.heap → Ends C base r s Q Qr →
    wpAny (model C.pr C.w) A (eval e V.env) Qr NoE s
noncomputable def TT (C : Cx) (V : Ev) (D : Dn) (n : Nat) (e : Expr) (loc : Locs) (H : MH) (Q : Bool → MH → Prop) : Prop :=
  ∀ (base : Heap) (A : Around) (s : Shared) (r : List Addr) (Qr : Bool → Shared → Prop), Room A n → EvOK C V D base → Rep C V base D.ns loc H r s.heap → EndsB C base r s Q Qr →
    wpAny (model C.pr C.w) A (isTrue e V.env (eval e V.env)) Qr NoE s
/-- a call of a value on arguments -/
noncomputable def FN (C : Cx) (f : Value) (n : Nat) (vs : List MV) (H : MH) (Q : MV → MH → Prop) : Prop :=
  ∀ (A : Around) (s : Shared) (r : List Addr) (base : Heap) (rvs : List Value) (Qr : Value → Shared → Prop), Room A n → BF C base → Led C.pr C.w base r H s.heap → VRels r vs rvs → Ends C base r s Q Qr →
    wpAny (model C.pr C.w) A (call f rvs) Qr NoE s
noncomputable def BO (C : Cx) (n : Nat) (t : Value → Value → Sem Value) (a b : MV) (H : MH) (Q : MV → MH → Prop) : Prop :=
  ∀ (A : Around) (s : Shared) (r : List Addr) (base : Heap) (ra rb : Value) (Qr : Value → Shared → Prop), Room A n → BF C base → Led C.pr C.w base r H s.heap → VRel r a ra → VRel r b rb → Ends C base r s Q Qr →
    wpAny (model C.pr C.w) A (t ra rb) Qr NoE s
noncomputable def UO (C : Cx) (n : Nat) (t : Value → Sem Value) (a : MV) (H : MH) (Q : MV → MH → Prop) : Prop :=
  ∀ (A : Around) (s : Shared) (r : List Addr) (base : Heap) (ra : Value) (Qr : Value → Shared → Prop), Room A n → BF C base → Led C.pr C.w base r H s.heap → VRel r a ra → Ends C base r s Q Qr →
    wpAny (model C.pr C.w) A (t ra) Qr NoE s
noncomputable def TV (C : Cx) (n : Nat) (a : MV) (H : MH) (Q : Bool → MH → Prop) : Prop :=
  ∀ (A : Around) (s : Shared) (r : List Addr) (base : Heap) (ra : Value) (Qr : Bool → Shared → Prop), Room A n → BF C base → Led C.pr C.w base r H s.heap → VRel r a ra → EndsB C base r s Q Qr →
    wpAny (model C.pr C.w) A (truthy ra) Qr NoE s

theorem Ends.trans {C : Cx} {base : Heap} {r r₁ : List Addr} {s : Shared} {h₁ : Heap} {tk : Nat} {Q : MV → MH → Prop} {Qr : Value → Shared → Prop} (x : Ends C base r s Q Qr) (g : Gr r s.heap r₁ h₁) : Ends C base r₁ { s with heap := h₁, toks := tk } Q Qr :=
  fun v H' rv r' h' tk' q hv l g' => x v H' rv r' h' tk' q hv l (g.trans g')
theorem EndsB.trans {C : Cx} {base : Heap} {r r₁ : List Addr} {s : Shared} {h₁ : Heap} {tk : Nat} {Q : Bool → MH → Prop} {Qr : Bool → Shared → Prop} (x : EndsB C base r s Q Qr) (g : Gr r s.heap r₁ h₁) : EndsB C base r₁ { s with heap := h₁, toks := tk } Q Qr :=
  fun v H' r' h' tk' q l g' => x v H' r' h' tk' q l (g.trans g')
theorem Ends.now {C : Cx} {base : Heap} {r : List Addr} {s : Shared} {H : MH} {Q : MV → MH → Prop} {Qr : Value → Shared → Prop} (x : Ends C base r s Q Qr) {v : MV} {rv : Value} (q : Q v H) (hv : VRel r v rv) (l : Led C.pr C.w base r H s.heap) (tk : Nat) : Qr rv { s with toks := tk } :=
  x v H rv r s.heap tk q hv l (.refl _ _)

inductive Rd : List Str → Locs → Str → MV → Prop
  | head {x : Str} {ns : List Str} {v : MV} {ls : Locs} : Rd (x :: ns) (some v :: ls) x v
  | tail {x y : Str} {ns : List Str} {v : MV} {l : Option MV} {ls : Locs} : Rd ns ls x v → Rd (y :: ns) (l :: ls) x v
theorem Rd.ix {ns : List Str} {ls : Locs} {x : Str} {v : MV} (h : Rd ns ls x v) : ∃ i : Nat, ns[i]? = some x ∧ ls[i]? = some (some v) := by
  induction h with
  | head => exact ⟨0, rfl, rfl⟩
  | tail _ ih => obtain ⟨i, a, b⟩ := ih; exact ⟨i + 1, a, b⟩
inductive Wr : List Str → Locs → Str → MV → Locs → Prop
  | head {x : Str} {ns : List Str} {v : MV} {l : Option MV} {ls : Locs} : Wr (x :: ns) (l :: ls) x v (some v :: ls)
  | tail {x y : Str} {ns : List Str} {v : MV} {l : Option MV} {ls ls' : Locs} : Wr ns ls x v ls' → Wr (y :: ns) (l :: ls) x v (l :: ls')
theorem Wr.ix {ns : List Str} {ls ls' : Locs} {x : Str} {v : MV} (h : Wr ns ls x v ls') : ∃ i : Nat, ns[i]? = some x ∧ i < ls.length ∧ ls' = ls.set i (some v) := by
  induction h with
  | head => exact ⟨0, rfl, by simp, rfl⟩
  | tail _ ih => obtain ⟨i, a, b, c⟩ := ih; exact ⟨i + 1, a, by simpa using b, by rw [c]; rfl⟩

section rules
variable {C : Cx} {V : Ev} {D : Dn} {n : Nat} {loc : Locs} {H : MH} {Q : MV → MH → Prop} {QB : Bool → MH → Prop}

theorem EV.mono {e : Expr} {Q' : MV → MH → Prop} (h : EV C V D n e loc H Q') (hq : ∀ v H', Q' v H' → Q v H') : EV C V D n e loc H Q :=
  fun base A s r Qr hR hE hP hQ => h base A s r Qr hR hE hP fun v H' rv r' h' tk q => hQ v H' rv r' h' tk (hq v H' q)

theorem EV.int {i : Int} {k : Nat} {pos : Pos} (h : Q (.int i) H) : EV C V D n (.Constant (.int i) k pos) loc H Q :=
  fun _ _ s _ _ _ _ hP hQ => wpAny_Constant_int (hQ.now h ⟨_, rfl⟩ hP.led _)
theorem EV.cstr {i : Str} {k : Nat} {pos : Pos} (h : Q (.str i) H) : EV C V D n (.Constant (.str i) k pos) loc H Q :=
  fun _ _ s _ _ _ _ hP hQ => wpAny_mkText (hQ.now h ⟨_, rfl⟩ hP.led _)
theorem EV.cbool {i : Bool} {k : Nat} {pos : Pos} (h : Q (.bool i) H) : EV C V D n (.Constant (.bool i) k pos) loc H Q :=
  fun _ _ s _ _ _ _ hP hQ => Constant_bool (hQ.now h rfl hP.led s.toks)
theorem EV.cnone {k : Nat} {pos : Pos} (h : Q .none H) : EV C V D n (.Constant .none k pos) loc H Q :=
  fun _ _ s _ _ _ _ hP hQ => Constant_none (hQ.now h rfl hP.led s.toks)

theorem EV.name {x : Str} {pos : Pos} {v : MV} (h : Rd D.ns loc x v) (hq : Q v H) (hd : (x == ("__debug__" : Str)) = false := by decide) :
    EV C V D n (.Name x pos) loc H Q := by
  intro base A s r Qr hR hE hP hQ
  obtain ⟨i, hi, hl⟩ := h.ix
  have hm : x ∈ D.ns := List.mem_of_getElem? hi
  refine wpAny_Name ?_ hd
  cases e : V.cell x with
  | none =>
    obtain ⟨m, hn, hv⟩ := hP.lcl
    obtain ⟨rv, e1, e2⟩ := hv i x v hi hl e
    exact wpAny_loadName_local hE.kind (hE.loc x hm e) hn e1 (hQ.now hq e2 hP.led s.toks)
  | some c =>
    obtain ⟨ov, hc', hv⟩ := hP.cel i x c hi e
    obtain ⟨rv, rfl, e2⟩ := hv v hl
    obtain ⟨k1, k2⟩ := hE.cel x hm c e
    exact wpAny_loadName_cell hE.kind k1 k2 hc' (hQ.now hq e2 hP.led s.toks)

theorem EV.bin {l e : Expr} {op : Operator} {pos : Pos} (h : EV C V D n l loc H fun a H₁ => EV C V D n e loc H₁ fun b H₂ => BO C n (binaryOp op) a b H₂ Q) :
    EV C V D n (.BinOp l op e pos) loc H Q := by
  intro base A s r Qr hR hE hP hQ
  refine wpAny_BinOp (h base A s r _ hR hE hP fun a H₁ ra r₁ h₁ tk₁ q₁ v₁ l₁ g₁ => ?_)
  refine q₁ base A _ r₁ _ hR hE (hP.grow l₁ g₁) fun b H₂ rb r₂ h₂ tk₂ q₂ v₂ l₂ g₂ => ?_
  exact q₂ A _ r₂ _ ra rb _ hR hE.bf l₂ (v₁.mono g₂.pre) v₂ (hQ.trans (g₁.trans g₂))
theorem EV.cmp {l e : Expr} {op : CmpOp} {pos : Pos} (h : EV C V D n l loc H fun a H₁ => EV C V D n e loc H₁ fun b H₂ => BO C n (compareOp op) a b H₂ Q) (hm : behindInMarks op e = false := by rfl) :
    EV C V D n (.Compare l [op] [e] pos) loc H Q := by
  intro base A s r Qr hR hE hP hQ
  refine wpAny_Compare1 (hm := hm) (h base A s r _ hR hE hP fun a H₁ ra r₁ h₁ tk₁ q₁ v₁ l₁ g₁ => ?_)
  refine q₁ base A _ r₁ _ hR hE (hP.grow l₁ g₁) fun b H₂ rb r₂ h₂ tk₂ q₂ v₂ l₂ g₂ => ?_
  exact q₂ A _ r₂ _ ra rb _ hR hE.bf l₂ (v₁.mono g₂.pre) v₂ (hQ.trans (g₁.trans g₂))
theorem EV.un {e : Expr} {op : UnaryOp} {pos : Pos} (h : EV C V D n e loc H fun a H₁ => UO C n (unaryOp op) a H₁ Q) : EV C V D n (.UnaryOp op e pos) loc H Q := by
  intro base A s r Qr hR hE hP hQ
  refine UnaryOp_ (h base A s r _ hR hE hP fun a H₁ ra r₁ h₁ tk₁ q₁ v₁ l₁ g₁ => ?_)
  exact q₁ A _ r₁ _ ra _ hR hE.bf l₁ v₁ (hQ.trans g₁)
theorem EV.ite {t b o : Expr} {pos : Pos} (h : TT C V D n t loc H fun c H₁ => if c then EV C V D n b loc H₁ Q else EV C V D n o loc H₁ Q) : EV C V D n (.IfExp t b o pos) loc H Q := by
  intro base A s r Qr hR hE hP hQ
  refine IfExp_ (h base A s r _ hR hE hP fun c H₁ r₁ h₁ tk₁ q₁ l₁ g₁ => ?_)
  cases c
  · exact q₁ base A _ r₁ _ hR hE (hP.grow l₁ g₁) (hQ.trans g₁)
  · exact q₁ base A _ r₁ _ hR hE (hP.grow l₁ g₁) (hQ.trans g₁)
theorem EV.and1 {e₁ : Expr} {pos : Pos} (h : EV C V D n e₁ loc H Q) : EV C V D n (.BoolOp .And [e₁] pos) loc H Q := h
theorem EV.and {e₁ e₂ : Expr} {rest : List Expr} {pos : Pos} (h : EV C V D n e₁ loc H fun v H₁ => TV C n v H₁ fun c H₂ => if c then EV C V D n (.BoolOp .And (e₂ :: rest) pos) loc H₂ Q else Q v H₂) :
    EV C V D n (.BoolOp .And (e₁ :: e₂ :: rest) pos) loc H Q := by
  intro base A s r Qr hR hE hP hQ
  refine BoolOp_and (h base A s r _ hR hE hP fun a H₁ ra r₁ h₁ tk₁ q₁ v₁ l₁ g₁ => ?_)
  refine q₁ A _ r₁ _ ra _ hR hE.bf l₁ v₁ fun c H₂ r₂ h₂ tk₂ q₂ l₂ g₂ => ?_
  cases c
  · exact hQ _ _ _ _ _ _ q₂ (v₁.mono g₂.pre) l₂ (g₁.trans g₂)
  · exact q₂ base A _ r₂ _ hR hE ((hP.grow l₁ g₁).grow l₂ g₂) (hQ.trans (g₁.trans g₂))

theorem TT.cmp {l e : Expr} {op : CmpOp} {pos : Pos} (h : EV C V D n l loc H fun a H₁ => EV C V D n e loc H₁ fun b H₂ => BO C n (compareOp op) a b H₂ fun c H₃ => TV C n c H₃ QB) (hm : behindInMarks op e = false := by rfl) :
    TT C V D n (.Compare l [op] [e] pos) loc H QB := by
  intro base A s r Qr hR hE hP hQ
  refine wpAny_isTrue_Compare1 (hm := hm) (h base A s r _ hR hE hP fun a H₁ ra r₁ h₁ tk₁ q₁ v₁ l₁ g₁ => ?_)
  refine q₁ base A _ r₁ _ hR hE (hP.grow l₁ g₁) fun b H₂ rb r₂ h₂ tk₂ q₂ v₂ l₂ g₂ => ?_
  refine q₂ A _ r₂ _ ra rb _ hR hE.bf l₂ (v₁.mono g₂.pre) v₂ fun c H₃ rc r₃ h₃ tk₃ q₃ v₃ l₃ g₃ => ?_
  exact q₃ A _ r₃ _ rc _ hR hE.bf l₃ v₃ (hQ.trans (g₁.trans (g₂.trans g₃)))
theorem TT.and0 {pos : Pos} (h : QB true H) : TT C V D n (.BoolOp .And [] pos) loc H QB :=
  fun _ _ s _ _ _ _ hP hQ => isTrue_and_nil (hQ _ _ _ _ s.toks h hP.led (.refl _ _))
theorem TT.and {e₁ : Expr} {rest : List Expr} {pos : Pos} (h : TT C V D n e₁ loc H fun c H₁ => if c then TT C V D n (.BoolOp .And rest pos) loc H₁ QB else QB false H₁) : TT C V D n (.BoolOp .And (e₁ :: rest) pos) loc H QB := by
  intro base A s r Qr hR hE hP hQ
  refine isTrue_and (h base A s r _ hR hE hP fun c H₁ r₁ h₁ tk₁ q₁ l₁ g₁ => ?_)
  cases c
  · exact hQ _ _ _ _ _ q₁ l₁ g₁
  · exact q₁ base A _ r₁ _ hR hE (hP.grow l₁ g₁) (hQ.trans g₁)
theorem TT.or0 {pos : Pos} (h : QB false H) : TT C V D n (.BoolOp .Or [] pos) loc H QB :=
  fun _ _ s _ _ _ _ hP hQ => isTrue_or_nil (hQ _ _ _ _ s.toks h hP.led (.refl _ _))
theorem TT.or {e₁ : Expr} {rest : List Expr} {pos : Pos} (h : TT C V D n e₁ loc H fun c H₁ => if c then QB true H₁ else TT C V D n (.BoolOp .Or rest pos) loc H₁ QB) : TT C V D n (.BoolOp .Or (e₁ :: rest) pos) loc H QB := by
  intro base A s r Qr hR hE hP hQ
  refine isTrue_or (h base A s r _ hR hE hP fun c H₁ r₁ h₁ tk₁ q₁ l₁ g₁ => ?_)
  cases c
  · exact q₁ base A _ r₁ _ hR hE (hP.grow l₁ g₁) (hQ.trans g₁)
  · exact hQ _ _ _ _ _ q₁ l₁ g₁

theorem TV.bool {b : Bool} (h : QB b H) : TV C n (.bool b) H QB := by
  rintro A s r base ra Qr hR hB hL rfl hQ
  exact wpAny_truthy_bool (hQ _ _ _ _ s.toks h hL (.refl _ _))

/-! integers -/
theorem BO.add {a b : Int} (h : Q (.int (a + b)) H) : BO C n (binaryOp .Add) (.int a) (.int b) H Q := by
  rintro A s r base ra rb Qr hR hB hL ⟨t, rfl⟩ ⟨u, rfl⟩ hQ
  exact PyProof.Rows.add_int (hQ.now h ⟨_, rfl⟩ hL _)
theorem BO.sub {a b : Int} (h : Q (.int (a - b)) H) : BO C n (binaryOp .Sub) (.int a) (.int b) H Q := by
  rintro A s r base ra rb Qr hR hB hL ⟨t, rfl⟩ ⟨u, rfl⟩ hQ
  exact PyProof.Rows.sub_int (hQ.now h ⟨_, rfl⟩ hL _)
theorem BO.mul {a b : Int} (hm : IntMulOk a b) (h : Q (.int (a * b)) H) : BO C n (binaryOp .Mult) (.int a) (.int b) H Q := by
  rintro A s r base ra rb Qr hR hB hL ⟨t, rfl⟩ ⟨u, rfl⟩ hQ
  exact PyProof.Rows.mul_int (hQ.now h ⟨_, rfl⟩ hL _) hm
theorem BO.pow {a b : Int} (h0 : 0 ≤ b) (hm : (Builtin.Int.intBits a : Int) * b ≤ 2 ^ 27) (h : Q (.int (a ^ b.toNat)) H) : BO C n (binaryOp .Pow) (.int a) (.int b) H Q := by
  rintro A s r base ra rb Qr hR hB hL ⟨t, rfl⟩ ⟨u, rfl⟩ hQ
  exact PyProof.Rows.pow_int h0 hm (hQ.now h ⟨_, rfl⟩ hL _)
end rules
theorem allInts_of {r : List Addr} : ∀ {ns : List Int} {rvs : List Value}, VRels r (ns.map .int) rvs → IntsAre rvs ns
  | [], _, .nil => .nil
  | n :: ns, _, .cons ⟨t, e⟩ h => by subst e; exact .cons n t (allInts_of h)
theorem ints_toks : ∀ {vs : List Value} {ns : List Int}, IntsAre vs ns → ∃ ys : List (Int × Tok), vs = ys.map (fun p => Value.int p.1 p.2) ∧ ys.map (·.1) = ns
  | _, _, .nil => ⟨[], rfl, rfl⟩
  | _, _, .cons n t h => by
    obtain ⟨ys, rfl, rfl⟩ := ints_toks h
    exact ⟨(n, t) :: ys, rfl, rfl⟩

noncomputable abbrev IL (xs : List Int) : Cel := .list (xs.map .int)

section rules
variable {C : Cx} {V : Ev} {D : Dn} {n : Nat} {loc : Locs} {H : MH} {Q : MV → MH → Prop} {QB : Bool → MH → Prop}

theorem BO.fdiv {a b : Int} (h0 : b ≠ 0) (hb : b.natAbs.log2 < 9000) (h : Q (.int (a.fdiv b)) H) : BO C n (binaryOp .FloorDiv) (.int a) (.int b) H Q := by
  rintro A s r base ra rb Qr hR hB hL ⟨t, rfl⟩ ⟨u, rfl⟩ hQ
  exact PyProof.Rows.floordiv_int h0 (hQ.now h ⟨_, rfl⟩ hL _) (.inl (PyProof.noPylong_of_log2 hb))
theorem BO.mod {a b : Int} (h0 : b ≠ 0) (h : Q (.int (a.fmod b)) H) : BO C n (binaryOp .Mod) (.int a) (.int b) H Q := by
  rintro A s r base ra rb Qr hR hB hL ⟨t, rfl⟩ ⟨u, rfl⟩ hQ
  exact PyProof.Rows.mod_int' h0 (hQ.now h ⟨_, rfl⟩ hL _)
theorem UO.neg {a : Int} (h : Q (.int (-a)) H) : UO C n (unaryOp .USub) (.int a) H Q := by
  rintro A s r base ra Qr hR hB hL ⟨t, rfl⟩ hQ
  exact PyProof.Rows.neg_int (hQ.now h ⟨_, rfl⟩ hL _)
theorem BO.eq {a b : Int} (h : Q (.bool (a == b)) H) : BO C n (compareOp .Eq) (.int a) (.int b) H Q := by
  rintro A s r base ra rb Qr hR hB hL ⟨t, rfl⟩ ⟨u, rfl⟩ hQ
  exact PySem.P.eq_int (hQ.now h rfl hL s.toks)
theorem BO.ne {a b : Int} (h : Q (.bool (a != b)) H) : BO C n (compareOp .NotEq) (.int a) (.int b) H Q := by
  rintro A s r base ra rb Qr hR hB hL ⟨t, rfl⟩ ⟨u, rfl⟩ hQ
  exact PySem.P.ne_int (hQ.now h rfl hL s.toks)
theorem BO.lt {a b : Int} (h : Q (.bool (decide (a < b))) H) : BO C n (compareOp .Lt) (.int a) (.int b) H Q := by
  rintro A s r base ra rb Qr hR hB hL ⟨t, rfl⟩ ⟨u, rfl⟩ hQ
  exact PySem.P.lt_int (hQ.now h rfl hL s.toks)
theorem BO.gt {a b : Int} (h : Q (.bool (decide (a > b))) H) : BO C n (compareOp .Gt) (.int a) (.int b) H Q := by
  rintro A s r base ra rb Qr hR hB hL ⟨t, rfl⟩ ⟨u, rfl⟩ hQ
  exact PySem.P.gt_int (hQ.now h rfl hL s.toks)
theorem BO.ge {a b : Int} (h : Q (.bool (decide (a ≥ b))) H) : BO C n (compareOp .GtE) (.int a) (.int b) H Q := by
  rintro A s r base ra rb Qr hR hB hL ⟨t, rfl⟩ ⟨u, rfl⟩ hQ
  exact PySem.P.ge_int (hQ.now h rfl hL s.toks)
theorem BO.iadd {a b : Int} (h : Q (.int (a + b)) H) : BO C n (inplaceOp .Add) (.int a) (.int b) H Q := by
  rintro A s r base ra rb Qr hR hB hL ⟨t, rfl⟩ ⟨u, rfl⟩ hQ
  exact PySem.P.iadd_int (hQ.now h ⟨_, rfl⟩ hL _)
theorem BO.isub {a b : Int} (h : Q (.int (a - b)) H) : BO C n (inplaceOp .Sub) (.int a) (.int b) H Q := by
  rintro A s r base ra rb Qr hR hB hL ⟨t, rfl⟩ ⟨u, rfl⟩ hQ
  exact PySem.P.isub_int (hQ.now h ⟨_, rfl⟩ hL _)

theorem BO.isNotI {a : Int} (h : Q (.bool true) H) : BO C n (compareOp .IsNot) (.int a) .none H Q := by
  rintro A s r base ra rb Qr hR hB hL ⟨t, rfl⟩ rfl hQ
  exact isnot_int_none (hQ.now h rfl hL s.toks)
theorem BO.isNotN (h : Q (.bool false) H) : BO C n (compareOp .IsNot) .none .none H Q := by
  rintro A s r base ra rb Qr hR hB hL rfl rfl hQ
  exact isnot_none_none (hQ.now h rfl hL s.toks)
theorem BO.inl {a : Int} {p : Nat} {xs : List Int} (hp : H[p]? = some (IL xs)) (h : Q (.bool (xs.any (· == a))) H) : BO C n (compareOp .In) (.int a) (.ref p) H Q := by
  rintro A s r base ra rb Qr hR hB hL ⟨t, rfl⟩ hv hQ
  obtain ⟨l, rfl, _, rvs, hl, hr⟩ := hL.get hp hv
  exact in_list_ints hl.isList (allInts_of hr) (hQ.now h rfl hL s.toks)
theorem BO.leq {p q : Nat} {xs ys : List Int} (hp : H[p]? = some (IL xs)) (hq : H[q]? = some (IL ys)) (h : Q (.bool (decide (xs = ys))) H) : BO C n (compareOp .Eq) (.ref p) (.ref q) H Q := by
  rintro A s r base ra rb Qr hR hB hL hv hv' hQ
  obtain ⟨l, rfl, _, rvs, hl, hr⟩ := hL.get hp hv
  obtain ⟨l', rfl, _, rvs', hl', hr'⟩ := hL.get hq hv'
  exact eq_intsK hl.isList (allInts_of hr) hl'.isList (allInts_of hr') (by have := hR.un; omega) (hQ.now h rfl hL s.toks)
theorem BO.lne {p q : Nat} {xs ys : List Int} (hp : H[p]? = some (IL xs)) (hq : H[q]? = some (IL ys)) (h : Q (.bool (!decide (xs = ys))) H) : BO C n (compareOp .NotEq) (.ref p) (.ref q) H Q := by
  rintro A s r base ra rb Qr hR hB hL hv hv' hQ
  obtain ⟨l, rfl, _, rvs, hl, hr⟩ := hL.get hp hv
  obtain ⟨l', rfl, _, rvs', hl', hr'⟩ := hL.get hq hv'
  exact ne_intsK hl.isList (allInts_of hr) hl'.isList (allInts_of hr') (by have := hR.un; omega) (hQ.now h rfl hL s.toks)

/-- a new object at the heap's end, and nothing else changed -/
theorem Ends.new {base : Heap} {r : List Addr} {s : Shared} {Qr : Value → Shared → Prop} (x : Ends C base r s Q Qr) (hL : Led C.pr C.w base r H s.heap) {c : Cel} (q : Q (.ref H.length) (H ++ [c])) {h' : Heap} {a : Addr} (tk : Nat)
    (hk : ∀ b o, s.heap.get? b = some o → h'.get? b = some o) (ha : s.heap.get? a = none) (hc : CAt C.pr C.w (r ++ [a]) h' a c) : Qr (.ref a) { s with heap := h', toks := tk } := by
  obtain ⟨l, g, v⟩ := hL.add hk ha hc
  exact x _ _ _ _ _ _ q v l g
theorem at_size (h : Heap) : h.get? h.objs.size = none := by
  cases e : h.get? h.objs.size with
  | none => rfl
  | some o => exact absurd (Heap.lt_size e) (Nat.lt_irrefl _)

theorem BO.cat {p q : Nat} {xs ys : List MV} (hp : H[p]? = some (.list xs)) (hq : H[q]? = some (.list ys)) (hs : xs.length + ys.length ≤ sizeLine) (h : Q (.ref H.length) (H ++ [.list (xs ++ ys)])) :
    BO C n (binaryOp .Add) (.ref p) (.ref q) H Q := by
  rintro A s r base ra rb Qr hR hB hL hv hv' hQ
  obtain ⟨l, rfl, _, rvs, ⟨k, hl⟩, hr⟩ := hL.get hp hv
  obtain ⟨l', rfl, _, rvs', ⟨k', hl'⟩, hr'⟩ := hL.get hq hv'
  have e : rvs.toArray ++ rvs'.toArray = (rvs ++ rvs').toArray := by simp
  refine concat_meets ⟨_, hl, rfl⟩ ⟨_, hl', rfl⟩ noFill_list_add seq_list_add PySem.F.slot_list_add PySem.F.entry_list_add (PySem.F.args_list_add_2 _ _)
    (list_addW l l' rvs.toArray rvs'.toArray k k' none none #[] #[] (by simpa [← hr.len, ← hr'.len] using hs)) ⟨hl, hl', ?_⟩
  rw [e]
  exact hQ.new hL h s.toks (fun b o e => Heap.get?_push_of_some _ e) (at_size _) ⟨rvs ++ rvs', ⟨_, Heap.get?_push_size _ rfl⟩, (hr.app hr').mono ⟨_, rfl⟩⟩

theorem fold_rep (v : Value) : ∀ (k : Nat) (acc : Array Value), List.foldl (fun x1 x2 => x1 ++ x2) acc (List.replicate k #[v]) = acc ++ (List.replicate k v).toArray
  | 0, acc => by simp
  | k + 1, acc => by
    rw [List.replicate_succ, List.foldl_cons, fold_rep v k, Array.append_assoc]
    congr 1
    apply Array.toList_inj.mp
    simp [List.replicate_succ]
theorem BO.rep {p : Nat} {v : MV} {k : Int} (hp : H[p]? = some (.list [v])) (hs : k ≤ 2 ^ 24) (hs0 : -(2 ^ 63) ≤ k) (h : Q (.ref H.length) (H ++ [.list (List.replicate k.toNat v)])) :
    BO C n (binaryOp .Mult) (.ref p) (.int k) H Q := by
  rintro A s r base ra rb Qr hR hB hL hv ⟨u, rfl⟩ hQ
  obtain ⟨l, rfl, _, rvs, ⟨j, hl⟩, hr⟩ := hL.get hp hv
  cases hr with
  | cons h1 h2 =>
    cases h2
    rename_i rv
    refine wpAny_binaryOp_repeat_ref (T := "list") (U := "int") (by decide) ⟨_, hl, rfl⟩ (fun s' => typeIs_int s' k u) noFill_list_mul F.fills_int_mul F.slot_int_rmul repeat_list F.slot_int_index.lookup ?_
    refine call_meets F.slot_int_rmul (typeIs_int s k u) F.entry_int_rmul (F.args_int_rmul_2 _ _) (int___rmul___int_list k u l #[rv] j) ⟨hl, rfl, ⟨_, hl, rfl⟩, ?_⟩
    refine call_meets F.slot_list_mul ⟨_, hl, rfl⟩ F.entry_list_mul (F.args_list_mul_2 _ _)
      (AutoListH.list___mul___list_int_3 l #[rv] j k u (by simp [Builtin.List.listFitsIndex]; omega) (by simp; omega) (by have e : #[rv].size = 1 := rfl; simp [Builtin.List.listTooLong, sizeLine, e]; omega)) ⟨hl, ?_⟩
    refine hQ.new hL h s.toks (fun b o e => Heap.get?_push_of_some _ e) (at_size _) ⟨List.replicate k.toNat rv, ⟨0, (Heap.get?_push_size _ rfl).trans (by simp [fold_rep])⟩, (VRels.rep h1 _).mono ⟨_, rfl⟩⟩

theorem FN.len {p : Nat} {xs : List MV} (hp : H[p]? = some (.list xs)) (hs : xs.length < 2 ^ 62) (h : Q (.int xs.length) H) : FN C (.builtin "len") n [.ref p] H Q := by
  rintro A s r base rvs Qr hR hB hL hv hQ
  cases hv with
  | cons h1 h2 =>
    cases h2
    obtain ⟨l, rfl, _, rvs, hl, hr⟩ := hL.get hp h1
    have e : rvs.toArray.size = xs.length := by rw [List.size_toArray, hr.len]
    refine PyProof.Rows.len_list hl.isList (by rw [e]; omega) ?_
    rw [e]
    exact hQ.now (v := .int xs.length) h ⟨_, rfl⟩ hL (s.toks + 1 + 1)
theorem FN.abs {a : Int} (h : Q (.int (if a < 0 then -a else a)) H) : FN C (.builtin "abs") n [.int a] H Q := by
  rintro A s r base rvs Qr hR hB hL hv hQ
  cases hv with
  | cons h1 h2 =>
    cases h2
    obtain ⟨t, rfl⟩ := h1
    exact call_abs_int fun u tk => hQ.now h ⟨_, rfl⟩ hL tk
theorem FN.max2 {a b : Int} (h : Q (.int (max a b)) H) : FN C (.builtin "max") n [.int a, .int b] H Q := by
  rintro A s r base rvs Qr hR hB hL hv hQ
  cases hv with
  | cons h1 h2 =>
    cases h2 with
    | cons h2 h3 =>
      cases h3
      obtain ⟨t, rfl⟩ := h1
      obtain ⟨u, rfl⟩ := h2
      refine max_two_ints hR.hd fun h' tk hk => ?_
      by_cases c : b > a
      · simp only [if_pos c]
        have : max a b = b := by omega
        rw [this] at h
        exact hQ _ _ _ _ _ _ h ⟨_, rfl⟩ (hL.keeps hk) (Gr.ofKeeps r hk)
      · simp only [if_neg c]
        have : max a b = a := by omega
        rw [this] at h
        exact hQ _ _ _ _ _ _ h ⟨_, rfl⟩ (hL.keeps hk) (Gr.ofKeeps r hk)
theorem FN.sum {p : Nat} {xs : List Int} (hp : H[p]? = some (IL xs)) (h : Q (.int xs.sum) H) : FN C (.builtin "sum") n [.ref p] H Q := by
  rintro A s r base rvs Qr hR hB hL hv hQ
  cases hv with
  | cons h1 h2 =>
    cases h2
    obtain ⟨l, rfl, _, rvs, hl, hr⟩ := hL.get hp h1
    obtain ⟨ys, rfl, rfl⟩ := ints_toks (allInts_of hr)
    have e : (ys.map (fun p => Value.int p.1 p.2)).toArray = intItems ys.toArray := by simp [intItems]
    have hl' := hl.isList
    rw [e] at hl'
    refine sum_intListG hR.hd hl' fun h' tk t' hk => ?_
    rw [preSum_eq, List.take_of_length_le (by simp)]
    exact hQ _ _ _ _ _ _ h ⟨_, rfl⟩ (hL.keeps hk) (Gr.ofKeeps r hk)
theorem FN.copy {p : Nat} {xs : List MV} (hp : H[p]? = some (.list xs)) (hs : xs.length ≤ sizeLine) (h : Q (.ref H.length) (H ++ [.list xs])) : FN C (.type "list") n [.ref p] H Q := by
  rintro A s r base rvs Qr hR hB hL hv hQ
  cases hv with
  | cons h1 h2 =>
    cases h2
    obtain ⟨l, rfl, _, rvs, hl, hr⟩ := hL.get hp h1
    obtain ⟨o, ho, hc, k, hd⟩ := hl.isList
    refine call_list_seq (hsz := by simpa [← hr.len] using hs) l (.inl rfl) ho hc hd fun h' c' hk hD => ?_
    exact hQ.new hL h s.toks hk (at_size _) ⟨rvs, ⟨_, hD⟩, hr.mono ⟨_, rfl⟩⟩
theorem FN.range1 {a : Int} (h : Q (.ref H.length) (H ++ [.range 0 a 1])) : FN C (.type "range") n [.int a] H Q := by
  rintro A s r base rvs Qr hR hB hL hv hQ
  cases hv with
  | cons h1 h2 =>
    cases h2
    obtain ⟨t, rfl⟩ := h1
    exact call_range_1 (hQ.new hL h _ (fun b o e => Heap.get?_push_of_some _ e) (at_size _) ⟨_, _, _, IsRange.new ..⟩)
theorem FN.range3 {a b c : Int} (hc : c ≠ 0) (hc' : c.natAbs < 1000) (h : Q (.ref H.length) (H ++ [.range a b c])) : FN C (.type "range") n [.int a, .int b, .int c] H Q := by
  rintro A s r base rvs Qr hR hB hL hv hQ
  cases hv with
  | cons h1 h2 =>
    cases h2 with
    | cons h2 h3 =>
      cases h3 with
      | cons h3 h4 =>
        cases h4
        obtain ⟨t, rfl⟩ := h1
        obtain ⟨u, rfl⟩ := h2
        obtain ⟨v, rfl⟩ := h3
        exact call_range_3 hc (hQ.new hL h _ (fun b o e => Heap.get?_push_of_some _ e) (at_size _) ⟨_, _, _, IsRange.new ..⟩) (.inl (PyProof.noPylong_small (by omega)))
end rules
noncomputable def EndsL (C : Cx) (base : Heap) (r : List Addr) (s : Shared) (Q : List MV → MH → Prop) (Qr : List Value → Shared → Prop) : Prop :=
  ∀ v H' rv r' h' tk, Q v H' → VRels r' v rv → Led C.pr C.w base r' H' h' → Gr r s.heap r' h' → Qr rv { s with heap := h', toks := tk }
noncomputable def EVs (C : Cx) (V : Ev) (D : Dn) (n : Nat) (es : List Expr) (loc : Locs) (H : MH) (Q : List MV → MH → Prop) : Prop :=
  ∀ (pos : Pos) (base : Heap) (A : Around) (s : Shared) (r : List Addr) (Qr : List Value → Shared → Prop), Room A n → EvOK C V D base → Rep C V base D.ns loc H r s.heap → EndsL C base r s Q Qr →
    wpAny (model C.pr C.w) A (spliced (backTo pos (starEach es V.env))) Qr NoE s

section rules
variable {C : Cx} {V : Ev} {D : Dn} {n : Nat} {loc : Locs} {H : MH} {Q : MV → MH → Prop} {QB : Bool → MH → Prop} {QL : List MV → MH → Prop}

theorem EVs.nil (h : QL [] H) : EVs C V D n [] loc H QL := fun pos base A s r Qr hR hE hP hQ => args_nil (hQ _ _ _ _ _ s.toks h .nil hP.led (.refl _ _))
theorem EVs.cons {e : Expr} {rest : List Expr} (h : EV C V D n e loc H fun v H₁ => EVs C V D n rest loc H₁ fun vs H₂ => QL (v :: vs) H₂)
    (he : ∀ env, starEach (e :: rest) env = (false, eval e env) :: starEach rest env := by intro _; rfl) : EVs C V D n (e :: rest) loc H QL := by
  intro pos base A s r Qr hR hE hP hQ
  refine args_cons (he := he _) (h base A s r _ hR hE hP fun a H₁ ra r₁ h₁ tk₁ q₁ v₁ l₁ g₁ => ?_)
  refine q₁ pos base A _ r₁ _ hR hE (hP.grow l₁ g₁) fun vs H₂ rvs r₂ h₂ tk₂ q₂ v₂ l₂ g₂ => ?_
  exact hQ _ _ _ _ _ _ q₂ (.cons (v₁.mono g₂.pre) v₂) l₂ (g₁.trans g₂)

/-- what a global name means -/
noncomputable def GV (C : Cx) (x : Str) (v : Value) : Prop := ∀ base, BF C base → (∃ mg, base.Ns mainGlobals mg ∧ mg x = some v) ∨ ∃ mg mb, base.Ns mainGlobals mg ∧ mg x = none ∧ base.Ns builtinsNs mb ∧ mb x = some v
theorem GV.own {x : Str} {v : Value} (e : nsIn C.K mainGlobals x = some (some v)) : GV C x v := fun base hB => by
  obtain ⟨mg, hg⟩ := hB.g
  exact .inl ⟨mg, hg, mg_of hB.kin hg e⟩
theorem GV.blt {x : Str} {v : Value} (e : nsIn C.K mainGlobals x = some none) (hn : x ≠ Str.ofString "__name__") (hv : bootBuiltins x = some v) : GV C x v := fun base hB => by
  obtain ⟨mg, hg⟩ := hB.g
  obtain ⟨mb, hb, hm⟩ := hB.b
  exact .inr ⟨mg, mb, hg, mg_none_of hB.kin hg e, hb, (hm x hn).trans hv⟩
noncomputable def Kp (C : Cx) (f : Value) : Prop := ∀ (M : Model) (h : Heap), C.K.In h → ∃ k, (k = Keeper.frame ∨ k = Keeper.machine ∨ k = Keeper.boundFrame) ∧ Looks M h (keeperOf f) k
theorem Kp.own {f : Value} (hk : keepIn C.K f = true) : Kp C f := fun M h X => keeps_K hk h X
theorem Kp.blt {id : String} : Kp C (.builtin id) := fun M h X => ⟨.machine, .inr (.inl rfl), .now⟩
theorem Kp.type {id : String} : Kp C (.type id) := fun M h X => ⟨.machine, .inr (.inl rfl), .now⟩

theorem plain_back {pos : Pos} {env : Env} : ∀ {es : List Expr}, ((starEach es env).any (·.1) = false) → (backTo pos (starEach es env)).any (·.1) = false := by
  intro es h
  unfold backTo
  rw [List.any_map]
  exact h

theorem EV.call {x : Str} {p pos : Pos} {e : Expr} {rest : List Expr} {f : Value} (hx : x ∈ D.gs) (hg : GV C x f) (hk : Kp C f)
    (h : EVs C V D n (e :: rest) loc H fun vs H₁ => FN C f n vs H₁ Q)
    (hd : (x == ("__debug__" : Str)) = false := by decide)
    (he : ∀ env, starEach (e :: rest) env = (false, eval e env) :: starEach rest env := by intro _; rfl)
    (hp : ∀ env, (starEach rest env).any (·.1) = false := by intro _; rfl) :
    EV C V D n (.Call (.Name x p) (e :: rest) [] pos) loc H Q := by
  intro base A s r Qr hR hE hP hQ
  refine Call_ ?_
  have hbf := hE.bf.keeps hP.led.sub
  have fin : wpAny (model C.pr C.w) A (callWith pos f [] (backTo pos (starEach (e :: rest) V.env)) []) Qr NoE s := by
    have h1 := h pos base A s r (fun vs s₁ => C.K.In s₁.heap ∧ wpAny (model C.pr C.w) A (PySem.call f ([] ++ vs)) Qr NoE s₁) hR hE hP fun vs H₁ rvs r₁ h₁ tk₁ q₁ v₁ l₁ g₁ =>
      ⟨fun a o e => l₁.sub a o (hE.bf.kin a o e), q₁ A _ r₁ _ rvs _ hR hE.bf l₁ v₁ (hQ.trans g₁)⟩
    rw [he] at h1 ⊢
    exact callWith_of (P := fun h => C.K.In h) (by show ((false || (backTo pos (starEach rest V.env)).any (·.1)) || false) = false; rw [plain_back (hp _)]; rfl) (fun h X => hk _ h X) (evalArgs_plain h1)
  rcases hg base hE.bf with ⟨mg, hg, hv⟩ | ⟨mg, mb, hg, hn, hb, hv⟩
  · exact Name_function_global hE.kind (hE.gl x hx) (loadGlobal_global (by rw [hE.glob]; exact hg.keeps hP.led.sub) hv fin) hd
  · exact Name_function_global hE.kind (hE.gl x hx) (loadGlobal_builtin (by rw [hE.glob]; exact hg.keeps hP.led.sub) hn (by rw [hE.blt]; exact hb.keeps hP.led.sub) hv fin) hd

theorem EV.sub {value slice : Expr} {pos : Pos} (h : EV C V D n value loc H fun a H₁ => EV C V D n slice loc H₁ fun b H₂ => BO C n (subscriptTail value slice) a b H₂ Q) : EV C V D n (.Subscript value slice pos) loc H Q := by
  intro base A s r Qr hR hE hP hQ
  refine Subscript_ (h base A s r _ hR hE hP fun a H₁ ra r₁ h₁ tk₁ q₁ v₁ l₁ g₁ => ?_)
  refine q₁ base A _ r₁ _ hR hE (hP.grow l₁ g₁) fun b H₂ rb r₂ h₂ tk₂ q₂ v₂ l₂ g₂ => ?_
  exact q₂ A _ r₂ _ ra rb _ hR hE.bf l₂ (v₁.mono g₂.pre) v₂ (hQ.trans (g₁.trans g₂))
theorem BO.item {value slice : Expr} {p : Nat} {xs : List MV} {k : Int} {v : MV} (hp : H[p]? = some (.list xs)) (h0 : 0 ≤ k) (h1 : k < 2 ^ 62) (hx : xs[k.toNat]? = some v) (h : Q v H)
    (hs : ∀ o i, subscripted slice false o i = operate [o, i] (PySem.getItem o i) := by intro _ _; rfl) : BO C n (subscriptTail value slice) (.ref p) (.int k) H Q := by
  rintro A s r base ra rb Qr hR hB hL hv ⟨u, rfl⟩ hQ
  obtain ⟨l, rfl, _, rvs, hl, hr⟩ := hL.get hp hv
  obtain ⟨rv, e, hrv⟩ := hr.get hx
  exact tail_any hl.isList.typeIs slot_list_getitem.lookup (wpAny_getItem_list hl.isList h0 (by omega) (by simpa using e) (hQ.now h hrv hL s.toks)) (hs _ _)
theorem BO.itemNeg {value slice : Expr} {p : Nat} {xs : List MV} {k : Int} {v : MV} (hp : H[p]? = some (.list xs)) (h0 : k < 0) (h1 : -(xs.length : Int) ≤ k) (h2 : -(2 ^ 62) ≤ k) (hx : xs[(k + xs.length).toNat]? = some v) (h : Q v H)
    (hs : ∀ o i, subscripted slice false o i = operate [o, i] (PySem.getItem o i) := by intro _ _; rfl) : BO C n (subscriptTail value slice) (.ref p) (.int k) H Q := by
  rintro A s r base ra rb Qr hR hB hL hv ⟨u, rfl⟩ hQ
  obtain ⟨l, rfl, _, rvs, hl, hr⟩ := hL.get hp hv
  obtain ⟨rv, e, hrv⟩ := hr.get hx
  have hsz : rvs.toArray.size = xs.length := by rw [List.size_toArray, hr.len]
  exact tail_any hl.isList.typeIs slot_list_getitem.lookup (wpAny_getItem_list_neg hl.isList h0 (by rw [hsz]; exact h1) (by omega) (by rw [hsz]; simpa using e) (hQ.now h hrv hL s.toks)) (hs _ _)
theorem BO.gitem {p : Nat} {xs : List MV} {k : Int} {v : MV} (hp : H[p]? = some (.list xs)) (h0 : 0 ≤ k) (h1 : k < 2 ^ 62) (hx : xs[k.toNat]? = some v) (h : Q v H) : BO C n PySem.getItem (.ref p) (.int k) H Q := by
  rintro A s r base ra rb Qr hR hB hL hv ⟨u, rfl⟩ hQ
  obtain ⟨l, rfl, _, rvs, hl, hr⟩ := hL.get hp hv
  obtain ⟨rv, e, hrv⟩ := hr.get hx
  exact wpAny_getItem_list hl.isList h0 (by omega) (by simpa using e) (hQ.now h hrv hL s.toks)
theorem BO.itemT {value slice : Expr} {p : Nat} {xs : List MV} {k : Nat} {v : MV} (hp : H[p]? = some (.tup xs)) (h1 : k < 2 ^ 62) (hx : xs[k]? = some v) (h : Q v H)
    (hs : ∀ o i, subscripted slice false o i = operate [o, i] (PySem.getItem o i) := by intro _ _; rfl) : BO C n (subscriptTail value slice) (.ref p) (.int k) H Q := by
  rintro A s r base ra rb Qr hR hB hL hv ⟨u, rfl⟩ hQ
  obtain ⟨l, rfl, _, rvs, hl, hr⟩ := hL.get hp hv
  obtain ⟨rv, e, hrv⟩ := hr.get hx
  have hlt : k < rvs.length := by
    rcases Nat.lt_or_ge k rvs.length with z | z
    · exact z
    · rw [List.getElem?_eq_none z] at e; cases e
  exact item_tupleT hl (by omega) (by omega) (j := k) (by unfold seqIndex?; simp; omega) e (hQ.now h hrv hL s.toks) (hs _ _)

theorem EV.slice {value upper : Expr} {p pos : Pos} (h : EV C V D n value loc H fun a H₁ => EV C V D n upper loc H₁ fun b H₂ => ∃ q xs k, a = .ref q ∧ b = .int k ∧ H₂[q]? = some (.list xs) ∧ xs.length ≤ sizeLine ∧ 0 ≤ k ∧ Q (.ref H₂.length) (H₂ ++ [.list (xs.take k.toNat)]))
    (ht : ∀ o r, letTemporaryGo value o r = pure () := by intro _ _; rfl) : EV C V D n (.Subscript value (.Slice none (some upper) none p) pos) loc H Q := by
  intro base A s r Qr hR hE hP hQ
  refine wpAny_Subscript_list_slice (ht := ht) (h base A s r _ hR hE hP fun a H₁ ra r₁ h₁ tk₁ q₁ v₁ l₁ g₁ => ?_)
  rw [evalPart_none]
  refine wpAny_pure ?_
  rw [evalPart_some]
  refine q₁ base A _ r₁ _ hR hE (hP.grow l₁ g₁) fun b H₂ rb r₂ h₂ tk₂ q₂ v₂ l₂ g₂ => ?_
  obtain ⟨q, xs, k, rfl, rfl, hq, hsz, hk, hQ'⟩ := q₂
  obtain ⟨u, rfl⟩ := v₂
  obtain ⟨l, rfl, _, rvs, hl, hr⟩ := l₂.get hq (v₁.mono g₂.pre)
  obtain ⟨j, rfl⟩ := Int.eq_ofNat_of_zero_le hk
  refine ⟨l, rvs.toArray, none, some (j : Int), rfl, hl.isList, by simpa [← hr.len] using hsz, .none, .int _ _, ?_⟩
  rw [slicePick_upto']
  have hh : (h₂.push { cls := .type "slice", data := .fields #[Value.none, .int (j : Int) u, .none] }).objs.size = h₂.objs.size + 1 := Heap.size_push ..
  refine (hQ.trans (g₁.trans g₂)).new (a := h₂.objs.size + 1) l₂ hQ' tk₂ (fun b o e => Heap.get?_push_of_some _ (Heap.get?_push_of_some _ e)) ?_ ⟨rvs.take j, ⟨0, ?_⟩, (hr.take j).mono ⟨_, rfl⟩⟩
  · cases e : h₂.get? (h₂.objs.size + 1) with
    | none => rfl
    | some o => exact absurd (show h₂.objs.size + 1 < h₂.objs.size from Heap.lt_size e) (Nat.not_lt.mpr (Nat.le_succ _))
  · rw [← hh]; exact Heap.get?_push_size _ rfl
theorem EV.sliceX {value upper : Expr} {p pos : Pos} (h : EV C V D n value loc H fun a H₁ => EV C V D n upper loc H₁ fun b H₂ => ∃ k, a = .ext C.sa ∧ b = .int k ∧ C.sn.length ≤ sizeLine ∧ 0 ≤ k ∧ Q (.ref H₂.length) (H₂ ++ [IL (C.sn.take k.toNat)]))
    (ht : ∀ o r, letTemporaryGo value o r = pure () := by intro _ _; rfl) : EV C V D n (.Subscript value (.Slice none (some upper) none p) pos) loc H Q := by
  intro base A s r Qr hR hE hP hQ
  refine wpAny_Subscript_list_slice (ht := ht) (h base A s r _ hR hE hP fun a H₁ ra r₁ h₁ tk₁ q₁ v₁ l₁ g₁ => ?_)
  rw [evalPart_none]
  refine wpAny_pure ?_
  rw [evalPart_some]
  refine q₁ base A _ r₁ _ hR hE (hP.grow l₁ g₁) fun b H₂ rb r₂ h₂ tk₂ q₂ v₂ l₂ g₂ => ?_
  obtain ⟨k, rfl, rfl, hsz, hk, hQ'⟩ := q₂
  obtain ⟨u, rfl⟩ := v₂
  obtain rfl : ra = .ref C.sa := v₁
  obtain ⟨rvs, hl, hr⟩ := hE.bf.sc
  have hl := hl.at fun o e => l₂.sub _ o e
  obtain ⟨j, rfl⟩ := Int.eq_ofNat_of_zero_le hk
  refine ⟨C.sa, rvs.toArray, none, some (j : Int), rfl, hl, by simpa [hr.length] using hsz, .none, .int _ _, ?_⟩
  rw [slicePick_upto']
  have hh : (h₂.push { cls := .type "slice", data := .fields #[Value.none, .int (j : Int) u, .none] }).objs.size = h₂.objs.size + 1 := Heap.size_push ..
  have hvs : ∀ {r : List Addr} {vs : List Value} {ns : List Int}, IntsAre vs ns → VRels r (ns.map .int) vs := by
    intro r vs ns h
    induction h with
    | nil => exact .nil
    | cons n t _ ih => exact .cons ⟨t, rfl⟩ ih
  refine (hQ.trans (g₁.trans g₂)).new (a := h₂.objs.size + 1) l₂ hQ' tk₂ (fun b o e => Heap.get?_push_of_some _ (Heap.get?_push_of_some _ e)) ?_ ⟨rvs.take j, ⟨0, ?_⟩, ?_⟩
  · cases e : h₂.get? (h₂.objs.size + 1) with
    | none => rfl
    | some o => exact absurd (show h₂.objs.size + 1 < h₂.objs.size from Heap.lt_size e) (Nat.not_lt.mpr (Nat.le_succ _))
  · rw [← hh]; exact Heap.get?_push_size _ rfl
  · have := (hvs (r := r₂ ++ [h₂.objs.size + 1]) hr).take j
    rw [← List.map_take] at this
    exact this

theorem EV.list {elts : List Expr} {pos : Pos} (h : EVs C V D n elts loc H fun vs H₁ => vs.length ≤ sizeLine ∧ Q (.ref H₁.length) (H₁ ++ [.list vs])) : EV C V D n (.List elts pos) loc H Q := by
  intro base A s r Qr hR hE hP hQ
  refine List_ (h pos base A s r _ hR hE hP fun vs H₁ rvs r₁ h₁ tk₁ q₁ v₁ l₁ g₁ => ?_)
  refine wpAny_newObj_type ((hQ.trans g₁).new l₁ q₁.2 tk₁ (fun b o e => Heap.get?_push_of_some _ e) (at_size _) ⟨rvs, ⟨0, Heap.get?_push_size _ rfl⟩, v₁.mono ⟨_, rfl⟩⟩) ?_
  show rvs.toArray.size ≤ sizeLine
  rw [List.size_toArray, ← v₁.len]; exact q₁.1
theorem EV.tuple {elts : List Expr} {k : Nat} {pos : Pos} (h : EVs C V D n elts loc H fun vs H₁ => vs.length ≤ sizeLine ∧ Q (.ref H₁.length) (H₁ ++ [.tup vs])) : EV C V D n (.Tuple elts k pos) loc H Q := by
  intro base A s r Qr hR hE hP hQ
  refine Tuple_ (h pos base A s r _ hR hE hP fun vs H₁ rvs r₁ h₁ tk₁ q₁ v₁ l₁ g₁ => ?_)
  refine wpAny_newObj_type ((hQ.trans g₁).new l₁ q₁.2 tk₁ (fun b o e => Heap.get?_push_of_some _ e) (at_size _) ⟨rvs, ⟨_, Heap.get?_push_size _ rfl, rfl, 0, rfl⟩, v₁.mono ⟨_, rfl⟩⟩) ?_
  show rvs.toArray.size ≤ sizeLine
  rw [List.size_toArray, ← v₁.len]; exact q₁.1
end rules
inductive Fl where
  | next
  | ret (v : MV)
noncomputable def FRel (r : List Addr) : Fl → Flow → Prop
  | .next, f => f = .next
  | .ret v, f => ∃ rv, f = .ret rv ∧ VRel r v rv

noncomputable def EndsS (C : Cx) (V : Ev) (D : Dn) (base : Heap) (r : List Addr) (s : Shared) (Q : Fl → Locs → MH → Prop) (Qr : Flow → Shared → Prop) : Prop :=
  ∀ f loc' H' fr r' h' tk, Q f loc' H' → FRel r' f fr → Rep C V base D.ns loc' H' r' h' → r <+: r' → Qr fr { s with heap := h', toks := tk }
noncomputable def ST (C : Cx) (V : Ev) (D : Dn) (n : Nat) (st : Stmt) (loc : Locs) (H : MH) (Q : Fl → Locs → MH → Prop) : Prop :=
  ∀ (base : Heap) (A : Around) (s : Shared) (r : List Addr) (Qr : Flow → Shared → Prop), Room A n → EvOK C V D base → Rep C V base D.ns loc H r s.heap → EndsS C V D base r s Q Qr →
    wpAny (model C.pr C.w) A (exec st V.env) Qr NoE s
noncomputable def SS (C : Cx) (V : Ev) (D : Dn) (n : Nat) (st : List Stmt) (loc : Locs) (H : MH) (Q : Fl → Locs → MH → Prop) : Prop :=
  ∀ (base : Heap) (A : Around) (s : Shared) (r : List Addr) (Qr : Flow → Shared → Prop), Room A n → EvOK C V D base → Rep C V base D.ns loc H r s.heap → EndsS C V D base r s Q Qr →
    wpAny (model C.pr C.w) A (execs st V.env) Qr NoE s

theorem EndsS.trans {C : Cx} {V : Ev} {D : Dn} {base : Heap} {r r₁ : List Addr} {s : Shared} {h₁ : Heap} {tk : Nat} {Q : Fl → Locs → MH → Prop} {Qr : Flow → Shared → Prop} (x : EndsS C V D base r s Q Qr) (g : r <+: r₁) :
    EndsS C V D base r₁ { s with heap := h₁, toks := tk } Q Qr := fun f loc' H' fr r' h' tk' q hf hP g' => x f loc' H' fr r' h' tk' q hf hP (g.trans g')

section rules
variable {C : Cx} {V : Ev} {D : Dn} {n : Nat} {loc : Locs} {H : MH} {Q : Fl → Locs → MH → Prop}

theorem ST.mono {st : Stmt} {Q' : Fl → Locs → MH → Prop} (h : ST C V D n st loc H Q') (hq : ∀ f l H', Q' f l H' → Q f l H') : ST C V D n st loc H Q :=
  fun base A s r Qr hR hE hP hQ => h base A s r Qr hR hE hP fun f l H' fr r' h' tk q => hQ f l H' fr r' h' tk (hq _ _ _ q)
theorem SS.nil (h : Q .next loc H) : SS C V D n [] loc H Q := fun base A s r Qr hR hE hP hQ => wpAny_execs_nil (hQ _ _ _ _ _ _ s.toks h rfl hP (List.prefix_refl _))
/-- what stands behind a statement -/
noncomputable def Then (C : Cx) (V : Ev) (D : Dn) (n : Nat) (rest : List Stmt) (Q : Fl → Locs → MH → Prop) : Fl → Locs → MH → Prop
  | .next, l, H => SS C V D n rest l H Q
  | .ret v, l, H => Q (.ret v) l H
theorem SS.cons {st : Stmt} {rest : List Stmt} (h : ST C V D n st loc H (Then C V D n rest Q)) : SS C V D n (st :: rest) loc H Q := by
  intro base A s r Qr hR hE hP hQ
  refine wpAny_execs_cons (h base A s r _ hR hE hP fun f l H₁ fr r₁ h₁ tk₁ q₁ hf hP₁ g₁ => ?_)
  cases f with
  | next => obtain rfl := hf; exact q₁ base A _ r₁ _ hR hE hP₁ (hQ.trans g₁)
  | ret v => obtain ⟨rv, rfl, hv⟩ := hf; exact hQ _ _ _ _ _ _ tk₁ q₁ ⟨rv, rfl, hv⟩ hP₁ g₁

theorem notModule {V : Ev} (hk : V.env.scope.kind = .function) : (V.env.scope.kind == .class || (V.env.scope.kind == .module && V.env.locals != V.env.globals)) = false := by rw [hk]; rfl

theorem store {base : Heap} {A : Around} {s : Shared} {r : List Addr} {loc' : Locs} {x : Str} {v : MV} {rv : Value} {Qr : Unit → Shared → Prop} (hw : Wr D.ns loc x v loc') (hE : EvOK C V D base) (hP : Rep C V base D.ns loc H r s.heap) (hv : VRel r v rv)
    (h : ∀ h' tk, Rep C V base D.ns loc' H r h' → Qr () { s with heap := h', toks := tk }) : wpAny (model C.pr C.w) A (storeName V.env x rv) Qr NoE s := by
  obtain ⟨i, hi, hlt, rfl⟩ := hw.ix
  have hm : x ∈ D.ns := List.mem_of_getElem? hi
  have same : ∀ {j : Nat} {y : Str}, D.ns[j]? = some y → j ≠ i → y ≠ x := fun {j y} hj hne e => by
    subst e
    have h1 : j < D.ns.length := by
      rcases Nat.lt_or_ge j D.ns.length with q | q
      · exact q
      · rw [List.getElem?_eq_none q] at hj; cases hj
    have h2 : i < D.ns.length := by
      rcases Nat.lt_or_ge i D.ns.length with q | q
      · exact q
      · rw [List.getElem?_eq_none q] at hi; cases hi
    exact hne ((List.getElem_inj hE.nd (h₀ := h1) (h₁ := h2)).mp (by
      rw [List.getElem?_eq_getElem h1] at hj; rw [List.getElem?_eq_getElem h2] at hi
      exact (Option.some.inj hj).trans (Option.some.inj hi).symm))
  cases e : V.cell x with
  | none =>
    obtain ⟨m, hn, hl⟩ := hP.lcl
    refine wpAny_storeName_local (hE.loc x hm e) hn (fun h' hn' hs => h h' _ ?_) (notModule hE.kind)
    refine ⟨hP.led.other hE.bl hP.offL hs, ⟨_, hn', fun j y w h1 h2 h3 => ?_⟩, fun j y c h1 h2 => ?_, hP.offL, hP.offC⟩
    · by_cases hj : j = i
      · subst hj
        rw [hi] at h1; cases h1
        rw [List.getElem?_set_self hlt] at h2
        cases h2
        exact ⟨rv, by simp, hv⟩
      · rw [List.getElem?_set_ne (Ne.symm hj)] at h2
        obtain ⟨rw', e1, e2⟩ := hl j y w h1 h2 h3
        exact ⟨rw', by simp [same h1 hj, e1], e2⟩
    · obtain ⟨ov, hc, hw'⟩ := hP.cel j y c h1 h2
      refine ⟨ov, hc.sameBut hs (hE.apart y (List.mem_of_getElem? h1) c h2), fun w hj => ?_⟩
      have hne : j ≠ i := by rintro rfl; rw [hi] at h1; cases h1; rw [e] at h2; cases h2
      rw [List.getElem?_set_ne (Ne.symm hne)] at hj
      exact hw' w hj
  | some c =>
    obtain ⟨ov, hc, hw'⟩ := hP.cel i x c hi e
    obtain ⟨k1, k2⟩ := hE.cel x hm c e
    refine wpAny_storeName_cell hE.kind k1 k2 hc fun h' hc' hs => h h' _ ?_
    refine ⟨hP.led.other (hE.bc x hm c e) (hP.offC x hm c e) hs, ?_, fun j y c' h1 h2 => ?_, hP.offL, hP.offC⟩
    · obtain ⟨m, hn, hl⟩ := hP.lcl
      refine ⟨m, hn.sameBut hs (Ne.symm (hE.apart x hm c e)), fun j y w h1 h2 h3 => ?_⟩
      have hne : j ≠ i := by rintro rfl; rw [hi] at h1; cases h1; rw [e] at h3; cases h3
      rw [List.getElem?_set_ne (Ne.symm hne)] at h2
      exact hl j y w h1 h2 h3
    · by_cases hj : j = i
      · subst hj
        rw [hi] at h1; cases h1
        rw [e] at h2; cases h2
        refine ⟨_, hc', fun w hw => ?_⟩
        rw [List.getElem?_set_self hlt] at hw
        cases hw
        exact ⟨rv, rfl, hv⟩
      · obtain ⟨ov', hd, hw''⟩ := hP.cel j y c' h1 h2
        refine ⟨ov', hd.sameBut hs fun q => ?_, fun w hw => ?_⟩
        · exact same h1 hj (hE.inj y (List.mem_of_getElem? h1) x hm c' h2 (q ▸ e))
        · rw [List.getElem?_set_ne (Ne.symm hj)] at hw
          exact hw'' w hw

theorem ST.ret {e : Expr} {pos : Pos} (h : EV C V D n e loc H fun v H₁ => Q (.ret v) loc H₁) : ST C V D n (.Return (some e) pos) loc H Q := by
  intro base A s r Qr hR hE hP hQ
  refine wpAny_Return_some (h base A s r _ hR hE hP fun v H₁ rv r₁ h₁ tk₁ q₁ hv l₁ g₁ => ?_)
  exact hQ _ _ _ _ _ _ tk₁ q₁ ⟨rv, rfl, hv⟩ (hP.grow l₁ g₁) g₁.pre
theorem ST.asg {x : Str} {value : Expr} {pos' pos : Pos} (h : EV C V D n value loc H fun v H₁ => ∃ loc', Wr D.ns loc x v loc' ∧ Q .next loc' H₁)
    (hs : ∀ env, swapsWith value (some (.Name x pos')) pos.line env = pure false := by intro _; rfl) : ST C V D n (.Assign [.Name x pos'] value pos) loc H Q := by
  intro base A s r Qr hR hE hP hQ
  refine wpAny_Assign_Name (hs := hs _) (h base A s r _ hR hE hP fun v H₁ rv r₁ h₁ tk₁ q₁ hv l₁ g₁ => ?_)
  obtain ⟨loc', hw, q⟩ := q₁
  exact store hw hE (hP.grow l₁ g₁) hv fun h' tk hP' => hQ _ _ _ _ _ _ tk q rfl hP' g₁.pre
theorem loadN {base : Heap} {A : Around} {s : Shared} {r : List Addr} {x : Str} {v : MV} {Qr : Value → Shared → Prop} (h : Rd D.ns loc x v) (hE : EvOK C V D base) (hP : Rep C V base D.ns loc H r s.heap) (hq : ∀ rv, VRel r v rv → Qr rv s) :
    wpAny (model C.pr C.w) A (loadName V.env x) Qr NoE s := by
  obtain ⟨i, hi, hl⟩ := h.ix
  have hm : x ∈ D.ns := List.mem_of_getElem? hi
  cases e : V.cell x with
  | none =>
    obtain ⟨m, hn, hv⟩ := hP.lcl
    obtain ⟨rv, e1, e2⟩ := hv i x v hi hl e
    exact wpAny_loadName_local hE.kind (hE.loc x hm e) hn e1 (hq rv e2)
  | some c =>
    obtain ⟨ov, hc', hv⟩ := hP.cel i x c hi e
    obtain ⟨rv, rfl, e2⟩ := hv v hl
    obtain ⟨k1, k2⟩ := hE.cel x hm c e
    exact wpAny_loadName_cell hE.kind k1 k2 hc' (hq rv e2)
theorem ST.aug {x : Str} {op : Operator} {value : Expr} {pos' pos : Pos} {a : MV} (hx : Rd D.ns loc x a) (h : EV C V D n value loc H fun b H₁ => BO C n (inplaceOp op) a b H₁ fun v H₂ => ∃ loc', Wr D.ns loc x v loc' ∧ Q .next loc' H₂) :
    ST C V D n (.AugAssign (.Name x pos') op value pos) loc H Q := by
  intro base A s r Qr hR hE hP hQ
  refine wpAny_AugAssign_Name (loadN hx hE hP fun ra va => ?_)
  refine h base A s r _ hR hE hP fun b H₁ rb r₁ h₁ tk₁ q₁ vb l₁ g₁ => ?_
  refine q₁ A _ r₁ _ ra rb _ hR hE.bf l₁ (va.mono g₁.pre) vb fun v H₂ rv r₂ h₂ tk₂ q₂ vv l₂ g₂ => ?_
  obtain ⟨loc', hw, q⟩ := q₂
  exact store hw hE (hP.grow l₂ (g₁.trans g₂)) vv fun h' tk hP' => hQ _ _ _ _ _ _ tk q rfl hP' (g₁.trans g₂).pre
theorem ST.ite {t : Expr} {b o : List Stmt} {pos : Pos} (h : TT C V D n t loc H fun c H₁ => if c then SS C V D n b loc H₁ Q else SS C V D n o loc H₁ Q) : ST C V D n (.If t b o pos) loc H Q := by
  intro base A s r Qr hR hE hP hQ
  refine wpAny_If (h base A s r _ hR hE hP fun c H₁ r₁ h₁ tk₁ q₁ l₁ g₁ => ?_)
  cases c
  · exact q₁ base A _ r₁ _ hR hE (hP.grow l₁ g₁) (hQ.trans g₁.pre)
  · exact q₁ base A _ r₁ _ hR hE (hP.grow l₁ g₁) (hQ.trans g₁.pre)
/-- a call for its own sake that gives none -/
theorem ST.expr {e : Expr} {pos : Pos} (h : EV C V D n e loc H fun v H₁ => v = .none ∧ Q .next loc H₁)
    (hs : ∀ env, swapsWith e none pos.line env = pure false := by intro _; rfl) : ST C V D n (.Expr e pos) loc H Q := by
  intro base A s r Qr hR hE hP hQ
  refine wpAny_Expr (hs := hs _) (hi := by unfold interactive; rw [hE.kind]; rfl) (h base A s r _ hR hE hP fun v H₁ rv r₁ h₁ tk₁ q₁ hv l₁ g₁ => ?_)
  obtain ⟨rfl, q⟩ := q₁
  obtain rfl : rv = .none := hv
  exact hQ _ _ _ _ _ _ tk₁ q rfl (hP.grow l₁ g₁) g₁.pre

theorem EV.append {x : Str} {elt : Expr} {xp apos pos : Pos} {p : Nat} (hx : Rd D.ns loc x (.ref p)) {Q : MV → MH → Prop}
    (h : EV C V D n elt loc H fun v H₁ => ∃ xs, H₁[p]? = some (.list xs) ∧ xs.length ≤ sizeLine ∧ Q .none (H₁.set p (.list (xs ++ [v]))))
    {xs₀ : List MV} (h₀ : H[p]? = some (.list xs₀))
    (hline : (apos.endLine == pos.line) = true := by rfl) (hd : (x == ("__debug__" : Str)) = false := by decide)
    (he : ∀ env, starEach [elt] env = [(false, eval elt env)] := by intro _; rfl) :
    EV C V D n (.Call (.Attribute (.Name x xp) "append" apos) [elt] [] pos) loc H Q := by
  intro base A s r Qr hR hE hP hQ
  have ht : backTo pos (starEach [elt] V.env) = [(false, eval elt V.env)] := by rw [he]; rfl
  refine wpAny_Call_append rfl (by rw [ht]; rfl) hline ht ?_
  refine EV.name (Q := fun v H₁ => v = .ref p ∧ H₁ = H) hx ⟨rfl, rfl⟩ hd base A s r _ hR hE hP fun v H₁ rv r₁ h₁ tk₁ q₁ hv l₁ g₁ => ?_
  obtain ⟨rfl, rfl⟩ := q₁
  obtain ⟨a, rfl, ha, rvs, ⟨k, hl⟩, hr⟩ := l₁.get h₀ hv
  refine ⟨a, rvs.toArray, rfl, ⟨_, k, hl, rfl, rfl, rfl⟩, ?_⟩
  refine h base A _ r₁ _ hR hE (hP.grow l₁ g₁) fun v H₂ rv r₂ h₂ tk₂ q₂ hv₂ l₂ g₂ => ?_
  obtain ⟨xs, e, hsz, q⟩ := q₂
  obtain ⟨a', ea, ha', rvs', hl', hr'⟩ := l₂.get e (hv.mono g₂.pre)
  cases ea
  refine wpAny_list_append_plain (hsz := by simpa [← hr'.len] using hsz) hl' fun h' hl₃ hs => ?_
  have hr₃ : VRels r₂ (xs ++ [v]) (rvs' ++ [rv]) := hr'.app (.one hv₂)
  obtain ⟨l₃, g₃⟩ := l₂.upd (c := .list (xs ++ [v])) ha' hs ⟨rvs' ++ [rv], by simpa using hl₃, hr₃⟩
  exact hQ _ _ _ _ _ _ q rfl l₃ ((g₁.trans g₂).trans g₃)
end rules
/-- names stored one after another -/
inductive Wrs (ns : List Str) : Locs → List Str → List MV → Locs → Prop
  | nil {loc : Locs} : Wrs ns loc [] [] loc
  | cons {loc loc₁ loc₂ : Locs} {x : Str} {v : MV} {xs : List Str} {vs : List MV} : Wr ns loc x v loc₁ → Wrs ns loc₁ xs vs loc₂ → Wrs ns loc (x :: xs) (v :: vs) loc₂
inductive AN : List Expr → List Str → Prop
  | nil : AN [] []
  | cons {x : Str} {p : Pos} {es : List Expr} {xs : List Str} : AN es xs → AN (.Name x p :: es) (x :: xs)

section rules
variable {C : Cx} {V : Ev} {D : Dn} {n : Nat} {loc : Locs} {H : MH} {Q : Fl → Locs → MH → Prop}

theorem AN.each {env : Env} {es : List Expr} {xs : List Str} (h : AN es xs) : (assignEach es env).length = xs.length ∧ (assignEach es env).findIdx? (·.1) = none := by
  induction h with
  | nil => exact ⟨rfl, rfl⟩
  | cons _ ih => exact ⟨by show (_ :: assignEach _ env).length = _; simp [ih.1], by show ((false, _) :: assignEach _ env).findIdx? (·.1) = none; simp [List.findIdx?_cons, ih.2]⟩

theorem storesA {base : Heap} {A : Around} {r : List Addr} {Qr : Unit → Shared → Prop} {es : List Expr} {xs : List Str} (ha : AN es xs) (hE : EvOK C V D base) :
    ∀ {s : Shared} {loc loc' : Locs} {vs : List MV} {rvs : List Value}, Rep C V base D.ns loc H r s.heap → VRels r vs rvs → Wrs D.ns loc xs vs loc' →
    (∀ h' tk, Rep C V base D.ns loc' H r h' → Qr () { s with heap := h', toks := tk }) → wpAny (model C.pr C.w) A (assignInOrder ((assignEach es V.env).map (·.2)) rvs) Qr NoE s := by
  induction ha with
  | nil =>
    intro s loc loc' vs rvs hP hv hw h
    cases hw; cases hv
    exact wpAny_pure (h s.heap s.toks hP)
  | @cons x p es xs _ ih =>
    intro s loc loc' vs rvs hP hv hw h
    cases hw with
    | cons w1 w2 =>
      cases hv with
      | cons v1 v2 =>
        show wpAny _ _ (assignInOrder (assign (.Name x p) V.env :: (assignEach es V.env).map (·.2)) _) Qr NoE s
        refine wpAny_assignInOrder_more (wpAny_assign_Name (store w1 hE hP v1 fun h' tk hP' => ?_))
        exact ih (s := { s with heap := h', toks := tk }) hP' v2 w2 h
theorem storesB {base : Heap} {A : Around} {r : List Addr} {Qr : Unit → Shared → Prop} (hE : EvOK C V D base) :
    ∀ {xs : List Str} {s : Shared} {loc loc' : Locs} {vs : List MV} {rvs : List Value}, Rep C V base D.ns loc H r s.heap → VRels r vs rvs → Wrs D.ns loc xs vs loc' →
    (∀ h' tk, Rep C V base D.ns loc' H r h' → Qr () { s with heap := h', toks := tk }) → wpAny (model C.pr C.w) A (assignInOrder (xs.map fun n => bindName V.env n) rvs) Qr NoE s := by
  intro xs
  induction xs with
  | nil =>
    intro s loc loc' vs rvs hP hv hw h
    cases hw; cases hv
    exact wpAny_pure (h s.heap s.toks hP)
  | cons x xs ih =>
    intro s loc loc' vs rvs hP hv hw h
    cases hw with
    | cons w1 w2 =>
      cases hv with
      | cons v1 v2 =>
        refine wpAny_assignInOrder_more (wpAny_bindName (store w1 hE hP v1 fun h' tk hP' => ?_))
        exact ih (s := { s with heap := h', toks := tk }) hP' v2 w2 h

theorem Rep.ext {base : Heap} {r : List Addr} {h h' : Heap} (x : Rep C V base D.ns loc H r h) (he : Heap.ExtBut h.objs.size h h') : Rep C V base D.ns loc H r h' :=
  x.grow (x.led.keeps fun b o e => he b o (Nat.ne_of_lt (Heap.lt_size e)) e) (Gr.ofKeeps r fun b o e => he b o (Nat.ne_of_lt (Heap.lt_size e)) e)

/-- several names from a tuple, the stores as they stand -/
theorem ST.tup {elts : List Expr} {k : Nat} {tpos pos : Pos} {value : Expr} {xs : List Str} (ha : AN elts xs)
    (h : EV C V D n value loc H fun v H₁ => ∃ p vs loc', v = .ref p ∧ H₁[p]? = some (.tup vs) ∧ vs.length = xs.length ∧ Wrs D.ns loc xs vs loc' ∧ Q .next loc' H₁)
    (hw : ∀ env, swappedStores [.Tuple elts k tpos] value env = pure none) (hs : ∀ env, swapsWithSole [.Tuple elts k tpos] value pos.line env = pure false := by intro _; rfl) :
    ST C V D n (.Assign [.Tuple elts k tpos] value pos) loc H Q := by
  intro base A s r Qr hR hE hP hQ
  refine Assign_Tuple (hs := hs _) (hw := hw _) (h base A s r _ hR hE hP fun v H₁ rv r₁ h₁ tk₁ q₁ hv l₁ g₁ => ?_)
  obtain ⟨p, vs, loc', rfl, hp, hlen, hw', q⟩ := q₁
  obtain ⟨a, rfl, _, rvs, ht, hr⟩ := l₁.get hp hv
  obtain ⟨e1, e2⟩ := ha.each (env := V.env)
  refine assign_Tuple_tuple hR.hd ht (by rw [e1, List.size_toArray, ← hr.len, hlen]) e2 fun h' he => ?_
  have hP₁ := hP.grow l₁ g₁
  exact storesA ha hE (s := { s with heap := h', toks := tk₁ }) (hP₁.ext he) hr hw' fun h'' tk hP' => hQ _ _ _ _ _ _ tk q rfl hP' g₁.pre

/-- several local names of a function from a tuple display: the stores may be exchanged -/
theorem ST.swap {elts : List Expr} {k : Nat} {tpos pos : Pos} {value : Expr} {xs : List Str} (hloc : ∀ x ∈ xs, x ∈ D.ns ∧ x ∉ D.cs)
    (h : EV C V D n value loc H fun v H₁ => ∃ p vs loc', v = .ref p ∧ H₁[p]? = some (.tup vs) ∧ vs.length = xs.length ∧ Wrs D.ns loc xs.reverse vs.reverse loc' ∧ Q .next loc' H₁)
    (hw : ∀ env : Env, env.scope.kind = .function → (∀ x ∈ xs, env.kindOf x = some .local) → swappedStores [.Tuple elts k tpos] value env = pure (some xs)) (hs : ∀ env, swapsWithSole [.Tuple elts k tpos] value pos.line env = pure false := by intro _; rfl) :
    ST C V D n (.Assign [.Tuple elts k tpos] value pos) loc H Q := by
  intro base A s r Qr hR hE hP hQ
  refine Assign_Tuple_swapped (hs := hs _) (hw := hw V.env hE.kind fun x hx => hE.loc x (hloc x hx).1 (hE.isl x (hloc x hx).1 (hloc x hx).2)) (h base A s r _ hR hE hP fun v H₁ rv r₁ h₁ tk₁ q₁ hv l₁ g₁ => ?_)
  obtain ⟨p, vs, loc', rfl, hp, hlen, hw', q⟩ := q₁
  obtain ⟨a, rfl, _, rvs, ht, hr⟩ := l₁.get hp hv
  have e : xs.length = rvs.toArray.size := by rw [List.size_toArray, ← hr.len, hlen]
  rw [e]
  refine wpAny_unpackItems_tuple hR.hd ht fun h' he => ?_
  have hP₁ := hP.grow l₁ g₁
  have hrev : ∀ {r : List Addr} {vs : List MV} {rvs : List Value}, VRels r vs rvs → VRels r vs.reverse rvs.reverse := by
    intro r vs rvs x
    induction x with
    | nil => exact .nil
    | cons h1 _ ih => rw [List.reverse_cons, List.reverse_cons]; exact ih.app (.one h1)
  exact storesB hE (s := { s with heap := h', toks := tk₁ }) (hP₁.ext he) (hrev hr) hw' fun h'' tk hP' => hQ _ _ _ _ _ _ tk q rfl hP' g₁.pre

/-! stores into lists and the draws' dict -/
noncomputable def SI (C : Cx) (n : Nat) (a b v : MV) (H : MH) (Q : MH → Prop) : Prop :=
  ∀ (A : Around) (s : Shared) (r : List Addr) (base : Heap) (ra rb rv : Value) (Qr : Unit → Shared → Prop), Room A n → BF C base → Led C.pr C.w base r H s.heap → VRel r a ra → VRel r b rb → VRel r v rv →
    (∀ H' r' h' tk, Q H' → Led C.pr C.w base r' H' h' → Gr r s.heap r' h' → Qr () { s with heap := h', toks := tk }) → wpAny (model C.pr C.w) A (setItem ra rb rv) Qr NoE s
theorem SI.list {p : Nat} {xs : List MV} {k : Int} {v : MV} {Q : MH → Prop} (hp : H[p]? = some (.list xs)) (h0 : 0 ≤ k) (h1 : k < xs.length) (h2 : k < 2 ^ 62) (h : Q (H.set p (.list (xs.set k.toNat v)))) : SI C n (.ref p) (.int k) v H Q := by
  rintro A s r base ra rb rv Qr hR hB hL hv ⟨u, rfl⟩ hv' hQ
  obtain ⟨l, rfl, hl', rvs, ⟨j, hl⟩, hr⟩ := hL.get hp hv
  refine ki_setAt hl h0 (by omega) (by rw [List.size_toArray, ← hr.len]; exact h1) ?_
  obtain ⟨l₁, g₁⟩ := hL.upd (c := .list (xs.set k.toNat v)) hl' (Heap.SameBut.update s.heap l (Obj.mapSeq (·.setIfInBounds k.toNat rv))) ⟨rvs.set k.toNat rv, ⟨j, (Heap.get?_update_self _ hl (by simp [Obj.mapSeq]; rfl)).trans (by simp [Obj.mapSeq])⟩, hr.set hv' _⟩
  exact hQ _ _ _ s.toks h l₁ g₁
theorem valid_g {g m : Int} {tg tm : Tok} (x : Int) (t : Tok) : stored [(Str.ofString "great", Value.int g tg), (Str.ofString "mixed", Value.int m tm)] (Str.ofString "great") (.int x t) = [(Str.ofString "great", Value.int x t), (Str.ofString "mixed", Value.int m tm)] := by
  simp [stored, show ¬ (Str.ofString "mixed" = Str.ofString "great") from by decide]
theorem valid_m {g m : Int} {tg tm : Tok} (x : Int) (t : Tok) : stored [(Str.ofString "great", Value.int g tg), (Str.ofString "mixed", Value.int m tm)] (Str.ofString "mixed") (.int x t) = [(Str.ofString "great", Value.int g tg), (Str.ofString "mixed", Value.int x t)] := by
  simp [stored, show ¬ (Str.ofString "great" = Str.ofString "mixed") from by decide]
theorem SI.great {p : Nat} {g m x : Int} {Q : MH → Prop} (hp : H[p]? = some (.draws g m)) (h : Q (H.set p (.draws x m))) : SI C n (.ref p) (.str (Str.ofString "great")) (.int x) H Q := by
  rintro A s r base ra rb rv Qr hR hB hL hv ⟨u, rfl⟩ ⟨tx, rfl⟩ hQ
  obtain ⟨l, rfl, hl', tg, tm, hd⟩ := hL.get hp hv
  refine wpAny_setItem_pairs (knd := PySem.strKind C.pr C.w) (k := Str.ofString "great") (hsz := by show 2 ≤ sizeLine; decide) (strKind_is _ _ _ _) hd fun h' hd' hs => ?_
  rw [valid_g] at hd'
  obtain ⟨l₁, g₁⟩ := hL.upd (c := .draws x m) hl' hs ⟨_, _, hd'⟩
  exact hQ _ _ _ _ h l₁ g₁
theorem SI.mixed {p : Nat} {g m x : Int} {Q : MH → Prop} (hp : H[p]? = some (.draws g m)) (h : Q (H.set p (.draws g x))) : SI C n (.ref p) (.str (Str.ofString "mixed")) (.int x) H Q := by
  rintro A s r base ra rb rv Qr hR hB hL hv ⟨u, rfl⟩ ⟨tx, rfl⟩ hQ
  obtain ⟨l, rfl, hl', tg, tm, hd⟩ := hL.get hp hv
  refine wpAny_setItem_pairs (knd := PySem.strKind C.pr C.w) (k := Str.ofString "mixed") (hsz := by show 2 ≤ sizeLine; decide) (strKind_is _ _ _ _) hd fun h' hd' hs => ?_
  rw [valid_m] at hd'
  obtain ⟨l₁, g₁⟩ := hL.upd (c := .draws g x) hl' hs ⟨_, _, hd'⟩
  exact hQ _ _ _ _ h l₁ g₁
theorem BO.great {value slice : Expr} {p : Nat} {g m : Int} {Q : MV → MH → Prop} (hp : H[p]? = some (.draws g m)) (h : Q (.int g) H)
    (hs : ∀ o i, subscripted slice false o i = operate [o, i] (PySem.getItem o i) := by intro _ _; rfl) : BO C n (subscriptTail value slice) (.ref p) (.str (Str.ofString "great")) H Q := by
  rintro A s r base ra rb Qr hR hB hL hv ⟨u, rfl⟩ hQ
  obtain ⟨l, rfl, _, tg, tm, hd⟩ := hL.get hp hv
  refine tail_any hd.typeIs slot_dict_getitem.lookup (wpAny_getItem_of (strKind_is _ _ _ _) hd.mapOf (k := Str.ofString "great") (v := .int g tg) ?_ (hQ.now h ⟨_, rfl⟩ hL _)) (hs _ _)
  simp [valueAt]
theorem BO.mixed {value slice : Expr} {p : Nat} {g m : Int} {Q : MV → MH → Prop} (hp : H[p]? = some (.draws g m)) (h : Q (.int m) H)
    (hs : ∀ o i, subscripted slice false o i = operate [o, i] (PySem.getItem o i) := by intro _ _; rfl) : BO C n (subscriptTail value slice) (.ref p) (.str (Str.ofString "mixed")) H Q := by
  rintro A s r base ra rb Qr hR hB hL hv ⟨u, rfl⟩ hQ
  obtain ⟨l, rfl, _, tg, tm, hd⟩ := hL.get hp hv
  refine tail_any hd.typeIs slot_dict_getitem.lookup (wpAny_getItem_of (strKind_is _ _ _ _) hd.mapOf (k := Str.ofString "mixed") (v := .int m tm) ?_ (hQ.now h ⟨_, rfl⟩ hL _)) (hs _ _)
  simp [valueAt, show ¬ (Str.ofString "great" = Str.ofString "mixed") from by decide]

theorem ST.setI {value o i : Expr} {pos' pos : Pos} (h : EV C V D n value loc H fun v H₁ => EV C V D n o loc H₁ fun a H₂ => EV C V D n i loc H₂ fun b H₃ => SI C n a b v H₃ fun H₄ => Q .next loc H₄)
    (hs : ∀ env, swapsWith value (some (.Subscript o i pos')) pos.line env = pure false := by intro _; rfl) : ST C V D n (.Assign [.Subscript o i pos'] value pos) loc H Q := by
  intro base A s r Qr hR hE hP hQ
  refine wpAny_Assign_Subscript (hs := hs _) (h base A s r _ hR hE hP fun v H₁ rv r₁ h₁ tk₁ q₁ hv l₁ g₁ => ?_)
  refine q₁ base A _ r₁ _ hR hE (hP.grow l₁ g₁) fun a H₂ ra r₂ h₂ tk₂ q₂ ha l₂ g₂ => ?_
  refine q₂ base A _ r₂ _ hR hE (hP.grow l₂ (g₁.trans g₂)) fun b H₃ rb r₃ h₃ tk₃ q₃ hb l₃ g₃ => ?_
  refine q₃ A _ r₃ _ ra rb rv _ hR hE.bf l₃ (ha.mono g₃.pre) hb (hv.mono (g₂.trans g₃).pre) fun H₄ r₄ h₄ tk₄ q₄ l₄ g₄ => ?_
  exact hQ _ _ _ _ _ _ tk₄ q₄ rfl (hP.grow l₄ (g₁.trans (g₂.trans (g₃.trans g₄)))) (g₁.trans (g₂.trans (g₃.trans g₄))).pre
theorem ST.augI {o i value : Expr} {op : Operator} {pos' pos : Pos} (h : EV C V D n o loc H fun a H₁ => EV C V D n i loc H₁ fun b H₂ => BO C n PySem.getItem a b H₂ fun old H₃ => EV C V D n value loc H₃ fun v H₄ => BO C n (inplaceOp op) old v H₄ fun w H₅ => SI C n a b w H₅ fun H₆ => Q .next loc H₆)
    (ha : ∀ ov iv new, augStore i ov iv new = (do holding [new, ov, iv] (setItem ov iv new); release [new, ov, iv] []; pure .next) := by intro _ _ _; rfl) : ST C V D n (.AugAssign (.Subscript o i pos') op value pos) loc H Q := by
  intro base A s r Qr hR hE hP hQ
  refine wpAny_AugAssign_SubscriptAny (hi := ha) (h base A s r _ hR hE hP fun a H₁ ra r₁ h₁ tk₁ q₁ va l₁ g₁ => ?_)
  refine q₁ base A _ r₁ _ hR hE (hP.grow l₁ g₁) fun b H₂ rb r₂ h₂ tk₂ q₂ vb l₂ g₂ => ?_
  refine q₂ A _ r₂ _ ra rb _ hR hE.bf l₂ (va.mono g₂.pre) vb fun old H₃ ro r₃ h₃ tk₃ q₃ vo l₃ g₃ => ?_
  have g13 := g₁.trans (g₂.trans g₃)
  refine q₃ base A _ r₃ _ hR hE (hP.grow l₃ g13) fun v H₄ rv r₄ h₄ tk₄ q₄ vv l₄ g₄ => ?_
  refine q₄ A _ r₄ _ ro rv _ hR hE.bf l₄ (vo.mono g₄.pre) vv fun w' H₅ rw' r₅ h₅ tk₅ q₅ vw l₅ g₅ => ?_
  have g25 := g₂.trans (g₃.trans (g₄.trans g₅))
  refine q₅ A _ r₅ _ ra rb rw' _ hR hE.bf l₅ (va.mono g25.pre) (vb.mono (g₃.trans (g₄.trans g₅)).pre) vw fun H₆ r₆ h₆ tk₆ q₆ l₆ g₆ => ?_
  exact hQ _ _ _ _ _ _ tk₆ q₆ rfl (hP.grow l₆ (g₁.trans (g25.trans g₆))) (g₁.trans (g25.trans g₆)).pre
end rules
section rules
variable {C : Cx} {V : Ev} {D : Dn} {n : Nat} {loc : Locs} {H : MH} {Q : Fl → Locs → MH → Prop}

/-- what a loop's turn hands on -/
noncomputable def Turn (I : Locs → MH → Prop) (Q : Fl → Locs → MH → Prop) : Fl → Locs → MH → Prop
  | .next, l, h => I l h
  | .ret v, l, h => Q (.ret v) l h

theorem noted_of {M : Model} {A : Around} {env : Env} {E : Value → Shared → Prop} {α : Type} {t : Sem α} {Q : α → Shared → Prop} {s : Shared} (h : wpAny M A t Q NoE s) : wpAny M A t Q (notedBy M A env E) s :=
  wpAny_mono h (fun _ _ x => x) fun _ _ x => x.elim

theorem ST.whl {test : Expr} {body : List Stmt} {pos : Pos} (I : Nat → Locs → MH → Prop) (h0 : ∃ m, I m loc H)
    (turn : ∀ m l h, I m l h → TT C V D n test l h fun b h' => if b then SS C V D n body l h' (Turn (fun l₂ h₂ => ∃ m', m' < m ∧ I m' l₂ h₂) Q) else Q .next l h') : ST C V D n (.While test body [] pos) loc H Q := by
  intro base A s r Qr hR hE hP hQ
  obtain ⟨m₀, hI⟩ := h0
  refine wpAny_While (codeAny_whileLoop (fun k s' => ∃ h' tk r' l' H', s' = { s with heap := h', toks := tk } ∧ Rep C V base D.ns l' H' r' h' ∧ r <+: r' ∧ I k l' H') ?_ m₀ ⟨s.heap, s.toks, r, loc, H, rfl, hP, List.prefix_refl _, hI⟩)
  rintro k s' ⟨h', tk, r', l', H', rfl, hP', hr', hI'⟩
  refine noted_of (turn k l' H' hI' base A _ r' _ hR hE hP' fun b H₁ r₁ h₁ tk₁ q₁ l₁ g₁ => ?_)
  cases b with
  | false => exact wpAny_execs_nil (hQ _ _ _ _ _ _ _ q₁ rfl (hP'.grow l₁ g₁) (hr'.trans g₁.pre))
  | true =>
    refine noted_of (q₁ base A _ r₁ _ hR hE (hP'.grow l₁ g₁) fun f l₂ H₂ fr r₂ h₂ tk₂ q₂ hf hP₂ g₂ => ?_)
    cases f with
    | next =>
      obtain rfl := hf
      obtain ⟨m', hm, hI₂⟩ := q₂
      exact ⟨m', hm, h₂, tk₂, r₂, l₂, H₂, rfl, hP₂, (hr'.trans g₁.pre).trans g₂, hI₂⟩
    | ret v =>
      obtain ⟨rv, rfl, hv⟩ := hf
      exact hQ _ _ _ _ _ _ tk₂ q₂ ⟨rv, rfl, hv⟩ hP₂ ((hr'.trans g₁.pre).trans g₂)

/-- a larger base: all that stands but the ledger, the frame and its cells -/
noncomputable def hid (V : Ev) (D : Dn) (r : List Addr) (h : Heap) : Heap := hideAll h (r ++ V.env.locals :: D.ns.filterMap V.cell)
theorem hid_sub {r : List Addr} {h : Heap} : ∀ b o, (hid V D r h).get? b = some o → h.get? b = some o := fun b o e => of_hideAll _ e
theorem hid_get {r : List Addr} {h : Heap} {b : Addr} {o : Obj} (e : h.get? b = some o) (h1 : b ∉ r) (h2 : b ≠ V.env.locals) (h3 : ∀ x ∈ D.ns, V.cell x ≠ some b) : (hid V D r h).get? b = some o := by
  refine hideAll_get _ e fun hm => ?_
  rcases List.mem_append.mp hm with q | q
  · exact h1 q
  · rcases List.mem_cons.mp q with q | q
    · exact h2 q
    · obtain ⟨x, hx, hc⟩ := List.mem_filterMap.mp q
      exact h3 x hx hc
theorem hid_none {r : List Addr} {h : Heap} {b : Addr} (hb : b ∈ r ∨ b = V.env.locals ∨ ∃ x ∈ D.ns, V.cell x = some b) : (hid V D r h).get? b = none := by
  refine hideAll_none _ (List.mem_append.mpr ?_)
  rcases hb with q | q | ⟨x, hx, hc⟩
  · exact .inl q
  · exact .inr (List.mem_cons.mpr (.inl q))
  · exact .inr (List.mem_cons.mpr (.inr (List.mem_filterMap.mpr ⟨x, hx, hc⟩)))
theorem hid_base {base : Heap} {r : List Addr} {h : Heap} (hE : EvOK C V D base) (hP : Rep C V base D.ns loc H r h) : ∀ b o, base.get? b = some o → (hid V D r h).get? b = some o := fun b o e =>
  hid_get (hP.led.sub b o e) (fun q => by rw [hP.led.off b q] at e; cases e) (fun q => by rw [q, hE.bl] at e; cases e) fun x hx q => by rw [hE.bc x hx b q] at e; cases e
theorem hid_ok {base : Heap} {r : List Addr} {h : Heap} (hE : EvOK C V D base) (hP : Rep C V base D.ns loc H r h) : EvOK C V D (hid V D r h) :=
  { hE with bf := hE.bf.keeps (hid_base hE hP), bl := hid_none (.inr (.inl rfl)), bc := fun x hx c hc => hid_none (.inr (.inr ⟨x, hx, hc⟩)) }
theorem hid_rep {base : Heap} {r : List Addr} {h : Heap} (hP : Rep C V base D.ns loc H r h) : Rep C V (hid V D r h) D.ns loc H r h :=
  { hP with led := { hP.led with sub := hid_sub, off := fun a ha => hid_none (.inl ha) } }
theorem Rep.down {base base' : Heap} {ns : List Str} {r : List Addr} {h : Heap} (hP : Rep C V base' ns loc H r h) (hs : ∀ b o, base.get? b = some o → base'.get? b = some o) : Rep C V base ns loc H r h :=
  { hP with led := { hP.led with
      sub := fun b o e => hP.led.sub b o (hs b o e)
      off := fun a ha => by
        cases e : base.get? a with
        | none => rfl
        | some o =>
          have := hs a o e
          rw [hP.led.off a ha] at this
          cases this } }

/-- what an iterator over the abstract items is -/
structure ItAt (C : Cx) (n : Nat) (r₀ : List Addr) (k : Nat) (item : Nat → MV) (keep : MH → Prop) (it : Addr) (It : Nat → Heap → Prop) : Prop where
  frame : ∀ i h h', It i h → (∀ o, h.get? it = some o → h'.get? it = some o) → It i h'
  live : ∀ i h, It i h → ∃ o, h.get? it = some o
  self : ∀ (A : Around) (s : Shared) (i : Nat) (Qr : Value → Shared → Prop), It i s.heap → Qr (.ref it) s → wpAny (model C.pr C.w) A (pyIter (.ref it)) Qr NoE s
  item : ∀ (A : Around) (s : Shared) (r : List Addr) (base : Heap) (H : MH) (i : Nat) (Qr : Option Value → Shared → Prop), Room A n → Led C.pr C.w base r H s.heap → r₀ <+: r → keep H → i < k → It i s.heap →
    (∀ rv h' tk, VRel r (item i) rv → It (i + 1) h' → Heap.SameBut it s.heap h' → Qr (some rv) { s with heap := h', toks := tk }) → wpAny (model C.pr C.w) A (pyNext (.ref it)) Qr NoE s
  done : ∀ (A : Around) (s : Shared) (r : List Addr) (base : Heap) (H : MH) (Qr : Option Value → Shared → Prop), Room A n → Led C.pr C.w base r H s.heap → r₀ <+: r → keep H → It k s.heap →
    (∀ h' tk, Heap.ExtBut it s.heap h' → Qr none { s with heap := h', toks := tk }) → wpAny (model C.pr C.w) A (pyNext (.ref it)) Qr NoE s

/-- iterating over an abstract value -/
noncomputable def Iter (C : Cx) (n : Nat) (v : MV) (H : MH) (k : Nat) (item : Nat → MV) (keep : MH → Prop) : Prop :=
  keep H ∧ ∀ (A : Around) (s : Shared) (r : List Addr) (base : Heap) (rv : Value) (Qr : Value → Shared → Prop), Room A n → Led C.pr C.w base r H s.heap → VRel r v rv →
    (∀ h' tk It, ItAt C n r k item keep s.heap.objs.size It → It 0 h' → (∀ b o, s.heap.get? b = some o → h'.get? b = some o) → Qr (.ref s.heap.objs.size) { s with heap := h', toks := tk }) → wpAny (model C.pr C.w) A (pyIter rv) Qr NoE s

theorem Iter.list {p : Nat} {xs : List MV} (hp : H[p]? = some (.list xs)) : Iter C n (.ref p) H xs.length (fun i => xs.getD i .none) (fun H' => H'[p]? = some (.list xs)) := by
  refine ⟨hp, fun A s r base rv Qr hR hL hv hQ => ?_⟩
  obtain ⟨l, rfl, hl', rvs, hl, hr⟩ := hL.get hp hv
  have look : ∀ {r' : List Addr} {base' : Heap} {H' : MH} {h' : Heap}, Led C.pr C.w base' r' H' h' → r <+: r' → H'[p]? = some (.list xs) → ∃ rvs : List Value, h'.IsList l rvs.toArray ∧ VRels r' xs rvs := by
    intro r' base' H' h' hL' hr' hp'
    obtain ⟨a, ea, _, rvs', hl₂, hr₂⟩ := hL'.get hp' (hv.mono hr')
    cases ea
    exact ⟨rvs', hl₂.isList, hr₂⟩
  refine wpAny_pyIter_list hl.isList (hQ _ s.toks (fun i h => h.IsListIter s.heap.objs.size l i) ⟨?_, ?_, fun A s i Qr w q => wpAny_pyIter_listiter w q, ?_, ?_⟩ ⟨_, Heap.get?_push_size _ rfl, rfl, rfl⟩ fun b o e => Heap.get?_push_of_some _ e)
  · rintro i h h' ⟨o, ho, q⟩ hk
    exact ⟨o, hk o ho, q⟩
  · rintro i h ⟨o, ho, _⟩
    exact ⟨o, ho⟩
  · intro A s' r' base' H' i Qr hR hL' hr' hp' hi hit hQ'
    obtain ⟨rvs', hl₂, hr₂⟩ := look hL' hr' hp'
    obtain ⟨rv, e, hv'⟩ := hr₂.get (i := i) (v := xs[i]) (by simp [hi])
    refine wpAny_pyNext_list_item hit hl₂ (x := rv) (by simpa using e) fun h' hit' hs => ?_
    have e2 : xs.getD i .none = xs[i] := by simp [List.getD, hi]
    exact hQ' rv h' s'.toks (by rw [e2]; exact hv') hit' hs
  · intro A s' r' base' H' Qr hR hL' hr' hp' hit hQ'
    obtain ⟨rvs', hl₂, hr₂⟩ := look hL' hr' hp'
    exact wpAny_pyNext_list_end hR.hd hit hl₂ (by simp [hr₂.len]) fun h' he => hQ' h' s'.toks he

theorem Iter.range {p : Nat} {a b c : Int} (hp : H[p]? = some (.range a b c)) (hs : Builtin.Range.small a b c = true) :
    Iter C n (.ref p) H (Builtin.Range.rangeSize a b c).toNat (fun i => .int (a + i * c)) (fun _ => True) := by
  refine ⟨trivial, fun A s r base rv Qr hR hL hv hQ => ?_⟩
  obtain ⟨l, rfl, hl', t, u, v, hl⟩ := hL.get hp hv
  refine wpAny_pyIter_range hl hs (hQ _ s.toks (fun i h => IsRangeIter h s.heap.objs.size (a + (i : Nat) * c) (Builtin.Range.rangeSize a b c - (i : Nat)) c) ⟨?_, ?_, fun A s i Qr w q => wpAny_pyIter_rangeiter w q, ?_, ?_⟩ ?_ fun b o e => Heap.get?_push_of_some _ e)
  · intro i h h' q hk
    exact hk _ q
  · intro i h q
    exact ⟨_, q⟩
  · intro A s' r' base' H' i Qr hR hL' hr' hp' hi hit hQ'
    refine wpAny_pyNext_range_item hit (by omega) fun h' hit' hs' => hQ' _ h' _ ⟨_, rfl⟩ ?_ hs'
    have e1 : a + (i : Nat) * c + c = a + ((i + 1 : Nat) : Int) * c := by rw [Int.natCast_succ, Int.add_mul, Int.one_mul]; omega
    have e2 : Builtin.Range.rangeSize a b c - (i : Nat) - 1 = Builtin.Range.rangeSize a b c - ((i + 1 : Nat) : Int) := by omega
    rw [e1, e2] at hit'
    exact hit'
  · intro A s' r' base' H' Qr hR hL' hr' hp' hit hQ'
    exact wpAny_pyNext_range_end hR.hd hit (by omega) fun h' he => hQ' h' s'.toks he
  · have := Heap.get?_push_size s.heap (o := { cls := .type "range_iterator", data := .fields #[rawInt a, rawInt (Builtin.Range.rangeSize a b c), rawInt c] }) rfl
    simpa using this

/-- for x in ..: by an invariant over the turns -/
theorem ST.for_ {x : Str} {px pos : Pos} {iter : Expr} {body : List Stmt} (hx : x ∈ D.ns ∧ x ∉ D.cs)
    (h : EV C V D n iter loc H fun v H₁ => ∃ k item keep, Iter C n v H₁ k item keep ∧ ∃ I : Nat → Locs → MH → Prop, I 0 loc H₁ ∧ (∀ i l h', I i l h' → keep h') ∧
      (∀ i l h', i < k → I i l h' → ∃ l', Wr D.ns l x (item i) l' ∧ SS C V D n body l' h' (Turn (I (i + 1)) Q)) ∧ ∀ l h', I k l h' → Q .next l h')
    (hs : ∀ x env, foldedSetIterable iter env x = pure x := by intro _ _; rfl) : ST C V D n (.For (.Name x px) iter body [] pos) loc H Q := by
  intro base A s r Qr hR hE hP hQ
  refine wpAny_For (hs := fun x => hs x _) (h base A s r _ hR hE hP fun v H₁ rv r₁ h₁ tk₁ q₁ hv l₁ g₁ => ?_)
  obtain ⟨k, item, keep, ⟨hk0, hit⟩, I, hI0, hIk, turn, fin⟩ := q₁
  refine hit A _ r₁ base rv _ hR l₁ hv fun h₂ tk₂ It W w0 hk₂ => ?_
  have hP₁ := hP.grow l₁ g₁
  have hnew : h₁.get? h₁.objs.size = none := at_size _
  obtain ⟨m₁, ⟨oL, esL, epL, hoL, _⟩, _⟩ := hP₁.lcl
  have hIL : h₁.objs.size ≠ V.env.locals := fun q => by rw [q, hoL] at hnew; cases hnew
  have hIC : ∀ y ∈ D.ns, V.cell y ≠ some h₁.objs.size := fun y hy q => by
    obtain ⟨i, hi, e⟩ := List.getElem_of_mem hy
    obtain ⟨ov, ⟨o, ho, _⟩, _⟩ := hP₁.cel i y _ (by rw [List.getElem?_eq_getElem hi, e]) q
    rw [hnew] at ho; cases ho
  have hIr : h₁.objs.size ∉ r₁ := fun q => by
    obtain ⟨j, hj, e⟩ := List.getElem_of_mem q
    obtain ⟨a, ha, hc⟩ := l₁.bear j (H₁[j]'(l₁.len ▸ hj)) (by simp)
    obtain ⟨o, ho⟩ := hc.some
    rw [List.getElem?_eq_getElem hj, e] at ha
    cases ha
    rw [hnew] at ho; cases ho
  have hP₂ : Rep C V base D.ns loc H₁ r₁ h₂ := hP₁.grow (l₁.keeps hk₂) (Gr.ofKeeps r₁ hk₂)
  refine codeAny_forLoop (fun j s' => ∃ i h' tk r' l' H', s' = { s with heap := h', toks := tk } ∧ j = k - i ∧ i ≤ k ∧ Rep C V base D.ns l' H' r' h' ∧ r₁ <+: r' ∧ I i l' H' ∧ It i h' ∧ h₁.objs.size ∉ r') ?_ k
    ⟨0, h₂, tk₂, r₁, loc, H₁, rfl, rfl, Nat.zero_le _, hP₂, List.prefix_refl _, hI0, w0, hIr⟩
  rintro j s' ⟨i, h', tk, r', l', H', rfl, rfl, hik, hP', hr', hI, hW, hoff⟩
  by_cases hlt : i < k
  · refine noted_of (W.item A _ r' base H' i _ hR hP'.led hr' (hIk i l' H' hI) hlt hW fun rv h₃ tk₃ hv₃ hW₃ hs₃ => ?_)
    obtain ⟨o₃, ho₃⟩ := W.live i h' hW
    have hbI : base.get? h₁.objs.size = none := by
      cases e : base.get? h₁.objs.size with
      | none => rfl
      | some o => rw [hP₁.led.sub _ _ e] at hnew; cases hnew
    -- the iterator turned
    have hP₃ : Rep C V base D.ns l' H' r' h₃ := by
      refine ⟨hP'.led.other hbI hoff hs₃, ?_, ?_, hP'.offL, hP'.offC⟩
      · obtain ⟨m, hn, q⟩ := hP'.lcl
        exact ⟨m, hn.sameBut hs₃ (Ne.symm hIL), q⟩
      · intro a y c h1 h2
        obtain ⟨ov, hc, q⟩ := hP'.cel a y c h1 h2
        exact ⟨ov, hc.sameBut hs₃ fun e => hIC y (List.mem_of_getElem? h1) (e ▸ h2), q⟩
    obtain ⟨l₄, hw, hb⟩ := turn i l' H' hlt hI
    have hE' := hid_ok hE hP₃
    have hst : ∀ o, h₃.get? h₁.objs.size = some o → (hid V D r' h₃).get? h₁.objs.size = some o := fun o e => hid_get e hoff hIL hIC
    refine wpAny_assign_Name (noted_of (store hw hE' (hid_rep hP₃) hv₃ fun h₄ tk₄ hP₄ => ?_))
    refine noted_of (hb (hid V D r' h₃) A _ r' _ hR hE' hP₄ fun f l₅ H₅ fr r₅ h₅ tk₅ q₅ hf hP₅ g₅ => ?_)
    cases f with
    | next =>
      obtain rfl := hf
      obtain ⟨o, ho⟩ := W.live _ _ hW₃
      refine ⟨k - (i + 1), by omega, i + 1, h₅, tk₅, r₅, l₅, H₅, rfl, rfl, hlt, hP₅.down (hid_base hE hP₃), hr'.trans g₅, q₅, W.frame _ _ _ hW₃ fun o e => hP₅.led.sub _ _ (hst o e), fun q => ?_⟩
      have := hP₅.led.off _ q
      rw [hst o ho] at this; cases this
    | ret v =>
      obtain ⟨rv', rfl, hv'⟩ := hf
      exact hQ _ _ _ _ _ _ tk₅ q₅ ⟨rv', rfl, hv'⟩ (hP₅.down (hid_base hE hP₃)) ((g₁.pre.trans hr').trans g₅)
  · have hik' : i = k := by omega
    subst hik'
    refine noted_of (W.done A _ r' base H' _ hR hP'.led hr' (hIk i l' H' hI) hW fun h₃ tk₃ he => ?_)
    refine wpAny_execs_nil (hQ .next l' H' .next r' h₃ tk₃ (fin l' H' hI) rfl ?_ (g₁.pre.trans hr'))
    have hne : ∀ {b : Addr}, b ∈ r' → b ≠ h₁.objs.size := fun hb q => hoff (q ▸ hb)
    refine ⟨⟨fun b o e => he b o ?_ (hP'.led.sub b o e), hP'.led.len, hP'.led.nd, hP'.led.off, fun p c e => ?_⟩, ?_, ?_, hP'.offL, hP'.offC⟩
    · rintro rfl
      rw [hP₁.led.sub _ _ e] at hnew; cases hnew
    · obtain ⟨a, ha, hc⟩ := hP'.led.bear p c e
      exact ⟨a, ha, hc.keeps fun o e => he a o (hne (List.mem_of_getElem? ha)) e⟩
    · obtain ⟨m, ⟨o, es, ep, ho, q⟩, q'⟩ := hP'.lcl
      exact ⟨m, ⟨o, es, ep, he _ _ (Ne.symm hIL) ho, q⟩, q'⟩
    · intro a y c h1 h2
      obtain ⟨ov, ⟨o, ho, q⟩, q'⟩ := hP'.cel a y c h1 h2
      exact ⟨ov, ⟨o, he _ _ (fun e => hIC y (List.mem_of_getElem? h1) (e ▸ h2)) ho, q⟩, q'⟩
end rules
theorem bindL_one {k : Str → Option NameKind} {p : Str} {v : Value} {l : List (Str × Value)} {m : Str → Option Value} : bindL k ((p, v) :: l) m = bindL k l (if k p = some .local then fun y => if y = p then some v else m y else m) := rfl
theorem bindL_off {k : Str → Option NameKind} {x : Str} : ∀ {ps : List Str} {rvs : List Value} {m : Str → Option Value}, x ∉ ps → bindL k (ps.zip rvs) m x = m x
  | [], rvs, m, _ => rfl
  | p :: ps, [], m, _ => rfl
  | p :: ps, v :: rvs, m, h => by
    rw [List.zip_cons_cons, bindL_one, bindL_off (fun q => h (.tail _ q))]
    have hne : x ≠ p := fun q => h (q ▸ .head _)
    split
    · simp [hne]
    · rfl
theorem bindL_at {k : Str → Option NameKind} {x : Str} (hk : k x = some .local) : ∀ {ps : List Str} {rvs : List Value} {m : Str → Option Value} {i : Nat} {v : Value}, ps.Nodup → ps[i]? = some x → rvs[i]? = some v → bindL k (ps.zip rvs) m x = some v
  | [], rvs, m, i, v, _, h, _ => by simp at h
  | p :: ps, [], m, i, v, _, _, h => by simp at h
  | p :: ps, w :: rvs, m, 0, v, hn, h, h' => by
    simp at h h'
    subst h h'
    rw [List.zip_cons_cons, bindL_one, bindL_off (List.nodup_cons.mp hn).1, if_pos hk]
    simp
  | p :: ps, w :: rvs, m, i + 1, v, hn, h, h' => by
    rw [List.zip_cons_cons, bindL_one]
    exact bindL_at hk (List.nodup_cons.mp hn).2 (by simpa using h) (by simpa using h')
theorem bindC_one {k : Str → Option NameKind} {p : Str} {v : Value} {l : List (Str × Value)} {m : Str → Option Value} : bindC k ((p, v) :: l) m = bindC k l (if k p = some .local then m else fun y => if y = p then some v else m y) := rfl
theorem bindC_off {k : Str → Option NameKind} {x : Str} : ∀ {ps : List Str} {rvs : List Value} {m : Str → Option Value}, x ∉ ps → bindC k (ps.zip rvs) m x = m x
  | [], rvs, m, _ => rfl
  | p :: ps, [], m, _ => rfl
  | p :: ps, v :: rvs, m, h => by
    rw [List.zip_cons_cons, bindC_one, bindC_off (fun q => h (.tail _ q))]
    have hne : x ≠ p := fun q => h (q ▸ .head _)
    split
    · rfl
    · simp [hne]
theorem bindC_at {k : Str → Option NameKind} {x : Str} (hk : k x = some .cell) : ∀ {ps : List Str} {rvs : List Value} {m : Str → Option Value} {i : Nat} {v : Value}, ps.Nodup → ps[i]? = some x → rvs[i]? = some v → bindC k (ps.zip rvs) m x = some v
  | [], rvs, m, i, v, _, h, _ => by simp at h
  | p :: ps, [], m, i, v, _, _, h => by simp at h
  | p :: ps, w :: rvs, m, 0, v, hn, h, h' => by
    simp at h h'
    subst h h'
    rw [List.zip_cons_cons, bindC_one, bindC_off (List.nodup_cons.mp hn).1, if_neg (by rw [hk]; decide)]
    simp
  | p :: ps, w :: rvs, m, i + 1, v, hn, h, h' => by
    rw [List.zip_cons_cons, bindC_one]
    exact bindC_at hk (List.nodup_cons.mp hn).2 (by simpa using h) (by simpa using h')

/-- the def's table of names is as D tells -/
noncomputable def okD (sc : Scope) (D : Dn) (ps : List Str) : Bool :=
  decide D.ns.Nodup && D.ns.all (fun x => if D.cs.contains x then sc.names.lookup x == some .cell else sc.names.lookup x == some .local) && D.cs.all (fun x => D.ns.contains x) &&
    D.gs.all (fun x => sc.names.lookup x == some .globalImplicit) && (D.ns.take ps.length == ps)

noncomputable def FnOut (Q : MV → MH → Prop) : Fl → Locs → MH → Prop
  | .next, _, H => Q .none H
  | .ret v, _, H => Q v H

theorem live_of {C : Cx} {base h : Heap} {r : List Addr} {H : MH} (hL : Led C.pr C.w base r H h) {a : Addr} (ha : a ∈ r) : ∃ o, h.get? a = some o := by
  obtain ⟨j, hj, e⟩ := List.getElem_of_mem ha
  obtain ⟨b, hb, hc⟩ := hL.bear j (H[j]'(hL.len ▸ hj)) (by simp)
  obtain ⟨o, ho⟩ := hc.some
  rw [List.getElem?_eq_getElem hj, e] at hb
  cases hb
  exact ⟨o, ho⟩

theorem FN.enter {C : Cx} {n : Nat} {H : MH} {Q : MV → MH → Prop} {f : Addr} {o : Obj} {fd : FuncData} {body : List Stmt} {D : Dn} {ps : List Str} {vs : List MV} {loc : Locs}
    (ho : C.K.lookup f = some o) (hd : o.data = .func fd) (hbody : fd.body = .stmts body) (hcd : codeIn C.K fd.code fd.qualname = true) (hD : okD fd.scope D ps = true)
    (hbind : ∀ rvs : List Value, rvs.length = ps.length → bindArgs fd ⟨rvs, []⟩ = pure (ps.zip rvs)) (hlen : vs.length = ps.length)
    (hloc : ∀ (i : Nat) (v : MV), loc[i]? = some (some v) → vs[i]? = some v)
    (h : ∀ V, SS C V D n body loc H (FnOut Q))
    (hclo : fd.closure = [] := by rfl) (hg : fd.globals = mainGlobals := by rfl) (hb : fd.builtins = builtinsNs := by rfl)
    (hco : fd.scope.isCoroutine = false := by rfl) (hgen : fd.scope.isGenerator = false := by rfl) (hk : fd.scope.kind = .function := by rfl) : FN C (.ref f) (n + 1) vs H Q := by
  intro A s r base rvs Qr hR hB hL hv hQ
  unfold okD at hD
  simp only [Bool.and_eq_true, decide_eq_true_eq, List.all_eq_true, List.contains_iff_mem, beq_iff_eq] at hD
  obtain ⟨⟨⟨⟨d1, d2⟩, d3⟩, d4⟩, d5⟩ := hD
  have dl : ∀ x ∈ D.ns, x ∉ D.cs → fd.scope.names.lookup x = some .local := fun x hx hc => by
    have := d2 x hx
    rw [if_neg hc] at this; simpa using this
  have dc : ∀ x ∈ D.cs, fd.scope.names.lookup x = some .cell := fun x hx => by
    have := d2 x (d3 x hx)
    rw [if_pos hx] at this; simpa using this
  have hpn : ps.Nodup := by rw [← d5]; exact d1.sublist (List.take_sublist ..)
  have hpm : ∀ x ∈ ps, x ∈ D.ns := fun x hx => by rw [← d5] at hx; exact List.mem_of_mem_take hx
  have hrl : rvs.length = ps.length := by rw [← hv.len, hlen]
  have hfo : s.heap.get? f = some o := hL.sub _ _ (hB.kin _ _ ho)
  refine wpAny_call (codeAny_call_cells (fd := fd) (body := body) (binds := ps.zip rvs) (by have := hR.dp; omega) hfo hd (hB.nl.keeps hL.sub) (codeRec_of (fun a o e => hL.sub a o (hB.kin a o e)) hcd) hbody (hbind rvs hrl) hclo ?_ ?_ hco hgen hk)
  · intro x hx
    have hxp : x.1 ∈ ps := (List.of_mem_zip hx).1
    by_cases hc : x.1 ∈ D.cs
    · exact .inr ⟨dc _ hc, cellsFrom_some _ _ _ (.inl (dc _ hc))⟩
    · exact .inl (dl _ (hpm _ hxp) hc)
  intro s₁ X
  obtain ⟨h₁, tk₁, rfl, hk₁⟩ := X.done
  let V : Ev := ⟨callEnvC fd s.heap.objs.size f, fun x => if x ∈ D.cs then (cellsFrom (s.heap.objs.size + 1) fd.scope.names []).lookup x else none⟩
  have hcell : ∀ {x : Str} {c : Addr}, V.cell x = some c → x ∈ D.cs ∧ (cellsFrom (s.heap.objs.size + 1) fd.scope.names []).lookup x = some c := fun {x c} e => by
    by_cases hc : x ∈ D.cs
    · exact ⟨hc, by simpa [V, hc] using e⟩
    · simp [V, hc] at e
  have habove : ∀ {x : Str} {c : Addr}, V.cell x = some c → s.heap.objs.size < c := fun e => X.above _ _ (mem_of_lookup (hcell e).2)
  have dead : ∀ {a : Addr}, s.heap.objs.size ≤ a → s.heap.get? a = none := fun {a} ha => by
    cases e : s.heap.get? a with
    | none => rfl
    | some o => exact absurd (Heap.lt_size e) (Nat.not_lt.mpr ha)
  have hbs : ∀ b o, (hideAll s.heap r).get? b = some o → s.heap.get? b = some o := fun b o e => of_hideAll _ e
  have dead' : ∀ {a : Addr}, s.heap.objs.size ≤ a → (hideAll s.heap r).get? a = none := fun {a} ha => by
    cases e : (hideAll s.heap r).get? a with
    | none => rfl
    | some o => have := hbs _ _ e; rw [dead ha] at this; cases this
  have hbb : ∀ b o, base.get? b = some o → (hideAll s.heap r).get? b = some o := fun b o e => hideAll_get _ (hL.sub b o e) fun q => by rw [hL.off b q] at e; cases e
  have hoff : ∀ {a : Addr}, s.heap.objs.size ≤ a → a ∉ r := fun {a} ha q => by
    obtain ⟨o, e⟩ := live_of hL q
    rw [dead ha] at e; cases e
  have hE : EvOK C V D (hideAll s.heap r) := {
    bf := hB.keeps hbb
    kind := hk
    glob := hg
    blt := hb
    nd := d1
    isl := fun x _ hc => by simp [V, hc]
    isc := fun x hc => by
      obtain ⟨c, e⟩ := Option.isSome_iff_exists.mp (cellsFrom_some fd.scope.names (s.heap.objs.size + 1) [] (.inl (dc x hc)))
      exact ⟨c, by simp [V, hc, e]⟩
    csn := d3
    loc := fun x hx e => by
      by_cases hc : x ∈ D.cs
      · obtain ⟨c, e'⟩ := Option.isSome_iff_exists.mp (cellsFrom_some fd.scope.names (s.heap.objs.size + 1) [] (.inl (dc x hc)))
        simp [V, hc, e'] at e
      · exact dl x hx hc
    cel := fun x hx c e => ⟨dc x (hcell e).1, (hcell e).2⟩
    gl := d4
    apart := fun x _ c e => Nat.ne_of_gt (habove e)
    inj := fun x _ y _ c e e' => name_of_addr X.apart (mem_of_lookup (hcell e).2) (mem_of_lookup (hcell e').2)
    bl := dead' (Nat.le_refl _)
    bc := fun x _ c e => dead' (Nat.le_of_lt (habove e)) }
  have hix : ∀ {i : Nat} {x : Str} {v : MV}, D.ns[i]? = some x → loc[i]? = some (some v) → ps[i]? = some x ∧ ∃ rv, rvs[i]? = some rv ∧ VRel r v rv := fun {i x v} h1 h2 => by
    have h3 := hloc i v h2
    obtain ⟨rv, e, hr⟩ := hv.get h3
    have hi : i < ps.length := by
      rw [← hlen]
      rcases Nat.lt_or_ge i vs.length with q | q
      · exact q
      · rw [List.getElem?_eq_none q] at h3; cases h3
    exact ⟨by rw [← d5, List.getElem?_take_of_lt hi]; exact h1, rv, e, hr⟩
  have hP : Rep C V (hideAll s.heap r) D.ns loc H r h₁ := {
    led := ⟨fun b o e => hk₁ b o (hbs b o e), hL.len, hL.nd, fun a ha => hideAll_none _ ha, fun p c e => let ⟨a, ha, hc⟩ := hL.bear p c e; ⟨a, ha, hc.keeps fun o e => hk₁ a o e⟩⟩
    lcl := ⟨_, X.toInCall.ns, fun i x v h1 h2 h3 => by
      obtain ⟨a, rv, e, hr⟩ := hix h1 h2
      exact ⟨rv, bindL_at (hE.loc x (List.mem_of_getElem? h1) h3) hpn a e, hr⟩⟩
    cel := fun i x c h1 h2 => by
      refine ⟨_, X.cell x c (hcell h2).2, fun v h3 => ?_⟩
      obtain ⟨a, rv, e, hr⟩ := hix h1 h3
      exact ⟨rv, bindC_at (dc x (hcell h2).1) hpn a e, hr⟩
    offL := hoff (Nat.le_refl _)
    offC := fun x _ c e => hoff (Nat.le_of_lt (habove e)) }
  have hR' : Room (A.deeper (callEnvC fd s.heap.objs.size f)) n := ⟨hR.hd, by show A.depth + 1 + n + 4 < _; have := hR.dp; omega, by show A.units + 3 + 8 * n + 200 < _; have := hR.un; omega⟩
  refine wpAny_mono (h V _ _ _ r (fun f s' => Qr (match f with | .ret v => v | _ => .none) s') hR' hE hP fun f loc' H' fr r' h' tk q hf hP' hr' => ?_) (fun _ _ x => x) fun _ _ x => False.elim x
  have hg' : Gr r s.heap r' h' := ⟨hr', fun b o e hb => hP'.led.sub b o (hideAll_get _ e hb), fun a ha => by
    by_cases hm : a ∈ r
    · exact .inl hm
    · cases e : s.heap.get? a with
      | none => exact .inr rfl
      | some o => have := hP'.led.off a ha; rw [hideAll_get _ e hm] at this; cases this⟩
  cases f with
  | next => obtain rfl := hf; exact hQ .none H' .none r' h' tk q rfl (hP'.down hbb).led hg'
  | ret v => obtain ⟨rv, rfl, hv'⟩ := hf; exact hQ v H' rv r' h' tk q hv' (hP'.down hbb).led hg'
/-- the cells that a block's closure takes -/
noncomputable def clOf (cell : Str → Option Addr) : List (Str × NameKind) → List (Str × Addr) → List (Str × Addr)
  | [], acc => acc
  | (x, k) :: r, acc => if k == .free then clOf cell r ((x, (cell x).getD 0) :: acc) else clOf cell r acc
theorem closure_of {env : Env} {cell : Str → Option Addr} {names : List (Str × NameKind)} (h : ∀ x ∈ names, x.2 = .free → ∃ c, cell x.1 = some c ∧ env.cells.lookup x.1 = some c) :
    ∀ acc, (forIn names acc fun (x : Str × NameKind) (cs : List (Str × Addr)) => if x.2 == .free then (do let a ← cellOf env x.1; pure (ForInStep.yield ((x.1, a) :: cs))) else pure (ForInStep.yield cs) : Sem (List (Str × Addr))) = pure (clOf cell names acc) := by
  induction names with
  | nil => intro acc; rfl
  | cons y r ih =>
    intro acc
    obtain ⟨x, k⟩ := y
    rw [List.forIn_cons]
    by_cases hk : k = .free
    · subst hk
      obtain ⟨c, e1, e2⟩ := h _ (.head _) rfl
      have e3 : cellOf env x = pure c := by unfold cellOf; rw [e2]
      simp only [beq_self_eq_true, if_true, e3, pure_bind]
      rw [ih (fun y hy => h y (.tail _ hy))]
      simp [clOf, e1]
    · have hb : (k == NameKind.free) = false := by simpa using hk
      simp only [hb, Bool.false_eq_true, if_false, pure_bind]
      rw [ih (fun y hy => h y (.tail _ hy))]
      simp [clOf, hb]
theorem clOf_skip {cell : Str → Option Addr} {x : Str} : ∀ {names : List (Str × NameKind)} {acc : List (Str × Addr)}, x ∉ names.map (·.1) → (clOf cell names acc).lookup x = acc.lookup x
  | [], acc, _ => rfl
  | (y, k) :: r, acc, h => by
    have h1 : x ≠ y := fun q => h (by simp [q])
    have h2 : x ∉ r.map (·.1) := fun q => h (by simp at q ⊢; exact .inr q)
    unfold clOf
    split
    · rw [clOf_skip h2, List.lookup_cons, show (x == y) = false from by simpa using h1]
    · exact clOf_skip h2
theorem clOf_look {cell : Str → Option Addr} {x : Str} {c : Addr} (hc : cell x = some c) : ∀ {names : List (Str × NameKind)} {acc : List (Str × Addr)}, (names.map (·.1)).Nodup → (x, NameKind.free) ∈ names → (clOf cell names acc).lookup x = some c
  | [], acc, _, h => nomatch h
  | (y, k) :: r, acc, hn, h => by
    simp only [List.map_cons, List.nodup_cons] at hn
    rcases List.mem_cons.mp h with e | h
    · cases e
      unfold clOf
      rw [if_pos (by rfl), clOf_skip hn.1, List.lookup_cons]
      simp [hc]
    · unfold clOf
      split
      · exact clOf_look hc hn.2 h
      · exact clOf_look hc hn.2 h

theorem lookup_mem {x : Str} {k : NameKind} : ∀ {names : List (Str × NameKind)}, names.lookup x = some k → (x, k) ∈ names
  | [], h => by cases h
  | (y, j) :: r, h => by
    rw [List.lookup_cons] at h
    by_cases e : (x == y) = true
    · rw [e] at h; cases h; rw [beq_iff_eq.mp e]; exact .head _
    · rw [Bool.not_eq_true] at e; rw [e] at h; exact .tail _ (lookup_mem h)
theorem relabel_look {scope : Scope} {env : Env} {x : Str} {k : NameKind} (h : scope.names.lookup x = some k) :
    (relabel scope env).names.lookup x = some (if (k == .free && env.scope.kind == .function && env.kindOf x == some .cell) = true then .cell else k) := by
  unfold relabel
  show (scope.names.map _).lookup x = _
  revert h
  generalize scope.names = names
  intro h
  induction names with
  | nil => cases h
  | cons y r ih =>
    obtain ⟨y, j⟩ := y
    rw [List.lookup_cons] at h
    by_cases e : (x == y) = true
    · rw [e] at h
      cases h
      obtain rfl := beq_iff_eq.mp e
      rw [List.map_cons]
      dsimp only
      split
      · rw [List.lookup_cons, beq_self_eq_true]
      · rw [List.lookup_cons, beq_self_eq_true]
    · rw [Bool.not_eq_true] at e
      rw [e] at h
      rw [List.map_cons]
      dsimp only
      split
      · rw [List.lookup_cons, e]; exact ih h
      · rw [List.lookup_cons, e]; exact ih h

noncomputable def okComp (sc : Scope) (D D' : Dn) : Bool :=
  decide D'.ns.Nodup && D'.ns.all (fun x => if D'.cs.contains x then sc.names.lookup x == some .free && D.cs.contains x else sc.names.lookup x == some .local) && D'.cs.all (fun x => D'.ns.contains x) &&
    D'.gs.all (fun x => sc.names.lookup x == some .globalImplicit) && sc.names.all (fun x => (x.2 != .free || D.cs.contains x.1) && x.2 != .cell) && decide (sc.names.map (·.1)).Nodup

section
variable {C : Cx} {V : Ev} {D D' : Dn} {n : Nat} {loc : Locs} {H : MH}

/-- the values that a block sees: what it captures, its own names not yet -/
noncomputable def Cap (D D' : Dn) (loc loc' : Locs) : Prop := ∀ (i : Nat) (x : Str) (v : MV), D'.ns[i]? = some x → loc'[i]? = some (some v) → x ∈ D'.cs ∧ Rd D.ns loc x v

theorem Led.join {pr : Program} {w : World} {base h : Heap} {r : List Addr} {H : MH} (x : Led pr w base r H h) {a : Addr} (ha : a ∉ r) (hb : base.get? a = none) {c : Cel} (hc : CAt pr w (r ++ [a]) h a c) : Led pr w base (r ++ [a]) (H ++ [c]) h ∧ VRel (r ++ [a]) (.ref H.length) (.ref a) := by
  refine ⟨⟨x.sub, by simp [x.len], ?_, ?_, ?_⟩, ?_⟩
  · rw [List.nodup_append]
    exact ⟨x.nd, by simp, fun b hb' c hc' => by rw [List.mem_singleton.mp hc']; rintro rfl; exact ha hb'⟩
  · intro b hm
    rcases List.mem_append.mp hm with q | q
    · exact x.off b q
    · rw [List.mem_singleton.mp q]; exact hb
  · intro p c' e
    rcases Nat.lt_trichotomy p H.length with q | q | q
    · rw [List.getElem?_append_left q] at e
      obtain ⟨b, hb, hc'⟩ := x.bear p c' e
      exact ⟨b, by rw [List.getElem?_append_left (x.len ▸ q)]; exact hb, hc'.mono ⟨[a], rfl⟩⟩
    · subst q
      rw [List.getElem?_append_right (Nat.le_refl _)] at e
      simp at e
      subst e
      exact ⟨a, by rw [List.getElem?_append_right (by rw [x.len]; exact Nat.le_refl _), x.len]; simp, hc⟩
    · rw [List.getElem?_append_right (Nat.le_of_lt q), List.getElem?_eq_none (by simp; omega)] at e; cases e
  · exact ⟨a, by rw [List.getElem?_append_right (by rw [x.len]; exact Nat.le_refl _), x.len]; simp, rfl⟩

/-- the block's own surroundings -/
noncomputable def Vc (V : Ev) (D' : Dn) (scope : Scope) (L' : Addr) : Ev := ⟨compEnvC scope (clOf V.cell scope.names []) L' V.env, fun x => if x ∈ D'.cs then V.cell x else none⟩
theorem Vc_cell {scope : Scope} {L' : Addr} {x : Str} {c : Addr} (e : (Vc V D' scope L').cell x = some c) : x ∈ D'.cs ∧ V.cell x = some c := by
  by_cases hc : x ∈ D'.cs
  · exact ⟨hc, by simpa [Vc, hc] using e⟩
  · simp [Vc, hc] at e

theorem okComp_spec {sc : Scope} (h : okComp sc D D' = true) : D'.ns.Nodup ∧ (∀ x ∈ D'.ns, x ∉ D'.cs → sc.names.lookup x = some .local) ∧ (∀ x ∈ D'.cs, sc.names.lookup x = some .free ∧ x ∈ D.cs) ∧ (∀ x ∈ D'.cs, x ∈ D'.ns) ∧ (∀ x ∈ D'.gs, sc.names.lookup x = some .globalImplicit) ∧
    (∀ x ∈ sc.names, (x.2 = .free → x.1 ∈ D.cs) ∧ x.2 ≠ .cell) ∧ (sc.names.map (·.1)).Nodup := by
  unfold okComp at h
  simp only [Bool.and_eq_true, decide_eq_true_eq, List.all_eq_true, List.contains_iff_mem, beq_iff_eq] at h
  obtain ⟨⟨⟨⟨⟨d1, d2⟩, d3⟩, d4⟩, d5⟩, d6⟩ := h
  refine ⟨d1, fun x hx hc => ?_, fun x hx => ?_, d3, d4, fun x hx => ?_, d6⟩
  · have := d2 x hx; rw [if_neg hc] at this; simpa using this
  · have := d2 x (d3 x hx); rw [if_pos hx] at this; simpa [List.contains_iff_mem] using this
  · have := d5 x hx
    simp only [Bool.or_eq_true, bne_iff_ne, List.contains_iff_mem] at this
    exact ⟨fun e => this.1.resolve_left (fun q => q e), this.2⟩

theorem comp_closure {sc : Scope} {base : Heap} (h : okComp sc D D' = true) (hE : EvOK C V D base) : closureFor sc V.env = pure (clOf V.cell sc.names []) := by
  obtain ⟨_, _, _, _, _, d5, _⟩ := okComp_spec h
  have := closure_of (env := V.env) (cell := V.cell) (names := sc.names) (fun x hx e => by
    have hm := (d5 x hx).1 e
    obtain ⟨c, hc⟩ := hE.isc x.1 hm
    exact ⟨c, hc, (hE.cel x.1 (hE.csn _ hm) c hc).2⟩) []
  unfold closureFor
  show (forIn sc.names [] _ >>= fun s => pure s) = _
  rw [bind_pure]
  exact this

theorem comp_ok {sc : Scope} {base : Heap} {L' : Addr} (h : okComp sc D D' = true) (hk : sc.kind = .function) (hE : EvOK C V D base) (hb : base.get? L' = none) (hL : ∀ x ∈ D.ns, V.cell x ≠ some L') : EvOK C (Vc V D' sc L') D' base := by
  obtain ⟨d1, d2, d3, d4, d6, d5, d7⟩ := okComp_spec h
  have hin : ∀ {x : Str}, x ∈ D'.cs → x ∈ D.ns := fun hx => hE.csn _ (d3 _ hx).2
  exact {
    bf := hE.bf
    kind := hk
    glob := hE.glob
    blt := hE.blt
    nd := d1
    isl := fun x _ hc => by simp [Vc, hc]
    isc := fun x hx => by
      obtain ⟨c, e⟩ := hE.isc x (d3 x hx).2
      exact ⟨c, by simp [Vc, hx, e]⟩
    csn := d4
    loc := fun x hx e => by
      by_cases hc : x ∈ D'.cs
      · obtain ⟨c, e'⟩ := hE.isc x (d3 x hc).2
        simp [Vc, hc, e'] at e
      · exact (relabel_look (env := V.env) (d2 x hx hc)).trans (by simp)
    cel := fun x hx c e => by
      obtain ⟨hc, e'⟩ := Vc_cell e
      obtain ⟨k1, k2⟩ := hE.cel x (hin hc) c e'
      refine ⟨(relabel_look (env := V.env) (d3 x hc).1).trans ?_, clOf_look e' d7 (lookup_mem (d3 x hc).1)⟩
      simp [hE.kind, k1]
    gl := fun x hx => (relabel_look (env := V.env) (d6 x hx)).trans (by simp)
    apart := fun x hx c e => by
      obtain ⟨hc, e'⟩ := Vc_cell e
      exact fun q => hL x (hin hc) (by rw [e']; exact congrArg some q)
    inj := fun x _ y _ c e e' => hE.inj x (hin (Vc_cell e).1) y (hin (Vc_cell e').1) c (Vc_cell e).2 (Vc_cell e').2
    bl := hb
    bc := fun x _ c e => hE.bc x (hin (Vc_cell e).1) c (Vc_cell e).2 }

theorem comp_rep {sc : Scope} {base : Heap} {r : List Addr} {h : Heap} {L' : Addr} {loc' : Locs} (hok : okComp sc D D' = true) (hE : EvOK C V D base) (hP : Rep C V base D.ns loc H r h) (hcap : Cap D D' loc loc') {m : Str → Option Value} (hn : h.Ns L' m) (hL : L' ∉ r) :
    Rep C (Vc V D' sc L') base D'.ns loc' H r h := by
  obtain ⟨d1, d2, d3, d4, d6, d5, d7⟩ := okComp_spec hok
  have hin : ∀ {x : Str}, x ∈ D'.cs → x ∈ D.ns := fun hx => hE.csn _ (d3 _ hx).2
  refine ⟨hP.led, ⟨m, hn, fun i x v h1 h2 h3 => ?_⟩, fun i x c h1 h2 => ?_, hL, fun x hx c e => hP.offC x (hin (Vc_cell e).1) c (Vc_cell e).2⟩
  · obtain ⟨hc, _⟩ := hcap i x v h1 h2
    obtain ⟨c, e'⟩ := hE.isc x (d3 x hc).2
    simp [Vc, hc, e'] at h3
  · obtain ⟨hc, e⟩ := Vc_cell h2
    obtain ⟨j, hj, ej⟩ := List.getElem_of_mem (hin hc)
    obtain ⟨ov, hov, hv⟩ := hP.cel j x c (by rw [List.getElem?_eq_getElem hj, ej]) e
    refine ⟨ov, hov, fun v h3 => ?_⟩
    obtain ⟨_, hr⟩ := hcap i x v h1 h3
    obtain ⟨j', a, b⟩ := hr.ix
    have : j' = j := by
      have hj' : j' < D.ns.length := by
        rcases Nat.lt_or_ge j' D.ns.length with q | q
        · exact q
        · rw [List.getElem?_eq_none q] at a; cases a
      rw [List.getElem?_eq_getElem hj'] at a
      exact (List.getElem_inj hE.nd (h₀ := hj') (h₁ := hj)).mp ((Option.some.inj a).trans ej.symm)
    subst this
    exact hv v b
end
noncomputable def TTs (C : Cx) (V : Ev) (D : Dn) (n : Nat) : List Expr → Locs → MH → (Bool → MH → Prop) → Prop
  | [], _, H, Q => Q true H
  | [c], loc, H, Q => TT C V D n c loc H Q
  | _, _, _, _ => False

section
variable {C : Cx} {V : Ev} {D D' : Dn} {n : Nat} {loc : Locs} {H : MH}

theorem tests_of {A : Around} {s : Shared} {base : Heap} {r : List Addr} {ifs : List Expr} {QB : Bool → MH → Prop} {Qr : Bool → Shared → Prop} (h : TTs C V D n ifs loc H QB) (hR : Room A n) (hE : EvOK C V D base) (hP : Rep C V base D.ns loc H r s.heap) (hQ : EndsB C base r s QB Qr) :
    wpAny (model C.pr C.w) A (forIn ifs true fun c r => if r = true then do let ok ← isTrue c V.env (eval c V.env); pure (ForInStep.yield ok) else pure (ForInStep.yield r)) Qr NoE s := by
  match ifs, h with
  | [], h => exact wpAny_tests_nil (hQ _ _ _ _ s.toks h hP.led (.refl _ _))
  | [c], h => exact wpAny_tests_one (h base A s r _ hR hE hP hQ)

/-- a store into a name of the frame's own dict -/
theorem storeL {base : Heap} {A : Around} {s : Shared} {r : List Addr} {loc' : Locs} {x : Str} {v : MV} {rv : Value} {Qr : Unit → Shared → Prop} (hw : Wr D.ns loc x v loc') (hx : x ∉ D.cs) (hE : EvOK C V D base) (hP : Rep C V base D.ns loc H r s.heap) (hv : VRel r v rv)
    (h : ∀ h' tk, Rep C V base D.ns loc' H r h' → Heap.SameBut V.env.locals s.heap h' → Qr () { s with heap := h', toks := tk }) : wpAny (model C.pr C.w) A (storeName V.env x rv) Qr NoE s := by
  obtain ⟨i, hi, hlt, rfl⟩ := hw.ix
  have hm : x ∈ D.ns := List.mem_of_getElem? hi
  have e := hE.isl x hm hx
  have same : ∀ {j : Nat} {y : Str}, D.ns[j]? = some y → j ≠ i → y ≠ x := fun {j y} hj hne e => by
    subst e
    have h1 : j < D.ns.length := by
      rcases Nat.lt_or_ge j D.ns.length with q | q
      · exact q
      · rw [List.getElem?_eq_none q] at hj; cases hj
    have h2 : i < D.ns.length := by
      rcases Nat.lt_or_ge i D.ns.length with q | q
      · exact q
      · rw [List.getElem?_eq_none q] at hi; cases hi
    exact hne ((List.getElem_inj hE.nd (h₀ := h1) (h₁ := h2)).mp (by
      rw [List.getElem?_eq_getElem h1] at hj; rw [List.getElem?_eq_getElem h2] at hi
      exact (Option.some.inj hj).trans (Option.some.inj hi).symm))
  obtain ⟨m, hn, hl⟩ := hP.lcl
  refine wpAny_storeName_local (hE.loc x hm e) hn (fun h' hn' hs => h h' _ ?_ hs) (notModule hE.kind)
  refine ⟨hP.led.other hE.bl hP.offL hs, ⟨_, hn', fun j y w h1 h2 h3 => ?_⟩, fun j y c h1 h2 => ?_, hP.offL, hP.offC⟩
  · by_cases hj : j = i
    · subst hj
      rw [hi] at h1; cases h1
      rw [List.getElem?_set_self hlt] at h2
      cases h2
      exact ⟨rv, by simp, hv⟩
    · rw [List.getElem?_set_ne (Ne.symm hj)] at h2
      obtain ⟨rw', e1, e2⟩ := hl j y w h1 h2 h3
      exact ⟨rw', by simp [same h1 hj, e1], e2⟩
  · obtain ⟨ov, hc, hw'⟩ := hP.cel j y c h1 h2
    refine ⟨ov, hc.sameBut hs (hE.apart y (List.mem_of_getElem? h1) c h2), fun w hj => ?_⟩
    have hne : j ≠ i := by rintro rfl; rw [hi] at h1; cases h1; rw [e] at h2; cases h2
    rw [List.getElem?_set_ne (Ne.symm hne)] at hj
    exact hw' w hj

theorem Gr.but {r : List Addr} {h₀ r' h h' : _} (g : Gr r h₀ r' h) {b : Addr} (hb : h₀.get? b = none) (hs : Heap.SameBut b h h') : Gr r h₀ r' h' :=
  ⟨g.pre, fun a o e ha => (hs.2 a (fun q => by rw [q, hb] at e; cases e)).trans (g.keep a o e ha), g.new⟩
theorem PlainList_same {h h' : Heap} {a b : Addr} {its : Array Value} (x : h.PlainList a its) (hs : Heap.SameBut b h h') (hab : a ≠ b) : h'.PlainList a its := x.at fun o e => (hs.2 a hab).trans e

theorem look_nodup {y : Str} {k : NameKind} : ∀ {names : List (Str × NameKind)}, (names.map (·.1)).Nodup → (y, k) ∈ names → names.lookup y = some k
  | [], _, h => nomatch h
  | (z, j) :: t, hn, h => by
    simp only [List.map_cons, List.nodup_cons] at hn
    rcases List.mem_cons.mp h with e | h
    · cases e; simp
    · have hne : y ≠ z := fun q => hn.1 (by rw [← q]; exact List.mem_map_of_mem (f := (·.1)) h)
      rw [List.lookup_cons, show (y == z) = false from by simpa using hne]
      exact look_nodup hn.2 h

theorem comp_core {elt iter : Expr} {x : Str} {px pos : Pos} {ifs : List Expr} {scope : Scope} {loc' : Locs} {k : Nat} {item : Nat → MV} {keep : MH → Prop} {I : Nat → List MV → MH → Prop} {RR : Value → Addr → Result → Shared → Prop}
    (hok : okComp scope D D' = true) (hk : scope.kind = .function) (hx : x ∈ D'.ns ∧ x ∉ D'.cs) (hcap : Cap D D' loc loc')
    (turn : ∀ V' i acc H', i < k → I i acc H' → ∃ l', Wr D'.ns loc' x (item i) l' ∧ TTs C V' D' n ifs l' H' fun ok H₂ => if ok then EV C V' D' n elt l' H₂ (fun v H₃ => I (i + 1) (acc ++ [v]) H₃) else I (i + 1) acc H₂)
    (hkeep : ∀ i acc H', I i acc H' → keep H') (hsz : ∀ i acc H', I i acc H' → acc.length ≤ sizeLine)
    {base : Heap} {A : Around} {s : Shared} {h₀ : Heap} {r : List Addr} {it : Addr} {It : Nat → Heap → Prop} (hR : Room A n) (hE : EvOK C V D base) (hP : Rep C V base D.ns loc H r h₀) (hs₀ : ∀ b o, h₀.get? b = some o → s.heap.get? b = some o) (hit0 : h₀.get? it = none)
    (W : ItAt C n r k item keep it It) (w0 : It 0 s.heap) (I0 : I 0 [] H)
    (hRR : ∀ a L' acc H' r' h' tk m, I k acc H' → Rep C V base D.ns loc (H' ++ [.list acc]) (r' ++ [a]) h' → Gr r h₀ (r' ++ [a]) h' → VRel (r' ++ [a]) (.ref H'.length) (.ref a) → h'.Ns L' m → h₀.get? L' = none → L' ∉ r' ++ [a] →
      RR (.ref a) L' (.ok .next) { s with heap := h', toks := tk }) :
    wpAny (model C.pr C.w) A (newList []) (fun acc s₃ => wpAny (model C.pr C.w) A (newFunctionEnv scope V.env.globals (clOf V.cell scope.names []) [] V.env.qual none .none (some V.env)) (fun cenv s₄ =>
      codeAny (model C.pr C.w) A (.compStart (.ListComp elt [⟨.Name x px, iter, ifs, 0⟩] scope pos) 0 (.ref it) acc { cenv with scope := relabel scope V.env }) (RR acc cenv.locals) s₄) NoE s₃) NoE s := by
  obtain ⟨d1, d2, d3, d4, d6, d5, d7⟩ := okComp_spec hok
  refine wpAny_newObj_type (wpAny_newFunctionEnv (fun y hy => (d5 y hy).2) (by intro y hy; simp at hy) (fun h₁ hns₁ hsb₁ => ?_) hk)
  dsimp only at hns₁ hsb₁ ⊢
  generalize hH2 : s.heap.push { cls := .type "list", dict := none, data := .seq ([] : List Value).toArray } = H2 at hns₁ hsb₁ ⊢
  have hC : H2.objs.size = s.heap.objs.size + 1 := by rw [← hH2, Heap.size_push]
  generalize hL' : H2.objs.size = L' at hns₁ hsb₁ hC ⊢
  generalize ha : s.heap.objs.size = a at hC
  have hLa : a < L' := by rw [hC]; exact Nat.lt_succ_self _
  have haL : a ≠ L' := Nat.ne_of_lt hLa
  have dead : ∀ {b : Addr}, a ≤ b → s.heap.get? b = none := fun {b} hb => by
    cases e : s.heap.get? b with
    | none => rfl
    | some o => exact absurd (Heap.lt_size e) (by rw [ha]; exact Nat.not_lt.mpr hb)
  have dead₀ : ∀ {b : Addr}, a ≤ b → h₀.get? b = none := fun {b} hb => by
    cases e : h₀.get? b with
    | none => rfl
    | some o => have := hs₀ _ _ e; rw [dead hb] at this; cases this
  have hba : base.get? a = none := by
    cases e : base.get? a with
    | none => rfl
    | some o => have := hP.led.sub _ _ e; rw [dead₀ (Nat.le_refl _)] at this; cases this
  have hbL : base.get? L' = none := by
    cases e : base.get? L' with
    | none => rfl
    | some o => have := hP.led.sub _ _ e; rw [dead₀ (Nat.le_of_lt hLa)] at this; cases this
  have hbI : base.get? it = none := by
    cases e : base.get? it with
    | none => rfl
    | some o => have := hP.led.sub _ _ e; rw [hit0] at this; cases this
  obtain ⟨oI, hoI⟩ := W.live 0 _ w0
  have hIa : it < a := by rw [← ha]; exact Heap.lt_size hoI
  have hIA : it ≠ a := Nat.ne_of_lt hIa
  have hIL : it ≠ L' := Nat.ne_of_lt (Nat.lt_trans hIa hLa)
  have off : ∀ {b : Addr}, h₀.get? b = none → b ∉ r := fun {b} hb q => by
    obtain ⟨o, e⟩ := live_of hP.led q
    rw [hb] at e; cases e
  have old : ∀ b o, s.heap.get? b = some o → h₁.get? b = some o := fun b o e => by
    have hb : b < a := by rw [← ha]; exact Heap.lt_size e
    exact hsb₁.extBut b o (Nat.ne_of_lt (Nat.lt_trans hb hLa)) (Heap.get?_push_of_some _ (hH2 ▸ Heap.get?_push_of_some _ e))
  have hacc : h₁.PlainList a #[] := ⟨0, hsb₁.extBut a _ haL (Heap.get?_push_of_some _ (by rw [← hH2, ← ha]; exact Heap.get?_push_size _ rfl))⟩
  have hE' : EvOK C (Vc V D' scope L') D' base := comp_ok hok hk hE hbL fun y hy q => by
    obtain ⟨i, hi, e⟩ := List.getElem_of_mem hy
    obtain ⟨ov, ⟨o, ho, _⟩, _⟩ := hP.cel i y _ (by rw [List.getElem?_eq_getElem hi, e]) q
    rw [dead₀ (Nat.le_of_lt hLa)] at ho; cases ho
  have loop : ∀ s₃ : Shared, s₃ = { s with heap := h₁, toks := s.toks + ([] : List (Str × Value)).length } →
      codeAny (model C.pr C.w) A (.compLoop (.ListComp elt [⟨.Name x px, iter, ifs, 0⟩] scope pos) 0 (.ref it) (.ref a) (Vc V D' scope L').env) (RR (.ref a) L') s₃ := by
    rintro s₃ rfl
    refine codeAny_compLoop_tests (fun j s' => ∃ i acc H' r' h' tk rvs, s' = { s with heap := h', toks := tk } ∧ j = k - i ∧ i ≤ k ∧ I i acc H' ∧ Led C.pr C.w base r' H' h' ∧ Gr r h₀ r' h' ∧ It i h' ∧ h'.PlainList a (List.toArray rvs) ∧ VRels r' acc rvs ∧ (∃ m, h'.Ns L' m)
        ∧ it ∉ r' ∧ a ∉ r' ∧ L' ∉ r') ?_ k
      ⟨0, [], H, r, h₁, _, [], rfl, rfl, Nat.zero_le _, I0, hP.led.keeps fun b o e => old b o (hs₀ b o e), Gr.ofKeeps r fun b o e => old b o (hs₀ b o e), W.frame _ _ _ w0 fun o e => old _ _ e, hacc, .nil, ⟨_, hns₁⟩, off hit0, off (dead₀ (Nat.le_refl _)), off (dead₀ (Nat.le_of_lt hLa))⟩
    rintro j s' ⟨i, acc, H', r', h', tk, rvs, rfl, rfl, hik, hI, hLd, hG, hW, hal, hvs, ⟨m, hns⟩, o1, o2, o3⟩
    by_cases hlt : i < k
    · refine noted_of (W.item A _ r' base H' i _ hR hLd hG.pre (hkeep _ _ _ hI) hlt hW fun rv h₃ tk₃ hv₃ hW₃ hs₃ => ?_)
      have hG₃ := hG.but hit0 hs₃
      have hL₃ := hLd.other hbI o1 hs₃
      have hns₃ : h₃.Ns L' m := hns.sameBut hs₃ (Ne.symm hIL)
      have hal₃ := PlainList_same hal hs₃ (Ne.symm hIA)
      obtain ⟨l', hw, ht⟩ := turn (Vc V D' scope L') i acc H' hlt hI
      have hP₃ : Rep C (Vc V D' scope L') base D'.ns loc' H' r' h₃ := comp_rep hok hE (hP.grow hL₃ hG₃) hcap hns₃ o3
      refine wpAny_assign_Name (noted_of (storeL hw hx.2 hE' hP₃ hv₃ fun h₄ tk₄ hP₄ hs₄ => ?_))
      have hG₄ : Gr r h₀ r' h₄ := hG₃.but (dead₀ (Nat.le_of_lt hLa)) hs₄
      have hW₄ : It (i + 1) h₄ := W.frame _ _ _ hW₃ fun o e => (hs₄.2 _ hIL).trans e
      have hal₄ := PlainList_same hal₃ hs₄ haL
      refine noted_of (tests_of ht hR hE' hP₄ fun ok H₅ r₅ h₅ tk₅ q₅ l₅ g₅ => ?_)
      have hW₅ : It (i + 1) h₅ := W.frame _ _ _ hW₄ fun o e => g₅.keep _ _ e o1
      have hal₅ : h₅.PlainList a (List.toArray rvs) := hal₄.at fun o e => g₅.keep _ _ e o2
      obtain ⟨oI₄, hoI₄⟩ := W.live _ _ hW₄
      obtain ⟨nA, hoA⟩ := hal₄
      cases ok with
      | false =>
        have q₅ : I (i + 1) acc H₅ := q₅
        obtain ⟨m₄, ⟨oL, es, ep, hoL, qL⟩, _⟩ := hP₄.lcl
        exact ⟨k - (i + 1), by omega, i + 1, acc, H₅, r₅, h₅, tk₅, rvs, rfl, rfl, hlt, q₅, l₅, hG₄.trans g₅, hW₅, hal₅, hvs.mono g₅.pre, ⟨m₄, oL, es, ep, g₅.keep _ _ hoL o3, qL⟩, g₅.off hoI₄ o1, g₅.off hoA o2, g₅.off hoL o3⟩
      | true =>
        have q₅ : EV C (Vc V D' scope L') D' n elt l' H₅ _ := q₅
        have hP₅ := hP₄.grow l₅ g₅
        refine noted_of (q₅ base A _ r₅ _ hR hE' hP₅ fun v H₆ rv' r₆ h₆ tk₆ q₆ hv₆ l₆ g₆ => ?_)
        have hg := g₅.trans g₆
        have hal₆ : h₆.PlainList a (List.toArray rvs) := ⟨nA, hg.keep _ _ hoA o2⟩
        refine noted_of (wpAny_list_append_plain (hsz := by simpa [← hvs.len] using hsz _ _ _ hI) hal₆ fun h₇ hal₇ hs₇ => ?_)
        obtain ⟨m₄, ⟨oL, es, ep, hoL, qL⟩, _⟩ := hP₄.lcl
        have hoL₆ := hg.keep _ _ hoL o3
        have oA : a ∉ r₆ := hg.off hoA o2
        refine ⟨k - (i + 1), by omega, i + 1, acc ++ [v], H₆, r₆, h₇, tk₆, rvs ++ [rv'], rfl, rfl, hlt, q₆, l₆.other hba oA hs₇, (hG₄.trans hg).but (dead₀ (Nat.le_refl _)) hs₇, W.frame _ _ _ hW₄ fun o e => (hs₇.2 _ hIA).trans (hg.keep _ _ e o1),
          by simpa using hal₇, (hvs.mono hg.pre).app (.one hv₆), ⟨m₄, oL, es, ep, (hs₇.2 _ (Ne.symm haL)).trans hoL₆, qL⟩, hg.off hoI₄ o1, oA, hg.off hoL o3⟩
    · have hik' : i = k := by omega
      subst hik'
      refine noted_of (W.done A _ r' base H' _ hR hLd hG.pre (hkeep _ _ _ hI) hW fun h₃ tk₃ he => ?_)
      have keep₃ : ∀ b o, b ≠ it → h'.get? b = some o → h₃.get? b = some o := fun b o hb e => he b o hb e
      have hG₃ : Gr r h₀ r' h₃ := ⟨hG.pre, fun b o e hb => keep₃ b o (fun q => by rw [q, hit0] at e; cases e) (hG.keep b o e hb), hG.new⟩
      have hL₃ : Led C.pr C.w base r' H' h₃ := { hLd with
        sub := fun b o e => keep₃ b o (fun q => by rw [q, hbI] at e; cases e) (hLd.sub b o e)
        bear := fun p c e => let ⟨b, hb, hc⟩ := hLd.bear p c e; ⟨b, hb, hc.keeps fun o e => keep₃ b o (fun q => o1 (q ▸ List.mem_of_getElem? hb)) e⟩ }
      have hal₃ : h₃.PlainList a (List.toArray rvs) := hal.at fun o e => keep₃ _ _ (Ne.symm hIA) e
      obtain ⟨l₄, v₄⟩ := hL₃.join (c := .list acc) o2 hba ⟨rvs, hal₃, hvs.mono ⟨_, rfl⟩⟩
      have hG₄ : Gr r h₀ (r' ++ [a]) h₃ := ⟨hG₃.pre.trans ⟨_, rfl⟩, hG₃.keep, fun b hb => by
        rcases List.mem_append.mp hb with q | q
        · exact hG₃.new b q
        · rw [List.mem_singleton.mp q]; exact .inr (dead₀ (Nat.le_refl _))⟩
      obtain ⟨oL, es, ep, hoL, qL⟩ := hns
      refine hRR a L' acc H' r' h₃ tk₃ m hI (hP.grow l₄ hG₄) hG₄ v₄ ⟨oL, es, ep, keep₃ _ _ (Ne.symm hIL) hoL, qL⟩ (dead₀ (Nat.le_of_lt hLa)) fun q => ?_
      rcases List.mem_append.mp q with q | q
      · exact o3 q
      · exact haL (List.mem_singleton.mp q).symm
  have hst : It 0 h₁ := W.frame _ _ _ w0 fun o e => old _ _ e
  exact codeAny_compStart_list (loop _ rfl) (noted_of (W.self A _ 0 _ hst (loop _ rfl)))

/-- [elt for x in iter if ..] -/
theorem EV.comp {elt iter : Expr} {x : Str} {px pos : Pos} {ifs : List Expr} {scope : Scope} (D' : Dn) (loc' : Locs) {Q : MV → MH → Prop}
    (hok : okComp scope D D' = true) (hx : x ∈ D'.ns ∧ x ∉ D'.cs) (hcap : Cap D D' loc loc')
    (h : EV C V D n iter loc H fun v H₁ => ∃ k item keep, Iter C n v H₁ k item keep ∧ ∃ I : Nat → List MV → MH → Prop, I 0 [] H₁ ∧ (∀ i acc h', I i acc h' → keep h') ∧ (∀ i acc h', I i acc h' → acc.length ≤ sizeLine) ∧
      (∀ V' i acc H', i < k → I i acc H' → ∃ l', Wr D'.ns loc' x (item i) l' ∧ TTs C V' D' n ifs l' H' fun ok H₂ => if ok then EV C V' D' n elt l' H₂ (fun v H₃ => I (i + 1) (acc ++ [v]) H₃) else I (i + 1) acc H₂) ∧
      ∀ acc h', I k acc h' → Q (.ref h'.length) (h' ++ [.list acc]))
    (hk : scope.kind = .function := by rfl) (hs : ∀ x env, foldedSetIterable iter env x = pure x := by intro _ _; rfl) :
    EV C V D n (.ListComp elt [⟨.Name x px, iter, ifs, 0⟩] scope pos) loc H Q := by
  intro base A s r Qr hR hE hP hQ
  obtain ⟨d1, d2, d3, d4, d6, d5, d7⟩ := okComp_spec hok
  rw [eval_ListComp]
  refine wpAny_comprehension_free (g := ⟨.Name x px, iter, ifs, 0⟩) (gs := []) rfl (fun x => hs x _) (comp_closure hok hE) hk (fun y hy e => ?_) (h base A s r _ hR hE hP fun v H₁ rv r₁ h₁ tk₁ q₁ hv l₁ g₁ => ?_)
  · obtain ⟨y, k⟩ := y
    obtain rfl : k = .local := e
    exact look_nodup d7 hy
  obtain ⟨k, item, keep, ⟨hk0, hit⟩, I, hI0, hIk, hIs, turn, fin⟩ := q₁
  refine hit A _ r₁ base rv _ hR l₁ hv fun h₂ tk₂ It W w0 hk₂ => ?_
  refine comp_core (RR := fun acc C' r s' => compPost (model C.pr C.w) A NoE none Qr acc C' r s') hok hk hx hcap turn hIk hIs hR hE (hP.grow l₁ g₁) hk₂ (at_size _) W w0 hI0 fun a L' acc H' r' h' tk m hI hP' hG' hv' hn hL0 hoff => ?_
  refine ⟨m, hn, fun h'' hs' => ?_⟩
  have hg : Gr r s.heap (r' ++ [a]) h' := g₁.trans hG'
  have hL1 : s.heap.get? L' = none ∨ L' ∈ r := by
    cases e : s.heap.get? L' with
    | none => exact .inl rfl
    | some o =>
      by_cases hm : L' ∈ r
      · exact .inr hm
      · have := g₁.keep _ _ e hm; rw [hL0] at this; cases this
  have hL2 : s.heap.get? L' = none := hL1.resolve_right fun hm => hoff ((hg.pre.subset) hm)
  have hbL : base.get? L' = none := by
    cases e : base.get? L' with
    | none => rfl
    | some o => have := hP.led.sub _ _ e; rw [hL2] at this; cases this
  exact hQ _ _ _ _ _ _ (fin acc H' hI) hv' (hP'.led.other hbL hoff hs') (hg.but hL2 hs')
end
section
variable {C : Cx} {V : Ev} {D D' : Dn} {n : Nat} {loc : Locs} {H : MH} {Q : Fl → Locs → MH → Prop}

theorem evalCall {x : Str} {p pos : Pos} {e : Expr} {rest : List Expr} {f : Value} {base : Heap} {A : Around} {s : Shared} {r : List Addr} {Qr : Value → Shared → Prop} {P : List MV → MH → Prop} (hx : x ∈ D.gs) (hg : GV C x f) (hk : Kp C f)
    (h : EVs C V D n (e :: rest) loc H P) (hR : Room A n) (hE : EvOK C V D base) (hP : Rep C V base D.ns loc H r s.heap)
    (hc : ∀ vs H₁ rvs r₁ h₁ tk₁, P vs H₁ → VRels r₁ vs rvs → Led C.pr C.w base r₁ H₁ h₁ → Gr r s.heap r₁ h₁ → wpAny (model C.pr C.w) A (PySem.call f rvs) Qr NoE { s with heap := h₁, toks := tk₁ })
    (hd : (x == ("__debug__" : Str)) = false := by decide)
    (he : ∀ env, starEach (e :: rest) env = (false, eval e env) :: starEach rest env := by intro _; rfl)
    (hp : ∀ env, (starEach rest env).any (·.1) = false := by intro _; rfl) :
    wpAny (model C.pr C.w) A (eval (.Call (.Name x p) (e :: rest) [] pos) V.env) Qr NoE s := by
  refine Call_ ?_
  have fin : wpAny (model C.pr C.w) A (callWith pos f [] (backTo pos (starEach (e :: rest) V.env)) []) Qr NoE s := by
    have h1 := h pos base A s r (fun vs s₁ => C.K.In s₁.heap ∧ wpAny (model C.pr C.w) A (PySem.call f ([] ++ vs)) Qr NoE s₁) hR hE hP fun vs H₁ rvs r₁ h₁ tk₁ q₁ v₁ l₁ g₁ =>
      ⟨fun a o e => l₁.sub a o (hE.bf.kin a o e), hc vs H₁ rvs r₁ h₁ tk₁ q₁ v₁ l₁ g₁⟩
    rw [he] at h1 ⊢
    exact callWith_of (P := fun h => C.K.In h) (by show ((false || (backTo pos (starEach rest V.env)).any (·.1)) || false) = false; rw [plain_back (hp _)]; rfl) (fun h X => hk _ h X) (evalArgs_plain h1)
  rcases hg base hE.bf with ⟨mg, hg, hv⟩ | ⟨mg, mb, hg, hn, hb, hv⟩
  · exact Name_function_global hE.kind (hE.gl x hx) (loadGlobal_global (by rw [hE.glob]; exact hg.keeps hP.led.sub) hv fin) hd
  · exact Name_function_global hE.kind (hE.gl x hx) (loadGlobal_builtin (by rw [hE.glob]; exact hg.keeps hP.led.sub) hn (by rw [hE.blt]; exact hb.keeps hP.led.sub) hv fin) hd

theorem Rep.notLive {base : Heap} {r : List Addr} {h : Heap} (hP : Rep C V base D.ns loc H r h) {a : Addr} (ha : h.get? a = none) : a ∉ r ∧ a ≠ V.env.locals ∧ (∀ y ∈ D.ns, V.cell y ≠ some a) ∧ base.get? a = none := by
  refine ⟨fun q => ?_, fun q => ?_, fun y hy q => ?_, ?_⟩
  · obtain ⟨o, e⟩ := live_of hP.led q; rw [ha] at e; cases e
  · obtain ⟨m, ⟨o, es, ep, ho, _⟩, _⟩ := hP.lcl; rw [← q, ha] at ho; cases ho
  · obtain ⟨i, hi, e⟩ := List.getElem_of_mem hy
    obtain ⟨ov, ⟨o, ho, _⟩, _⟩ := hP.cel i y _ (by rw [List.getElem?_eq_getElem hi, e]) q
    rw [ha] at ho; cases ho
  · cases e : base.get? a with
    | none => rfl
    | some o => rw [hP.led.sub _ _ e] at ha; cases ha
theorem Rep.but {base : Heap} {r : List Addr} {h h' : Heap} (hP : Rep C V base D.ns loc H r h) {P : Addr → Prop} (hoff : ∀ a, P a → a ∉ r ∧ a ≠ V.env.locals ∧ (∀ y ∈ D.ns, V.cell y ≠ some a) ∧ base.get? a = none)
    (hk : ∀ b o, ¬ P b → h.get? b = some o → h'.get? b = some o) : Rep C V base D.ns loc H r h' := by
  refine ⟨{ hP.led with sub := fun b o e => hk b o (fun q => by rw [(hoff b q).2.2.2] at e; cases e) (hP.led.sub b o e), bear := fun p c e => ?_ }, ?_, ?_, hP.offL, hP.offC⟩
  · obtain ⟨a, ha, hc⟩ := hP.led.bear p c e
    exact ⟨a, ha, hc.keeps fun o e => hk a o (fun q => (hoff a q).1 (List.mem_of_getElem? ha)) e⟩
  · obtain ⟨m, ⟨o, es, ep, ho, q⟩, q'⟩ := hP.lcl
    exact ⟨m, ⟨o, es, ep, hk _ _ (fun q => (hoff _ q).2.1 rfl) ho, q⟩, q'⟩
  · intro a y c h1 h2
    obtain ⟨ov, ⟨o, ho, q⟩, q'⟩ := hP.cel a y c h1 h2
    exact ⟨ov, ⟨o, hk _ _ (fun q => (hoff _ q).2.2.1 y (List.mem_of_getElem? h1) h2) ho, q⟩, q'⟩

/-- for i, x in enumerate(xs): .. -/
theorem ST.forEnum {xi xv en : Str} {pi pv pt pos cp np : Pos} {kk : Nat} {arg : Expr} {body : List Stmt} (hen : en ∈ D.gs) (hg : GV C en (.type "enumerate"))
    (h : EV C V D n arg loc H fun v H₁ => ∃ p xs, v = .ref p ∧ H₁[p]? = some (.list xs) ∧ ∃ I : Nat → Locs → MH → Prop, I 0 loc H₁ ∧ (∀ i l h', I i l h' → h'[p]? = some (.list xs)) ∧
      (∀ i l h', i < xs.length → I i l h' → ∃ l', Wrs D.ns l [xi, xv] [.int i, xs.getD i .none] l' ∧ SS C V D n body l' h' (Turn (I (i + 1)) Q)) ∧ ∀ l h', I xs.length l h' → Q .next l h')
    (hd : (en == ("__debug__" : Str)) = false := by decide) (hea : ∀ env, starEach [arg] env = [(false, eval arg env)] := by intro _; rfl) :
    ST C V D n (.For (.Tuple [.Name xi pi, .Name xv pv] kk pt) (.Call (.Name en np) [arg] [] cp) body [] pos) loc H Q := by
  intro base A s r Qr hR hE hP hQ
  refine wpAny_For (hs := fun _ => rfl) (evalCall (P := fun vs H₁ => ∃ v, vs = [v] ∧ ∃ p xs, v = .ref p ∧ H₁[p]? = some (.list xs) ∧ ∃ I : Nat → Locs → MH → Prop, I 0 loc H₁ ∧ (∀ i l h', I i l h' → h'[p]? = some (.list xs)) ∧
      (∀ i l h', i < xs.length → I i l h' → ∃ l', Wrs D.ns l [xi, xv] [.int i, xs.getD i .none] l' ∧ SS C V D n body l' h' (Turn (I (i + 1)) Q)) ∧ ∀ l h', I xs.length l h' → Q .next l h')
    hen hg Kp.type (EVs.cons (h.mono fun v H₁ q => EVs.nil ⟨v, rfl, q⟩) hea) hR hE hP (fun vs H₁ rvs r₁ h₁ tk₁ q₁ hv l₁ g₁ => ?_) hd hea fun _ => rfl)
  obtain ⟨v, rfl, p, xs, rfl, hp, I, hI0, hIk, turn, fin⟩ := q₁
  cases hv with
  | cons hv hv2 =>
  cases hv2
  obtain ⟨l, rfl, hl', rvs, hl, hr⟩ := l₁.get hp hv
  have hP₁ := hP.grow l₁ g₁
  refine call_enumerate_list hl.isList fun h₂ he₂ hit₂ hz₂ hk₂ => ?_
  dsimp only at he₂ hit₂ hz₂ hk₂
  generalize hIt : h₁.objs.size = it at he₂ hit₂ hz₂ ⊢
  have dead : ∀ {b : Addr}, it ≤ b → h₁.get? b = none := fun {b} hb => by
    cases e : h₁.get? b with
    | none => rfl
    | some o => exact absurd (Heap.lt_size e) (by rw [hIt]; exact Nat.not_lt.mpr hb)
  have hen1 : (it + 1 : Nat) ≠ it := Nat.succ_ne_self it
  refine wpAny_pyIter_enum he₂ ?_
  let P : Addr → Prop := fun a => a = it ∨ a = it + 1
  have hoff₀ : ∀ a, P a → a ∉ r₁ ∧ a ≠ V.env.locals ∧ (∀ y ∈ D.ns, V.cell y ≠ some a) ∧ base.get? a = none := fun a ha => hP₁.notLive (dead (by rcases ha with q | q <;> rw [q] <;> first | exact Nat.le_refl _ | exact Nat.le_succ _))
  have look : ∀ {r' : List Addr} {base' : Heap} {H' : MH} {h' : Heap}, Led C.pr C.w base' r' H' h' → r₁ <+: r' → H'[p]? = some (.list xs) → ∃ rvs : List Value, h'.IsList l rvs.toArray ∧ VRels r' xs rvs := by
    intro r' base' H' h' hL' hr' hp'
    obtain ⟨a, ea, _, rvs', hl₂, hr₂⟩ := hL'.get hp' (hv.mono hr')
    cases ea
    exact ⟨rvs', hl₂.isList, hr₂⟩
  have hP₂ : Rep C V base D.ns loc H₁ r₁ h₂ := hP₁.grow (l₁.keeps hk₂) (Gr.ofKeeps r₁ hk₂)
  refine codeAny_forLoop_any (fun j s' => ∃ i h' tk r' l' H' old, s' = { s with heap := h', toks := tk } ∧ j = xs.length - i ∧ i ≤ xs.length ∧ Rep C V base D.ns l' H' r' h' ∧ r₁ <+: r' ∧ I i l' H' ∧ IsEnum h' (it + 1) it ((i : Nat) : Int) old ∧ h'.IsListIter it l i ∧ (∀ a, P a → a ∉ r')) ?_ xs.length
    ⟨0, h₂, _, r₁, loc, H₁, .none, rfl, rfl, Nat.zero_le _, hP₂, List.prefix_refl _, hI0, he₂, hit₂, fun a ha => (hoff₀ a ha).1⟩
  rintro j s' ⟨i, h', tk, r', l', H', old, rfl, rfl, hik, hP', hr', hI, he', hit', hoff⟩
  have hoffs : ∀ a, P a → a ∉ r' ∧ a ≠ V.env.locals ∧ (∀ y ∈ D.ns, V.cell y ≠ some a) ∧ base.get? a = none := fun a ha => ⟨hoff a ha, (hoff₀ a ha).2⟩
  obtain ⟨rvs', hl₃, hr₃⟩ := look hP'.led hr' (hIk _ _ _ hI)
  by_cases hlt : i < xs.length
  · obtain ⟨rv, erv, hrv⟩ := hr₃.get (i := i) (v := xs[i]) (by simp [hlt])
    refine noted_of (wpAny_pyNext_enum_item he' hit' hl₃ (x := rv) (by simpa using erv) hen1 fun h₃ heo hit₃ hT₃ hz₃ hk₃ => ?_)
    refine wpAny_letOwnedTupleGo_enum heo fun h₄ he₄ hs₄ => ?_
    dsimp only at heo hT₃ hz₃ hk₃ he₄ hs₄ ⊢
    have heH : it + 1 < h'.objs.size := Heap.lt_size he'
    have hT₄ : h₄.IsTuple h'.objs.size #[.int i tk, rv] := ⟨_, (hs₄.2 _ (Nat.ne_of_gt heH)).trans hT₃, rfl, _, rfl⟩
    have hit₄ : h₄.IsListIter it l (i + 1) := by
      obtain ⟨o, ho, q⟩ := hit₃
      exact ⟨o, (hs₄.2 it (Ne.symm hen1)).trans ho, q⟩
    have hP₄ : Rep C V base D.ns l' H' r' h₄ := hP'.but (P := P) hoffs fun b o hb e => (hs₄.2 b fun q => hb (.inr q)).trans (hk₃ b o (fun q => hb (.inr q)) (fun q => hb (.inl q)) e)
    refine wpAny_assign_Tuple hR.hd hT₄ rfl rfl fun h₅ hx₅ => ?_
    have hP₅ : Rep C V base D.ns l' H' r' h₅ := hP₄.ext hx₅
    have hlt5 : ∀ b, h₄.get? b ≠ none → b ≠ h₄.objs.size := fun b hb q => hb (by rw [q]; exact at_size _)
    have he₅ : IsEnum h₅ (it + 1) it ((i : Int) + 1) rv := hx₅ _ _ (hlt5 _ (by rw [he₄]; exact fun q => by cases q)) he₄
    have hit₅ : h₅.IsListIter it l (i + 1) := by
      obtain ⟨o, ho, q⟩ := hit₄
      exact ⟨o, hx₅ _ _ (hlt5 _ (by rw [ho]; exact fun q => by cases q)) ho, q⟩
    have hE' := hid_ok hE hP₅
    have hst : ∀ a, P a → ∀ o, h₅.get? a = some o → (hid V D r' h₅).get? a = some o := fun a ha o e => hid_get e (hoff a ha) (hoffs a ha).2.1 (hoffs a ha).2.2.1
    obtain ⟨l'', hw, hb⟩ := turn i l' H' hlt hI
    have e2 : xs.getD i .none = xs[i] := by simp [List.getD, hlt]
    rw [e2] at hw
    refine noted_of (storesA (AN.cons (AN.cons .nil)) hE' (hid_rep hP₅) (.cons (v := .int i) ⟨_, rfl⟩ (.cons hrv .nil)) hw fun h₆ tk₆ hP₆ => ?_)
    refine noted_of (hb _ A _ r' _ hR hE' hP₆ fun f l₇ H₇ fr r₇ h₇ tk₇ q₇ hf hP₇ g₇ => ?_)
    cases f with
    | next =>
      obtain rfl := hf
      refine ⟨xs.length - (i + 1), by omega, i + 1, h₇, tk₇, r₇, l₇, H₇, rv, rfl, rfl, hlt, hP₇.down (hid_base hE hP₅), hr'.trans g₇, q₇, ?_, ?_, fun a ha q => ?_⟩
      · rw [Int.natCast_succ]; exact hP₇.led.sub _ _ (hst _ (.inr rfl) _ he₅)
      · obtain ⟨o, ho, q⟩ := hit₅
        exact ⟨o, hP₇.led.sub _ _ (hst _ (.inl rfl) _ ho), q⟩
      · have e := hP₇.led.off _ q
        rcases ha with ha | ha
        · obtain ⟨o, ho, _⟩ := hit₅
          rw [ha, hst _ (.inl rfl) _ ho] at e; cases e
        · rw [ha, hst _ (.inr rfl) _ he₅] at e; cases e
    | ret v =>
      obtain ⟨rv', rfl, hv'⟩ := hf
      exact hQ _ _ _ _ _ _ tk₇ q₇ ⟨rv', rfl, hv'⟩ (hP₇.down (hid_base hE hP₅)) ((g₁.pre.trans hr').trans g₇)
  · have hik' : i = xs.length := by omega
    subst hik'
    refine noted_of (wpAny_pyNext_enum_end hR.hd he' hit' hl₃ (by simp [hr₃.len]) fun h₃ hx => ?_)
    refine wpAny_execs_nil (hQ .next l' H' .next r' h₃ _ (fin l' H' hI) rfl (hP'.but (P := P) hoffs fun b o hb e => hx b o (fun q => hb (.inl q)) e) (g₁.pre.trans hr'))

/-- x = [elt for y in iter if ..], x a name of the function's own: the stores are exchanged -/
theorem ST.asgComp {elt iter : Expr} {x y : Str} {px py pos spos : Pos} {ifs : List Expr} {scope : Scope} (D' : Dn) (loc' : Locs)
    (hok : okComp scope D D' = true) (hx : x ∈ D'.ns ∧ x ∉ D'.cs) (hcap : Cap D D' loc loc') (hy : y ∈ D.ns ∧ y ∉ D.cs)
    (h : EV C V D n iter loc H fun v H₁ => ∃ k item keep, Iter C n v H₁ k item keep ∧ ∃ I : Nat → List MV → MH → Prop, I 0 [] H₁ ∧ (∀ i acc h', I i acc h' → keep h') ∧ (∀ i acc h', I i acc h' → acc.length ≤ sizeLine) ∧
      (∀ V' i acc H', i < k → I i acc H' → ∃ l', Wr D'.ns loc' x (item i) l' ∧ TTs C V' D' n ifs l' H' fun ok H₂ => if ok then EV C V' D' n elt l' H₂ (fun v H₃ => I (i + 1) (acc ++ [v]) H₃) else I (i + 1) acc H₂) ∧
      ∀ acc h', I k acc h' → ∃ l', Wr D.ns loc y (.ref h'.length) l' ∧ Q .next l' (h' ++ [.list acc]))
    (hw : ∀ env : Env, env.scope.kind = .function → env.kindOf y = some .local → swapsWith (.ListComp elt [⟨.Name x px, iter, ifs, 0⟩] scope pos) (some (.Name y py)) spos.line env = pure true)
    (hk : scope.kind = .function := by rfl) (hs : ∀ x env, foldedSetIterable iter env x = pure x := by intro _ _; rfl) :
    ST C V D n (.Assign [.Name y py] (.ListComp elt [⟨.Name x px, iter, ifs, 0⟩] scope pos) spos) loc H Q := by
  intro base A s r Qr hR hE hP hQ
  obtain ⟨d1, d2, d3, d4, d6, d5, d7⟩ := okComp_spec hok
  rw [exec_Assign_Name_used _ _ _ _ (hw V.env hE.kind (hE.loc y hy.1 (hE.isl y hy.1 hy.2)))]
  refine wpAny_bind (wpAny_standAt (wpAny_bind ?_))
  show wpAny _ A (do let _ ← comprehension (.ListComp elt [⟨.Name x px, iter, ifs, 0⟩] scope pos) scope V.env _ (newList []) false (eval iter V.env) (some (assign (.Name y py) V.env))) _ _ s
  refine wpAny_bind (wpAny_mono (wpAny_comprehension_free (use := some (assign (.Name y py) V.env)) (Q := fun _ s' => Qr .next s') (g := ⟨.Name x px, iter, ifs, 0⟩) (gs := []) rfl (fun x => hs x _) (comp_closure hok hE) hk (fun z hz e => ?_)
    (h base A s r _ hR hE hP fun v H₁ rv r₁ h₁ tk₁ q₁ hv l₁ g₁ => ?_)) (fun _ s' hq => wpAny_pure (wpAny_pure hq)) fun _ _ e => e)
  · obtain ⟨z, k⟩ := z
    obtain rfl : k = .local := e
    exact look_nodup d7 hz
  obtain ⟨k, item, keep, ⟨hk0, hit⟩, I, hI0, hIk, hIs, turn, fin⟩ := q₁
  refine hit A _ r₁ base rv _ hR l₁ hv fun h₂ tk₂ It W w0 hk₂ => ?_
  refine comp_core (RR := fun acc C' r s' => compPost (model C.pr C.w) A NoE (some (assign (.Name y py) V.env)) (fun _ s' => Qr .next s') acc C' r s') hok hk hx hcap turn hIk hIs hR hE (hP.grow l₁ g₁) hk₂ (at_size _) W w0 hI0 fun a L' acc H' r' h' tk m hI hP' hG' hv' hn hL0 hoff => ?_
  obtain ⟨l', hwr, hq⟩ := fin acc H' hI
  show wpAny _ A (assign (.Name y py) V.env (.ref a)) _ NoE _
  have hnl := (hP.grow l₁ g₁).notLive hL0
  refine wpAny_assign_Name (storeL hwr hy.2 hE hP' hv' fun h₃ tk₃ hP₃ hs₃ => ?_)
  refine ⟨m, hn.sameBut hs₃ hnl.2.1, fun h₄ hs₄ => ?_⟩
  exact hQ _ _ _ _ _ _ _ hq rfl (hP₃.but (P := fun b => b = L') (fun b hb => hb ▸ ⟨hoff, hnl.2⟩) fun b o hb e => (hs₄.2 b hb).trans e) (g₁.trans hG').pre

theorem FN.maxl {p : Nat} {xs : List Int} {Q : MV → MH → Prop} (hp : H[p]? = some (IL xs)) (hne : 0 < xs.length) (h : ∀ m, m ∈ xs → (∀ x ∈ xs, x ≤ m) → Q (.int m) H) : FN C (.builtin "max") n [.ref p] H Q := by
  rintro A s r base rvs Qr hR hB hL hv hQ
  cases hv with
  | cons h1 h2 =>
    cases h2
    obtain ⟨l, rfl, _, rvs, hl, hr⟩ := hL.get hp h1
    obtain ⟨ys, rfl, rfl⟩ := ints_toks (allInts_of hr)
    have e : (ys.map (fun p => Value.int p.1 p.2)).toArray = intItems ys.toArray := by simp [intItems]
    have hl' := hl.isList
    rw [e] at hl'
    have hsz : 0 < ys.toArray.size := by simpa using hne
    have num : ∀ j, numAt ys.toArray j = (ys.map (·.1)).getD j 0 := fun j => numAt_eq _ j
    refine max_intList hR.hd hl' hsz fun v h' tk hv' hk => ?_
    obtain ⟨t, rfl⟩ := intItems_at hv'
    obtain ⟨b1, b2⟩ := argBest_gt (numAt ys.toArray) (ys.toArray.size - 1)
    have hlen : ys.toArray.size = (ys.map (·.1)).length := by simp
    refine hQ _ _ _ _ _ _ (h (numAt ys.toArray (argBest (fun i j => decide (numAt ys.toArray i > numAt ys.toArray j)) (ys.toArray.size - 1))) ?_ fun x hx => ?_) ⟨_, rfl⟩ (hL.keeps hk) (Gr.ofKeeps r hk)
    · rw [num]
      have hlt : argBest (fun i j => decide (numAt ys.toArray i > numAt ys.toArray j)) (ys.toArray.size - 1) < (ys.map (·.1)).length := by omega
      rw [List.getD_eq_getElem?_getD, List.getElem?_eq_getElem hlt]
      exact List.getElem_mem hlt
    · obtain ⟨j, hj, rfl⟩ := List.getElem_of_mem hx
      have := b2 j (by omega)
      rw [num j, List.getD_eq_getElem?_getD, List.getElem?_eq_getElem hj] at this
      exact this
end
section
variable {C : Cx} {V : Ev} {D D' : Dn} {n : Nat} {loc : Locs} {H : MH}

theorem compTurn_in (elt target iter : Expr) (g₀ : Comprehension) (scope : Scope) (pos : Pos) (it acc : Value) (env : Env) :
    compTurn (.ListComp elt [g₀, ⟨target, iter, [], 0⟩] scope pos) 1 it acc env = (standAt iter.pos >>= fun _ => pyNext it >>= fun r => match r with
      | none => pure (.done .next)
      | some v => letOwnedTupleGo target it v >>= fun _ => assign target env v >>= fun _ =>
        (eval elt env >>= fun x => PySem.call (.builtin "list.append") [acc, x] >>= fun _ => pure ()) >>= fun _ =>
          again (.compLoop (.ListComp elt [g₀, ⟨target, iter, [], 0⟩] scope pos) 1 it acc env)) := by rfl
theorem compTurn_out (elt target iter target' iter' : Expr) (scope : Scope) (pos : Pos) (it acc : Value) (env : Env) :
    compTurn (.ListComp elt [⟨target, iter, [], 0⟩, ⟨target', iter', [], 0⟩] scope pos) 0 it acc env = (standAt iter.pos >>= fun _ => pyNext it >>= fun r => match r with
      | none => pure (.done .next)
      | some v => letOwnedTupleGo target it v >>= fun _ => assign target env v >>= fun _ =>
        eval iter' env >>= fun x => standAt iter'.pos >>= fun _ => foldedSetIterable iter' env x >>= fun x => holding [x] (pyIter x) >>= fun it' =>
          runOwn (.compStart (.ListComp elt [⟨target, iter, [], 0⟩, ⟨target', iter', [], 0⟩] scope pos) 1 it' acc env) env >>= fun _ =>
          again (.compLoop (.ListComp elt [⟨target, iter, [], 0⟩, ⟨target', iter', [], 0⟩] scope pos) 0 it acc env)) := by rfl

theorem loop_in {prog : Program} {w : World} {A : Around} {R : Result → Shared → Prop} {s : Shared} {elt target iter : Expr} {g₀ : Comprehension} {scope : Scope} {pos : Pos} {it acc : Value} {env : Env} (I : Nat → Shared → Prop)
    (turn : ∀ n s, I n s → wpAny (model prog w) A (pyNext it) (fun r s₁ => match r with
      | none => R (.ok .next) s₁
      | some v => wpAny (model prog w) A (assign target env v) (fun _ s₂ => wpAny (model prog w) A (eval elt env) (fun x s₃ =>
          wpAny (model prog w) A (PySem.call (.builtin "list.append") [acc, x]) (fun _ s₄ => ∃ m, m < n ∧ I m s₄) NoE s₃) NoE s₂) NoE s₁) NoE s)
    (n : Nat) (h : I n s) (ht : ∀ v, letOwnedTupleGo target it v = pure () := by intro _; rfl) :
    codeAny (model prog w) A (.compLoop (.ListComp elt [g₀, ⟨target, iter, [], 0⟩] scope pos) 1 it acc env) R s := by
  refine codeAny_loop rfl I (fun n s hI => ?_) n h
  show wpAny _ _ ((compTurn (.ListComp elt [g₀, ⟨target, iter, [], 0⟩] scope pos) 1 it acc env).onRaise (fun x => do noteFrame x env; theTreesLotGoes x)) _ _ s
  refine wpAny_noted (noted_of ?_)
  rw [compTurn_in]
  refine wpAny_bind (wpAny_standAt (wpAny_bind (wpAny_mono (turn n s hI) (fun r s₁ h₁ => ?_) fun _ _ h' => h')))
  cases r with
  | none => exact wpAny_pure h₁
  | some v =>
    refine wpAny_bind (wpAny_of_eq (ht v) ?_)
    exact wpAny_bind (wpAny_mono h₁ (fun _ s₂ h₂ => wpAny_bind (wpAny_bind (wpAny_mono h₂ (fun x s₃ h₃ => wpAny_bind (wpAny_mono h₃
      (fun _ s₄ h₄ => wpAny_pure (wpAny_pure ⟨rfl, h₄⟩)) fun _ _ h' => h')) fun _ _ h' => h'))) fun _ _ h' => h')
theorem start_in {prog : Program} {w : World} {A : Around} {R : Result → Shared → Prop} {s : Shared} {elt target iter : Expr} {g₀ : Comprehension} {scope : Scope} {pos : Pos} {it acc : Value} {env : Env}
    (h0 : codeAny (model prog w) A (.compLoop (.ListComp elt [g₀, ⟨target, iter, [], 0⟩] scope pos) 1 it acc env) R s)
    (h : wpAny (model prog w) A (pyIter it) (fun it' s' => codeAny (model prog w) A (.compLoop (.ListComp elt [g₀, ⟨target, iter, [], 0⟩] scope pos) 1 it' acc env) R s') NoE s) :
    codeAny (model prog w) A (.compStart (.ListComp elt [g₀, ⟨target, iter, [], 0⟩] scope pos) 1 it acc env) R s := by
  refine codeAny_of_tree ?_
  show wpAny _ _ ((compStart (.ListComp elt [g₀, ⟨target, iter, [], 0⟩] scope pos) 1 it acc env).onRaise (fun x => do noteFrame x env; standAt theWindowsPlace)) _ _ s
  refine wpAny_notedAt (noted_of ?_)
  unfold compStart
  show wpAny _ _ (ask >>= _) _ _ s
  refine wpAny_bind (wpAny_askSetting (wpAny_ite ?_))
  split
  · first
      | exact wpAny_bind (wpAny_pure (wpAny_pure (And.intro rfl h0)))
      | exact wpAny_pure (And.intro rfl h0)
  · refine wpAny_bind (wpAny_rule ?_)
    show wpAny _ _ (standAt iter.pos >>= _) _ _ s
    exact wpAny_bind (wpAny_standAt (wpAny_bind (wpAny_mono h (fun it' s' h' => wpAny_pure (And.intro rfl h')) fun _ _ x => x)))
theorem loop_out {prog : Program} {w : World} {A : Around} {R : Result → Shared → Prop} {s : Shared} {elt target iter target' iter' : Expr} {scope : Scope} {pos : Pos} {it acc : Value} {env : Env} (I : Nat → Shared → Prop)
    (turn : ∀ n s, I n s → wpAny (model prog w) A (pyNext it) (fun r s₁ => match r with
      | none => R (.ok .next) s₁
      | some v => wpAny (model prog w) A (assign target env v) (fun _ s₂ => wpAny (model prog w) A (eval iter' env) (fun x s₃ =>
          wpAny (model prog w) A (pyIter x) (fun it' s₄ => codeAny (model prog w) A (.compStart (.ListComp elt [⟨target, iter, [], 0⟩, ⟨target', iter', [], 0⟩] scope pos) 1 it' acc env) (fun r s₅ => match r with
            | .ok _ => ∃ m, m < n ∧ I m s₅
            | .error _ => False) s₄) NoE s₃) NoE s₂) NoE s₁) NoE s)
    (n : Nat) (h : I n s) (hA : A.handled = none) (ht : ∀ v, letOwnedTupleGo target it v = pure () := by intro _; rfl) (hs : ∀ x, foldedSetIterable iter' env x = pure x := by intro _; rfl) :
    codeAny (model prog w) A (.compLoop (.ListComp elt [⟨target, iter, [], 0⟩, ⟨target', iter', [], 0⟩] scope pos) 0 it acc env) R s := by
  refine codeAny_loop rfl I (fun n s hI => ?_) n h
  show wpAny _ _ ((compTurn (.ListComp elt [⟨target, iter, [], 0⟩, ⟨target', iter', [], 0⟩] scope pos) 0 it acc env).onRaise (fun x => do noteFrame x env; theTreesLotGoes x)) _ _ s
  refine wpAny_noted (noted_of ?_)
  rw [compTurn_out]
  refine wpAny_bind (wpAny_standAt (wpAny_bind (wpAny_mono (turn n s hI) (fun r s₁ h₁ => ?_) fun _ _ h' => h')))
  cases r with
  | none => exact wpAny_pure h₁
  | some v =>
    refine wpAny_bind (wpAny_of_eq (ht v) ?_)
    refine wpAny_bind (wpAny_mono h₁ (fun _ s₂ h₂ => wpAny_bind (wpAny_mono h₂ (fun x s₃ h₃ => wpAny_bind (wpAny_standAt (wpAny_bind (wpAny_of_eq (hs x) (wpAny_bind (wpAny_holding (wpAny_mono h₃ (fun it' s₄ h₄ =>
      wpAny_bind (wpAny_mono (wpAny_runOwn (h := none) (Q := fun _ s₅ => ∃ m, m < n ∧ I m s₅) (E := NoE) ?_) (fun _ s₅ h₅ => wpAny_pure ⟨rfl, h₅⟩) fun _ _ h' => h')) fun _ _ h' => h'))))))) fun _ _ h' => h')) fun _ _ h' => h')
    have hm : A.mark none = A := by obtain ⟨a, b, c, d, e⟩ := A; cases hA; rfl
    change codeAny (model prog w) (A.mark none) _ _ s₄
    rw [hm]
    refine codeAny_mono h₄ fun r s₅ h₅ => ?_
    cases r with
    | ok f => exact h₅
    | error e => exact h₅.elim

theorem Rep.weak {base : Heap} {ns : List Str} {r : List Addr} {h : Heap} {l l' : Locs} (hP : Rep C V base ns l' H r h) (hl : ∀ (i : Nat) (v : MV), l[i]? = some (some v) → l'[i]? = some (some v)) : Rep C V base ns l H r h :=
  { hP with
    lcl := let ⟨m, hn, q⟩ := hP.lcl; ⟨m, hn, fun i x v h1 h2 h3 => q i x v h1 (hl i v h2) h3⟩
    cel := fun i x c h1 h2 => let ⟨ov, hc, q⟩ := hP.cel i x c h1 h2; ⟨ov, hc, fun v h3 => q v (hl i v h3)⟩ }

/-- the inner clause's loop -/
theorem inner_core {elt iter : Expr} {x : Str} {px pos : Pos} {g₀ : Comprehension} {scope : Scope} {l : Locs} {k : Nat} {item : Nat → MV} {keep : MH → Prop} {I : Nat → List MV → MH → Prop} {R : Result → Shared → Prop}
    (hx : x ∈ D.ns ∧ x ∉ D.cs) (hnone : ∀ (i : Nat), D.ns[i]? = some x → l[i]? = some none)
    (turn : ∀ i acc H', i < k → I i acc H' → ∃ l', Wr D.ns l x (item i) l' ∧ EV C V D n elt l' H' (fun v H₃ => I (i + 1) (acc ++ [v]) H₃))
    (hkeep : ∀ i acc H', I i acc H' → keep H') (hsz : ∀ i acc H', I i acc H' → acc.length ≤ sizeLine)
    {base : Heap} {A : Around} {s : Shared} {r : List Addr} {it a : Addr} {It : Nat → Heap → Prop} {acc₀ : List MV} {rvs₀ : List Value} (hR : Room A n) (hE : EvOK C V D base) (hP : Rep C V base D.ns l H r s.heap)
    (W : ItAt C n r k item keep it It) (w0 : It 0 s.heap) (I0 : I 0 acc₀ H) (hal : s.heap.PlainList a rvs₀.toArray) (hvs : VRels r acc₀ rvs₀)
    (hitoff : it ∉ r ∧ it ≠ V.env.locals ∧ (∀ y ∈ D.ns, V.cell y ≠ some it) ∧ base.get? it = none) (haoff : a ∉ r ∧ a ≠ V.env.locals ∧ (∀ y ∈ D.ns, V.cell y ≠ some a) ∧ base.get? a = none) (hia : it ≠ a)
    (hRR : ∀ acc H' r' h' tk rvs, I k acc H' → Rep C V base D.ns l H' r' h' → h'.PlainList a (List.toArray rvs) → VRels r' acc rvs → r <+: r' → (∀ b o, s.heap.get? b = some o → b ∉ r → b ≠ it → b ≠ a → b ≠ V.env.locals → h'.get? b = some o) →
      (∀ b ∈ r', b ∈ r ∨ s.heap.get? b = none) → R (.ok .next) { s with heap := h', toks := tk }) :
    codeAny (model C.pr C.w) A (.compStart (.ListComp elt [g₀, ⟨.Name x px, iter, [], 0⟩] scope pos) 1 (.ref it) (.ref a) V.env) R s := by
  have loop : codeAny (model C.pr C.w) A (.compLoop (.ListComp elt [g₀, ⟨.Name x px, iter, [], 0⟩] scope pos) 1 (.ref it) (.ref a) V.env) R s := by
    refine loop_in (fun j s' => ∃ i acc H' r' h' tk rvs, s' = { s with heap := h', toks := tk } ∧ j = k - i ∧ i ≤ k ∧ I i acc H' ∧ Rep C V base D.ns l H' r' h' ∧ It i h' ∧ h'.PlainList a (List.toArray rvs) ∧ VRels r' acc rvs ∧ r <+: r' ∧
        (∀ b o, s.heap.get? b = some o → b ∉ r → b ≠ it → b ≠ a → b ≠ V.env.locals → h'.get? b = some o) ∧ (∀ b ∈ r', b ∈ r ∨ s.heap.get? b = none)) ?_ k
      ⟨0, acc₀, H, r, s.heap, s.toks, rvs₀, rfl, rfl, Nat.zero_le _, I0, hP, w0, hal, hvs, List.prefix_refl _, fun _ _ e _ _ _ _ => e, fun b hb => .inl hb⟩
    rintro j s' ⟨i, acc, H', r', h', tk, rvs, rfl, rfl, hik, hI, hP', hW, hal', hvs', hpre, hkp, hnew⟩
    obtain ⟨oI, hoI⟩ := W.live _ _ hW
    obtain ⟨oI₀, hoI₀⟩ := W.live _ _ w0
    obtain ⟨nA₀, hoA₀⟩ := hal
    have o1 : it ∉ r' := fun q => by rcases hnew _ q with z | z; exact hitoff.1 z; rw [hoI₀] at z; cases z
    have o2 : a ∉ r' := fun q => by rcases hnew _ q with z | z; exact haoff.1 z; rw [hoA₀] at z; cases z
    have hit' : it ∉ r' ∧ it ≠ V.env.locals ∧ (∀ y ∈ D.ns, V.cell y ≠ some it) ∧ base.get? it = none := ⟨o1, hitoff.2⟩
    have ha' : a ∉ r' ∧ a ≠ V.env.locals ∧ (∀ y ∈ D.ns, V.cell y ≠ some a) ∧ base.get? a = none := ⟨o2, haoff.2⟩
    by_cases hlt : i < k
    · refine W.item A _ r' base H' i _ hR hP'.led hpre (hkeep _ _ _ hI) hlt hW fun rv h₃ tk₃ hv₃ hW₃ hs₃ => ?_
      have hP₃ : Rep C V base D.ns l H' r' h₃ := hP'.but (P := fun b => b = it) (fun b hb => hb ▸ hit') fun b o hb e => (hs₃.2 b hb).trans e
      have hal₃ := PlainList_same hal' hs₃ (Ne.symm hia)
      obtain ⟨l', hw, ht⟩ := turn i acc H' hlt hI
      refine wpAny_assign_Name (storeL hw hx.2 hE hP₃ hv₃ fun h₄ tk₄ hP₄ hs₄ => ?_)
      have hW₄ : It (i + 1) h₄ := W.frame _ _ _ hW₃ fun o e => (hs₄.2 _ hitoff.2.1).trans e
      have hal₄ := PlainList_same hal₃ hs₄ haoff.2.1
      refine ht base A _ r' _ hR hE hP₄ fun v H₆ rv' r₆ h₆ tk₆ q₆ hv₆ l₆ g₆ => ?_
      obtain ⟨nA, hoA⟩ := hal₄
      have hal₆ : h₆.PlainList a (List.toArray rvs) := ⟨nA, g₆.keep _ _ hoA o2⟩
      refine wpAny_list_append_plain (hsz := by simpa [← hvs'.len] using hsz _ _ _ hI) hal₆ fun h₇ hal₇ hs₇ => ?_
      have oA : a ∉ r₆ := g₆.off hoA o2
      obtain ⟨ix, hix, hixl, rfl⟩ := hw.ix
      have hP₆ := hP₄.grow l₆ g₆
      have hP₇ : Rep C V base D.ns l H₆ r₆ h₇ := (hP₆.but (P := fun b => b = a) (fun b hb => hb ▸ ⟨oA, haoff.2⟩) fun b o hb e => (hs₇.2 b hb).trans e).weak fun q v e => by
        by_cases hq : ix = q
        · subst hq; rw [hnone _ hix] at e; cases e
        · rw [List.getElem?_set_ne hq]; exact e
      refine ⟨k - (i + 1), by omega, i + 1, acc ++ [v], H₆, r₆, h₇, tk₆, rvs ++ [rv'], rfl, rfl, hlt, q₆, hP₇, W.frame _ _ _ hW₄ fun o e => (hs₇.2 _ hia).trans (g₆.keep _ _ e o1), by simpa using hal₇, (hvs'.mono g₆.pre).app (.one hv₆),
        hpre.trans g₆.pre, fun b o e h1 h2 h3 h4 => ?_, fun b hb => ?_⟩
      · have hb' : b ∉ r' := fun q => by rcases hnew _ q with z | z; exact h1 z; rw [e] at z; cases z
        exact (hs₇.2 _ h3).trans (g₆.keep _ _ ((hs₄.2 _ h4).trans ((hs₃.2 _ h2).trans (hkp b o e h1 h2 h3 h4))) hb')
      · rcases g₆.new b hb with z | z
        · exact hnew b z
        · cases e : s.heap.get? b with
          | none => exact .inr rfl
          | some o =>
            by_cases h1 : b ∈ r
            · exact .inl h1
            · exfalso
              by_cases h2 : b = it
              · obtain ⟨o', ho'⟩ := W.live _ _ hW₄; rw [h2] at z; rw [ho'] at z; cases z
              by_cases h3 : b = a
              · rw [h3, hoA] at z; cases z
              by_cases h4 : b = V.env.locals
              · obtain ⟨m, ⟨oL, es, ep, hoL, _⟩, _⟩ := hP₄.lcl; rw [h4, hoL] at z; cases z
              rw [(hs₄.2 _ h4).trans ((hs₃.2 _ h2).trans (hkp b o e h1 h2 h3 h4))] at z; cases z
    · have hik' : i = k := by omega
      subst hik'
      refine W.done A _ r' base H' _ hR hP'.led hpre (hkeep _ _ _ hI) hW fun h₃ tk₃ he => ?_
      exact hRR acc H' r' h₃ tk₃ rvs hI (hP'.but (P := fun b => b = it) (fun b hb => hb ▸ hit') fun b o hb e => he b o hb e) (hal'.at fun o e => he _ _ (Ne.symm hia) e) hvs' hpre
        (fun b o e h1 h2 h3 h4 => he _ _ h2 (hkp b o e h1 h2 h3 h4)) hnew
  exact start_in loop (W.self A _ 0 _ w0 loop)
end
section
variable {C : Cx} {V : Ev} {D D' : Dn} {n : Nat} {loc : Locs} {H : MH}

theorem start_out {prog : Program} {w : World} {A : Around} {R : Result → Shared → Prop} {s : Shared} {elt target iter target' iter' : Expr} {scope : Scope} {pos : Pos} {it acc : Value} {env : Env}
    (h0 : codeAny (model prog w) A (.compLoop (.ListComp elt [⟨target, iter, [], 0⟩, ⟨target', iter', [], 0⟩] scope pos) 0 it acc env) R s)
    (h : wpAny (model prog w) A (pyIter it) (fun it' s' => codeAny (model prog w) A (.compLoop (.ListComp elt [⟨target, iter, [], 0⟩, ⟨target', iter', [], 0⟩] scope pos) 0 it' acc env) R s') NoE s) :
    codeAny (model prog w) A (.compStart (.ListComp elt [⟨target, iter, [], 0⟩, ⟨target', iter', [], 0⟩] scope pos) 0 it acc env) R s := by
  refine codeAny_of_tree ?_
  show wpAny _ _ ((compStart (.ListComp elt [⟨target, iter, [], 0⟩, ⟨target', iter', [], 0⟩] scope pos) 0 it acc env).onRaise (fun x => do noteFrame x env; standAt theWindowsPlace)) _ _ s
  refine wpAny_notedAt (noted_of ?_)
  unfold compStart
  show wpAny _ _ (ask >>= _) _ _ s
  refine wpAny_bind (wpAny_askSetting (wpAny_ite ?_))
  split
  · first
      | exact wpAny_bind (wpAny_pure (wpAny_pure (And.intro rfl h0)))
      | exact wpAny_pure (And.intro rfl h0)
  · refine wpAny_bind (wpAny_rule ?_)
    show wpAny _ _ (standAt iter.pos >>= _) _ _ s
    exact wpAny_bind (wpAny_standAt (wpAny_bind (wpAny_mono h (fun it' s' h' => wpAny_pure (And.intro rfl h')) fun _ _ x => x)))

theorem comp2_core {elt iter iter' : Expr} {x x' : Str} {px px' pos : Pos} {scope : Scope} {loc' : Locs} {k : Nat} {item : Nat → MV} {keep : MH → Prop} {I : Nat → List MV → MH → Prop} {RR : Value → Addr → Result → Shared → Prop}
    (hok : okComp scope D D' = true) (hk : scope.kind = .function) (hx : x ∈ D'.ns ∧ x ∉ D'.cs) (hx' : x' ∈ D'.ns ∧ x' ∉ D'.cs) (hcap : Cap D D' loc loc')
    (turn : ∀ V' i acc H', i < k → I i acc H' → ∃ l', Wr D'.ns loc' x (item i) l' ∧ (∀ (i : Nat), D'.ns[i]? = some x' → l'[i]? = some none) ∧ EV C V' D' n iter' l' H' fun v H₁ => ∃ k' item' keep', Iter C n v H₁ k' item' keep' ∧ ∃ J : Nat → List MV → MH → Prop, J 0 acc H₁ ∧
      (∀ j acc h', J j acc h' → keep' h') ∧ (∀ j acc h', J j acc h' → acc.length ≤ sizeLine) ∧
      (∀ j acc H', j < k' → J j acc H' → ∃ l'', Wr D'.ns l' x' (item' j) l'' ∧ EV C V' D' n elt l'' H' (fun v H₃ => J (j + 1) (acc ++ [v]) H₃)) ∧ ∀ acc h', J k' acc h' → I (i + 1) acc h')
    (hkeep : ∀ i acc H', I i acc H' → keep H')
    {base : Heap} {A : Around} {s : Shared} {h₀ : Heap} {r : List Addr} {it : Addr} {It : Nat → Heap → Prop} (hR : Room A n) (hE : EvOK C V D base) (hP : Rep C V base D.ns loc H r h₀) (hs₀ : ∀ b o, h₀.get? b = some o → s.heap.get? b = some o) (hit0 : h₀.get? it = none)
    (W : ItAt C n r k item keep it It) (w0 : It 0 s.heap) (I0 : I 0 [] H)
    (hRR : ∀ a L' acc H' r' h' tk m, I k acc H' → Rep C V base D.ns loc (H' ++ [.list acc]) (r' ++ [a]) h' → Gr r h₀ (r' ++ [a]) h' → VRel (r' ++ [a]) (.ref H'.length) (.ref a) → h'.Ns L' m → h₀.get? L' = none → L' ∉ r' ++ [a] →
      RR (.ref a) L' (.ok .next) { s with heap := h', toks := tk }) (hsi : ∀ x env, foldedSetIterable iter' env x = pure x := by intro _ _; rfl) :
    wpAny (model C.pr C.w) A (newList []) (fun acc s₃ => wpAny (model C.pr C.w) A (newFunctionEnv scope V.env.globals (clOf V.cell scope.names []) [] V.env.qual none .none (some V.env)) (fun cenv s₄ =>
      codeAny (model C.pr C.w) A (.compStart (.ListComp elt [⟨.Name x px, iter, [], 0⟩, ⟨.Name x' px', iter', [], 0⟩] scope pos) 0 (.ref it) acc { cenv with scope := relabel scope V.env }) (RR acc cenv.locals) s₄) NoE s₃) NoE s := by
  obtain ⟨d1, d2, d3, d4, d6, d5, d7⟩ := okComp_spec hok
  refine wpAny_newObj_type (wpAny_newFunctionEnv (fun y hy => (d5 y hy).2) (by intro y hy; simp at hy) (fun h₁ hns₁ hsb₁ => ?_) hk)
  dsimp only at hns₁ hsb₁ ⊢
  generalize hH2 : s.heap.push { cls := .type "list", dict := none, data := .seq ([] : List Value).toArray } = H2 at hns₁ hsb₁ ⊢
  have hC : H2.objs.size = s.heap.objs.size + 1 := by rw [← hH2, Heap.size_push]
  generalize hL' : H2.objs.size = L' at hns₁ hsb₁ hC ⊢
  generalize ha : s.heap.objs.size = a at hC
  have hLa : a < L' := by rw [hC]; exact Nat.lt_succ_self _
  have haL : a ≠ L' := Nat.ne_of_lt hLa
  have dead : ∀ {b : Addr}, a ≤ b → s.heap.get? b = none := fun {b} hb => by
    cases e : s.heap.get? b with
    | none => rfl
    | some o => exact absurd (Heap.lt_size e) (by rw [ha]; exact Nat.not_lt.mpr hb)
  have dead₀ : ∀ {b : Addr}, a ≤ b → h₀.get? b = none := fun {b} hb => by
    cases e : h₀.get? b with
    | none => rfl
    | some o => have := hs₀ _ _ e; rw [dead hb] at this; cases this
  have hba : base.get? a = none := by
    cases e : base.get? a with
    | none => rfl
    | some o => have := hP.led.sub _ _ e; rw [dead₀ (Nat.le_refl _)] at this; cases this
  have hbL : base.get? L' = none := by
    cases e : base.get? L' with
    | none => rfl
    | some o => have := hP.led.sub _ _ e; rw [dead₀ (Nat.le_of_lt hLa)] at this; cases this
  have hbI : base.get? it = none := by
    cases e : base.get? it with
    | none => rfl
    | some o => have := hP.led.sub _ _ e; rw [hit0] at this; cases this
  obtain ⟨oI, hoI⟩ := W.live 0 _ w0
  have hIa : it < a := by rw [← ha]; exact Heap.lt_size hoI
  have hIA : it ≠ a := Nat.ne_of_lt hIa
  have hIL : it ≠ L' := Nat.ne_of_lt (Nat.lt_trans hIa hLa)
  have off : ∀ {b : Addr}, h₀.get? b = none → b ∉ r := fun {b} hb q => by
    obtain ⟨o, e⟩ := live_of hP.led q
    rw [hb] at e; cases e
  have offC : ∀ {b : Addr}, h₀.get? b = none → ∀ y ∈ D'.ns, (Vc V D' scope L').cell y ≠ some b := fun {b} hb y hy q => by
    obtain ⟨hc, e⟩ := Vc_cell q
    exact (hP.notLive hb).2.2.1 y (hE.csn _ (d3 _ hc).2) e
  have old : ∀ b o, s.heap.get? b = some o → h₁.get? b = some o := fun b o e => by
    have hb : b < a := by rw [← ha]; exact Heap.lt_size e
    exact hsb₁.extBut b o (Nat.ne_of_lt (Nat.lt_trans hb hLa)) (Heap.get?_push_of_some _ (hH2 ▸ Heap.get?_push_of_some _ e))
  have hacc : h₁.PlainList a #[] := ⟨0, hsb₁.extBut a _ haL (Heap.get?_push_of_some _ (by rw [← hH2, ← ha]; exact Heap.get?_push_size _ rfl))⟩
  have hE' : EvOK C (Vc V D' scope L') D' base := comp_ok hok hk hE hbL fun y hy q => by
    obtain ⟨i, hi, e⟩ := List.getElem_of_mem hy
    obtain ⟨ov, ⟨o, ho, _⟩, _⟩ := hP.cel i y _ (by rw [List.getElem?_eq_getElem hi, e]) q
    rw [dead₀ (Nat.le_of_lt hLa)] at ho; cases ho
  have loop : ∀ s₃ : Shared, s₃ = { s with heap := h₁, toks := s.toks + ([] : List (Str × Value)).length } →
      codeAny (model C.pr C.w) A (.compLoop (.ListComp elt [⟨.Name x px, iter, [], 0⟩, ⟨.Name x' px', iter', [], 0⟩] scope pos) 0 (.ref it) (.ref a) (Vc V D' scope L').env) (RR (.ref a) L') s₃ := by
    rintro s₃ rfl
    refine loop_out (fun j s' => ∃ i acc H' r' h' tk rvs, s' = { s with heap := h', toks := tk } ∧ j = k - i ∧ i ≤ k ∧ I i acc H' ∧ Led C.pr C.w base r' H' h' ∧ Gr r h₀ r' h' ∧ It i h' ∧ h'.PlainList a (List.toArray rvs) ∧ VRels r' acc rvs ∧ (∃ m, h'.Ns L' m)
        ∧ it ∉ r' ∧ a ∉ r' ∧ L' ∉ r') ?_ k
      ⟨0, [], H, r, h₁, _, [], rfl, rfl, Nat.zero_le _, I0, hP.led.keeps fun b o e => old b o (hs₀ b o e), Gr.ofKeeps r fun b o e => old b o (hs₀ b o e), W.frame _ _ _ w0 fun o e => old _ _ e, hacc, .nil, ⟨_, hns₁⟩, off hit0, off (dead₀ (Nat.le_refl _)), off (dead₀ (Nat.le_of_lt hLa))⟩ hR.hd (hs := fun x => hsi x _)
    rintro j s' ⟨i, acc, H', r', h', tk, rvs, rfl, rfl, hik, hI, hLd, hG, hW, hal, hvs, ⟨m, hns⟩, o1, o2, o3⟩
    by_cases hlt : i < k
    · refine W.item A _ r' base H' i _ hR hLd hG.pre (hkeep _ _ _ hI) hlt hW fun rv h₃ tk₃ hv₃ hW₃ hs₃ => ?_
      have hG₃ := hG.but hit0 hs₃
      have hL₃ := hLd.other hbI o1 hs₃
      have hns₃ : h₃.Ns L' m := hns.sameBut hs₃ (Ne.symm hIL)
      have hal₃ := PlainList_same hal hs₃ (Ne.symm hIA)
      obtain ⟨l', hw, hnone, ht⟩ := turn (Vc V D' scope L') i acc H' hlt hI
      have hP₃ : Rep C (Vc V D' scope L') base D'.ns loc' H' r' h₃ := comp_rep hok hE (hP.grow hL₃ hG₃) hcap hns₃ o3
      refine wpAny_assign_Name (storeL hw hx.2 hE' hP₃ hv₃ fun h₄ tk₄ hP₄ hs₄ => ?_)
      have hG₄ : Gr r h₀ r' h₄ := hG₃.but (dead₀ (Nat.le_of_lt hLa)) hs₄
      have hW₄ : It (i + 1) h₄ := W.frame _ _ _ hW₃ fun o e => (hs₄.2 _ hIL).trans e
      have hal₄ := PlainList_same hal₃ hs₄ haL
      refine ht base A _ r' _ hR hE' hP₄ fun v H₅ rv₅ r₅ h₅ tk₅ q₅ hv₅ l₅ g₅ => ?_
      obtain ⟨k', item', keep', ⟨hk0', hit'⟩, J, hJ0, hJk, hJs, turn', fin⟩ := q₅
      have hP₅ := hP₄.grow l₅ g₅
      have hG₅ := hG₄.trans g₅
      obtain ⟨oI₄, hoI₄⟩ := W.live _ _ hW₄
      obtain ⟨nA, hoA⟩ := hal₄
      have hoI₅ := g₅.keep _ _ hoI₄ o1
      have hoA₅ := g₅.keep _ _ hoA o2
      have o1₅ := g₅.off hoI₄ o1
      have o2₅ := g₅.off hoA o2
      refine hit' A _ r₅ base rv₅ _ hR l₅ hv₅ fun h₆ tk₆ It' W' w0' hk₆ => ?_
      have hnw := hP₅.notLive (at_size h₅)
      have hIn : it ≠ h₅.objs.size := fun q => by rw [q, at_size] at hoI₅; cases hoI₅
      have hAn : a ≠ h₅.objs.size := fun q => by rw [q, at_size] at hoA₅; cases hoA₅
      refine inner_core (H := H₅) (I := J) (keep := keep') (item := item') (k := k') (l := l') hx' hnone turn' hJk hJs hR hE' (hP₅.grow (l₅.keeps hk₆) (Gr.ofKeeps r₅ hk₆)) W' w0' hJ0
        (show h₆.PlainList a (List.toArray rvs) from ⟨nA, hk₆ _ _ hoA₅⟩) (hvs.mono g₅.pre) hnw ⟨o2₅, haL, offC (dead₀ (Nat.le_refl _)), hba⟩ (Ne.symm hAn) fun acc' H₇ r₇ h₇ tk₇ rvs' hJ hP₇ hal₇ hvs₇ hpre hkp hnew => ?_
      dsimp only at hkp hnew
      have hin7 : ∀ b o, h₅.get? b = some o → b ∉ r₅ → b ≠ a → b ≠ L' → h₇.get? b = some o := fun b o e h1 h2 h3 => hkp b o (hk₆ b o e) h1 (fun q => by rw [q, at_size] at e; cases e) h2 h3
      have hnot : ∀ b, (∃ o, h₆.get? b = some o) → b ∉ r₅ → b ∉ r₇ := fun b ⟨o, e⟩ h1 q => by rcases hnew b q with z | z; exact h1 z; rw [e] at z; cases z
      obtain ⟨m₄, ⟨oL, es, ep, hoL, qL⟩, _⟩ := hP₅.lcl
      have o3₅ : L' ∉ r₅ := hP₅.offL
      obtain ⟨m₇, hn₇, _⟩ := hP₇.lcl
      refine ⟨k - (i + 1), by omega, i + 1, acc', H₇, r₇, h₇, tk₇, rvs', rfl, rfl, hlt, fin _ _ hJ, hP₇.led, ⟨hG₅.pre.trans hpre, fun b o e hb => ?_, fun b hb => ?_⟩, W.frame _ _ _ hW₄ fun o e => hin7 _ _ (g₅.keep _ _ e o1) o1₅ hIA hIL,
        hal₇, hvs₇, ⟨m₇, hn₇⟩, hnot _ ⟨_, hk₆ _ _ hoI₅⟩ o1₅, hnot _ ⟨_, hk₆ _ _ hoA₅⟩ o2₅, hP₇.offL⟩
      · have e₅ := hG₅.keep b o e hb
        exact hin7 b o e₅ (hG₅.off e hb) (fun q => by rw [q, dead₀ (Nat.le_refl _)] at e; cases e) (fun q => by rw [q, dead₀ (Nat.le_of_lt hLa)] at e; cases e)
      · rcases hnew b hb with z | z
        · exact hG₅.new b z
        · cases e : h₀.get? b with
          | none => exact .inr rfl
          | some o =>
            by_cases h1 : b ∈ r
            · exact .inl h1
            · have := hk₆ _ _ (hG₅.keep b o e h1); rw [z] at this; cases this
    · have hik' : i = k := by omega
      subst hik'
      refine W.done A _ r' base H' _ hR hLd hG.pre (hkeep _ _ _ hI) hW fun h₃ tk₃ he => ?_
      have keep₃ : ∀ b o, b ≠ it → h'.get? b = some o → h₃.get? b = some o := fun b o hb e => he b o hb e
      have hG₃ : Gr r h₀ r' h₃ := ⟨hG.pre, fun b o e hb => keep₃ b o (fun q => by rw [q, hit0] at e; cases e) (hG.keep b o e hb), hG.new⟩
      have hL₃ : Led C.pr C.w base r' H' h₃ := { hLd with
        sub := fun b o e => keep₃ b o (fun q => by rw [q, hbI] at e; cases e) (hLd.sub b o e)
        bear := fun p c e => let ⟨b, hb, hc⟩ := hLd.bear p c e; ⟨b, hb, hc.keeps fun o e => keep₃ b o (fun q => o1 (q ▸ List.mem_of_getElem? hb)) e⟩ }
      have hal₃ : h₃.PlainList a (List.toArray rvs) := hal.at fun o e => keep₃ _ _ (Ne.symm hIA) e
      obtain ⟨l₄, v₄⟩ := hL₃.join (c := .list acc) o2 hba ⟨rvs, hal₃, hvs.mono ⟨_, rfl⟩⟩
      have hG₄ : Gr r h₀ (r' ++ [a]) h₃ := ⟨hG₃.pre.trans ⟨_, rfl⟩, hG₃.keep, fun b hb => by
        rcases List.mem_append.mp hb with q | q
        · exact hG₃.new b q
        · rw [List.mem_singleton.mp q]; exact .inr (dead₀ (Nat.le_refl _))⟩
      obtain ⟨oL, es, ep, hoL, qL⟩ := hns
      refine hRR a L' acc H' r' h₃ tk₃ m hI (hP.grow l₄ hG₄) hG₄ v₄ ⟨oL, es, ep, keep₃ _ _ (Ne.symm hIL) hoL, qL⟩ (dead₀ (Nat.le_of_lt hLa)) fun q => ?_
      rcases List.mem_append.mp q with q | q
      · exact o3 q
      · exact haL (List.mem_singleton.mp q).symm
  have hst : It 0 h₁ := W.frame _ _ _ w0 fun o e => old _ _ e
  exact start_out (loop _ rfl) (W.self A _ 0 _ hst (loop _ rfl))

/-- x = [elt for y in iter for z in iter'], x a name of the function's own: the stores are exchanged -/
theorem ST.asgComp2 {Q : Fl → Locs → MH → Prop} {elt iter iter' : Expr} {x x' y : Str} {px px' py pos spos : Pos} {scope : Scope} (D' : Dn) (loc' : Locs)
    (hok : okComp scope D D' = true) (hx : x ∈ D'.ns ∧ x ∉ D'.cs) (hx' : x' ∈ D'.ns ∧ x' ∉ D'.cs) (hcap : Cap D D' loc loc') (hy : y ∈ D.ns ∧ y ∉ D.cs)
    (h : EV C V D n iter loc H fun v H₁ => ∃ k item keep, Iter C n v H₁ k item keep ∧ ∃ I : Nat → List MV → MH → Prop, I 0 [] H₁ ∧ (∀ i acc h', I i acc h' → keep h') ∧
      (∀ V' i acc H', i < k → I i acc H' → ∃ l', Wr D'.ns loc' x (item i) l' ∧ (∀ (i : Nat), D'.ns[i]? = some x' → l'[i]? = some none) ∧ EV C V' D' n iter' l' H' fun v H₁ => ∃ k' item' keep', Iter C n v H₁ k' item' keep' ∧ ∃ J : Nat → List MV → MH → Prop, J 0 acc H₁ ∧
      (∀ j acc h', J j acc h' → keep' h') ∧ (∀ j acc h', J j acc h' → acc.length ≤ sizeLine) ∧
      (∀ j acc H', j < k' → J j acc H' → ∃ l'', Wr D'.ns l' x' (item' j) l'' ∧ EV C V' D' n elt l'' H' (fun v H₃ => J (j + 1) (acc ++ [v]) H₃)) ∧ ∀ acc h', J k' acc h' → I (i + 1) acc h') ∧
      ∀ acc h', I k acc h' → ∃ l', Wr D.ns loc y (.ref h'.length) l' ∧ Q .next l' (h' ++ [.list acc]))
    (hw : ∀ env : Env, env.scope.kind = .function → env.kindOf y = some .local → swapsWith (.ListComp elt [⟨.Name x px, iter, [], 0⟩, ⟨.Name x' px', iter', [], 0⟩] scope pos) (some (.Name y py)) spos.line env = pure true)
    (hk : scope.kind = .function := by rfl) (hs : ∀ x env, foldedSetIterable iter env x = pure x := by intro _ _; rfl) (hsi : ∀ x env, foldedSetIterable iter' env x = pure x := by intro _ _; rfl) :
    ST C V D n (.Assign [.Name y py] (.ListComp elt [⟨.Name x px, iter, [], 0⟩, ⟨.Name x' px', iter', [], 0⟩] scope pos) spos) loc H Q := by
  intro base A s r Qr hR hE hP hQ
  obtain ⟨d1, d2, d3, d4, d6, d5, d7⟩ := okComp_spec hok
  rw [exec_Assign_Name_used _ _ _ _ (hw V.env hE.kind (hE.loc y hy.1 (hE.isl y hy.1 hy.2)))]
  refine wpAny_bind (wpAny_standAt (wpAny_bind ?_))
  show wpAny _ A (do let _ ← comprehension (.ListComp elt [⟨.Name x px, iter, [], 0⟩, ⟨.Name x' px', iter', [], 0⟩] scope pos) scope V.env _ (newList []) false (eval iter V.env) (some (assign (.Name y py) V.env))) _ _ s
  refine wpAny_bind (wpAny_mono (wpAny_comprehension_free (use := some (assign (.Name y py) V.env)) (Q := fun _ s' => Qr .next s') (g := ⟨.Name x px, iter, [], 0⟩) (gs := [⟨.Name x' px', iter', [], 0⟩]) rfl (fun x => hs x _) (comp_closure hok hE) hk (fun z hz e => ?_)
    (h base A s r _ hR hE hP fun v H₁ rv r₁ h₁ tk₁ q₁ hv l₁ g₁ => ?_)) (fun _ s' hq => wpAny_pure (wpAny_pure hq)) fun _ _ e => e)
  · obtain ⟨z, k⟩ := z
    obtain rfl : k = .local := e
    exact look_nodup d7 hz
  obtain ⟨k, item, keep, ⟨hk0, hit⟩, I, hI0, hIk, turn, fin⟩ := q₁
  refine hit A _ r₁ base rv _ hR l₁ hv fun h₂ tk₂ It W w0 hk₂ => ?_
  refine comp2_core (RR := fun acc C' r s' => compPost (model C.pr C.w) A NoE (some (assign (.Name y py) V.env)) (fun _ s' => Qr .next s') acc C' r s') hok hk hx hx' hcap turn hIk hR hE (hP.grow l₁ g₁) hk₂ (at_size _) W w0 hI0 (fun a L' acc H' r' h' tk m hI hP' hG' hv' hn hL0 hoff => ?_) hsi
  obtain ⟨l', hwr, hq⟩ := fin acc H' hI
  show wpAny _ A (assign (.Name y py) V.env (.ref a)) _ NoE _
  have hnl := (hP.grow l₁ g₁).notLive hL0
  refine wpAny_assign_Name (storeL hwr hy.2 hE hP' hv' fun h₃ tk₃ hP₃ hs₃ => ?_)
  refine ⟨m, hn.sameBut hs₃ hnl.2.1, fun h₄ hs₄ => ?_⟩
  exact hQ _ _ _ _ _ _ _ hq rfl (hP₃.but (P := fun b => b = L') (fun b hb => hb ▸ ⟨hoff, hnl.2⟩) fun b o hb e => (hs₄.2 b hb).trans e) (g₁.trans hG').pre
end
noncomputable abbrev CX (w : World) (sa : Addr) (sn : List Int) : Cx := ⟨PySem.Challenge.rw_nn0264_01.row.prog, w, heapK w.params, sa, sn⟩

theorem EV.callOwn {C : Cx} {V : Ev} {D : Dn} {n : Nat} {loc : Locs} {H : MH} {Q : MV → MH → Prop} {x : Str} {p pos : Pos} {e : Expr} {rest : List Expr} {a : Addr} (hx : x ∈ D.gs) (hg : nsIn C.K mainGlobals x = some (some (.ref a))) (hk : keepIn C.K (.ref a) = true)
    (h : EVs C V D n (e :: rest) loc H fun vs H₁ => FN C (.ref a) n vs H₁ Q)
    (hd : (x == ("__debug__" : Str)) = false := by decide)
    (he : ∀ env, starEach (e :: rest) env = (false, eval e env) :: starEach rest env := by intro _; rfl)
    (hp : ∀ env, (starEach rest env).any (·.1) = false := by intro _; rfl) :
    EV C V D n (.Call (.Name x p) (e :: rest) [] pos) loc H Q := EV.call hx (GV.own hg) (Kp.own hk) h hd he hp
theorem EV.callB {C : Cx} {V : Ev} {D : Dn} {n : Nat} {loc : Locs} {H : MH} {Q : MV → MH → Prop} {x : Str} {p pos : Pos} {e : Expr} {rest : List Expr} {id : String} (hx : x ∈ D.gs) (hg : nsIn C.K mainGlobals x = some none) (hv : bootBuiltins x = some (.builtin id))
    (h : EVs C V D n (e :: rest) loc H fun vs H₁ => FN C (.builtin id) n vs H₁ Q) (hn : x ≠ Str.ofString "__name__" := by decide)
    (hd : (x == ("__debug__" : Str)) = false := by decide)
    (he : ∀ env, starEach (e :: rest) env = (false, eval e env) :: starEach rest env := by intro _; rfl)
    (hp : ∀ env, (starEach rest env).any (·.1) = false := by intro _; rfl) :
    EV C V D n (.Call (.Name x p) (e :: rest) [] pos) loc H Q := EV.call hx (GV.blt hg hn hv) Kp.blt h hd he hp
theorem EV.callT {C : Cx} {V : Ev} {D : Dn} {n : Nat} {loc : Locs} {H : MH} {Q : MV → MH → Prop} {x : Str} {p pos : Pos} {e : Expr} {rest : List Expr} {id : String} (hx : x ∈ D.gs) (hg : nsIn C.K mainGlobals x = some none) (hv : bootBuiltins x = some (.type id))
    (h : EVs C V D n (e :: rest) loc H fun vs H₁ => FN C (.type id) n vs H₁ Q) (hn : x ≠ Str.ofString "__name__" := by decide)
    (hd : (x == ("__debug__" : Str)) = false := by decide)
    (he : ∀ env, starEach (e :: rest) env = (false, eval e env) :: starEach rest env := by intro _; rfl)
    (hp : ∀ env, (starEach rest env).any (·.1) = false := by intro _; rfl) :
    EV C V D n (.Call (.Name x p) (e :: rest) [] pos) loc H Q := EV.call hx (GV.blt hg hn hv) Kp.type h hd he hp

theorem ST.swapT {C : Cx} {V : Ev} {D : Dn} {n : Nat} {loc : Locs} {H : MH} {Q : Fl → Locs → MH → Prop} {elts vals : List Expr} {k k' : Nat} {tpos pos vpos : Pos} {xs : List Str} (hloc : ∀ x ∈ xs, x ∈ D.ns ∧ x ∉ D.cs)
    (h : EVs C V D n vals loc H fun vs H₁ => vs.length = xs.length ∧ vs.length ≤ sizeLine ∧ ∃ loc', Wrs D.ns loc xs.reverse vs.reverse loc' ∧ Q .next loc' (H₁ ++ [.tup vs]))
    (hw : ∀ env : Env, env.scope.kind = .function → (∀ x ∈ xs, env.kindOf x = some .local) → swappedStores [.Tuple elts k tpos] (.Tuple vals k' vpos) env = pure (some xs)) (hs : ∀ env, swapsWithSole [.Tuple elts k tpos] (.Tuple vals k' vpos) pos.line env = pure false := by intro _; rfl) :
    ST C V D n (.Assign [.Tuple elts k tpos] (.Tuple vals k' vpos) pos) loc H Q := by
  refine ST.swap (xs := xs) hloc (EV.tuple ?_) hw hs
  intro vpos' base A s r Qr hR hE hP hQ
  refine h vpos' base A s r Qr hR hE hP fun vs H₁ rvs r₁ h₁ tk₁ q₁ v₁ l₁ g₁ => ?_
  obtain ⟨e1, e2, loc', hw', q⟩ := q₁
  exact hQ _ _ _ _ _ _ ⟨e2, _, _, _, rfl, by simp, e1, hw', q⟩ v₁ l₁ g₁

/-- what a list of targets counts as names that are stored to together, told of any function that so counts -/
theorem sw_yes {ts vs : List Expr} {k k' : Nat} {tpos vpos : Pos} {env : Env} {ns : List Str} (h1 : (ts.length == 2 || ts.length == 3) = true) (h2 : (vs.length != ts.length) = false) (h3 : env.scope.kind = .function)
    (h4 : (vs.any fun | .Starred .. => true | _ => false) = false)
    (h5 : ∀ f : Expr → Option Str, (∀ z p, env.kindOf z = some .local → p.line = (ts.head?.map (·.pos.line)).getD 0 → f (.Name z p) = some z) → ts.filterMap f = ns) (h6 : ns.length = ts.length) (h7 : ns.eraseDups.length = ns.length)
    (h8 : vs.all (foldedForSure 8) = false) (h9 : vs.all (constantsAlone 8) = false) : swappedStores [.Tuple ts k tpos] (.Tuple vs k' vpos) env = pure (some ns) := by
  have hb : (env.blockKind != .function) = false := by
    have : env.blockKind = .function := by unfold Env.blockKind; rw [h3]; rfl
    rw [this]; rfl
  have key : ∀ {c1 c2 c4 c5 : Prop} [Decidable c1] [Decidable c2] [Decidable c4] [Decidable c5] {f : Expr → Option Str} {r : Sem (Option (List Str))}, ts.filterMap f = ns → ¬ c1 → ¬ c2 → ¬ c4 → ¬ c5 →
      (if c1 then pure none else if c2 then pure none else if ((ts.filterMap f).length != ts.length || (ts.filterMap f).eraseDups.length != (ts.filterMap f).length) = true then pure none else if c4 then pure none else if c5 then r else pure (some (ts.filterMap f)) : Sem (Option (List Str))) = pure (some ns) := by
    intro c1 c2 c4 c5 _ _ _ _ f r e n1 n2 n4 n5
    rw [if_neg n1, if_neg n2, e, if_neg (by rw [h6, h7, h6]; simp), if_neg n4, if_neg n5]
  refine key (h5 _ fun z p q1 q2 => ?_) (by rw [h1, h2, hb]; decide) (fun q => Bool.noConfusion (h4.symm.trans q)) (by rw [h8]; decide) (by rw [h9]; decide)
  exact if_pos (by rw [q1, q2, beq_self_eq_true]; exact beq_self_eq_true _)
theorem sw_fold {ts vs : List Expr} {k k' : Nat} {tpos vpos : Pos} {env : Env} (h : vs.all (foldedForSure 8) = true) : swappedStores [.Tuple ts k tpos] (.Tuple vs k' vpos) env = pure none := by
  have key : ∀ {c1 c2 c3 c4 : Prop} [Decidable c1] [Decidable c2] [Decidable c3] [Decidable c4] {r : Sem (Option (List Str))}, c4 → (if c1 then pure none else if c2 then pure none else if c3 then pure none else if c4 then pure none else r) = pure none := by
    intro c1 c2 c3 c4 _ _ _ _ r h
    rw [if_pos h]; simp only [ite_self]
  exact key (c4 := vs.all (foldedForSure 8) = true) h
theorem sw_no {ts vs : List Expr} {k k' : Nat} {tpos vpos : Pos} {env : Env} (h : ∀ f : Expr → Option Str, (∀ o i p, f (.Subscript o i p) = none) → (ts.filterMap f).length ≠ ts.length) : swappedStores [.Tuple ts k tpos] (.Tuple vs k' vpos) env = pure none := by
  have key : ∀ {c1 c2 c3 : Prop} [Decidable c1] [Decidable c2] [Decidable c3] {r : Sem (Option (List Str))}, c3 → (if c1 then pure none else if c2 then pure none else if c3 then pure none else r) = pure none := by
    intro c1 c2 c3 _ _ _ r h
    rw [if_pos h]; simp only [ite_self]
  refine key (c3 := _) ?_
  rw [Bool.or_eq_true, bne_iff_ne]
  exact .inl (h _ fun _ _ _ => rfl)
theorem sw2 {env : Env} {e1 e2 : Expr} {k k' : Nat} {px py tpos vpos : Pos} {x y : Str} (hk : env.scope.kind = .function) (hl : ∀ z ∈ [x, y], env.kindOf z = some .local) (hne : [x, y].eraseDups.length = 2) (hline : (px.line == py.line) = true)
    (hst : ([e1, e2].any fun | .Starred .. => true | _ => false) = false) (hf : [e1, e2].all (foldedForSure 8) = false) (hc : [e1, e2].all (constantsAlone 8) = false) :
    swappedStores [.Tuple [.Name x px, .Name y py] k tpos] (.Tuple [e1, e2] k' vpos) env = pure (some [x, y]) := by
  refine sw_yes rfl rfl hk hst (fun f q => ?_) rfl hne hf hc
  rw [List.filterMap_cons_some (q x px (hl x (by simp)) rfl), List.filterMap_cons_some (q y py (hl y (by simp)) (beq_iff_eq.mp hline).symm)]; rfl
theorem ST.swap2 {C : Cx} {V : Ev} {D : Dn} {n : Nat} {loc : Locs} {H : MH} {Q : Fl → Locs → MH → Prop} {e1 e2 : Expr} {k k' : Nat} {px py tpos pos vpos : Pos} {x y : Str} (hloc : (D.ns.contains x && !D.cs.contains x && D.ns.contains y && !D.cs.contains y) = true)
    (h : EV C V D n e1 loc H fun v1 H₁ => EV C V D n e2 loc H₁ fun v2 H₂ => ∃ loc', Wrs D.ns loc [y, x] [v2, v1] loc' ∧ Q .next loc' (H₂ ++ [.tup [v1, v2]]))
    (hne : [x, y].eraseDups.length = 2 := by decide) (hline : (px.line == py.line) = true := by rfl)
    (hst : ([e1, e2].any fun | .Starred .. => true | _ => false) = false := by rfl) (hf : [e1, e2].all (foldedForSure 8) = false := by rfl) (hc : [e1, e2].all (constantsAlone 8) = false := by rfl)
    (hs : ∀ env, swapsWithSole [.Tuple [.Name x px, .Name y py] k tpos] (.Tuple [e1, e2] k' vpos) pos.line env = pure false := by intro _; rfl)
    (he1 : ∀ env, starEach [e1, e2] env = (false, eval e1 env) :: starEach [e2] env := by intro _; rfl) (he2 : ∀ env, starEach [e2] env = (false, eval e2 env) :: starEach [] env := by intro _; rfl) :
    ST C V D n (.Assign [.Tuple [.Name x px, .Name y py] k tpos] (.Tuple [e1, e2] k' vpos) pos) loc H Q := by
  refine ST.swapT (xs := [x, y]) (fun z hz => ?_) (EVs.cons (h.mono fun v1 H₁ h₁ => EVs.cons (h₁.mono fun v2 H₂ h₂ => EVs.nil ⟨rfl, (show 2 ≤ sizeLine from by decide), h₂⟩) he2) he1) (fun env hk hl => sw2 hk hl hne hline hst hf hc) hs
  simp at hloc
  rcases List.mem_cons.mp hz with e | hz
  · rw [e]; exact ⟨hloc.1.1.1, hloc.1.1.2⟩
  · rw [List.mem_singleton.mp hz]; exact ⟨hloc.1.2, hloc.2⟩

theorem ST.tupT {C : Cx} {V : Ev} {D : Dn} {n : Nat} {loc : Locs} {H : MH} {Q : Fl → Locs → MH → Prop} {elts vals : List Expr} {k k' : Nat} {tpos pos vpos : Pos} {xs : List Str} (ha : AN elts xs)
    (h : EVs C V D n vals loc H fun vs H₁ => vs.length = xs.length ∧ vs.length ≤ sizeLine ∧ ∃ loc', Wrs D.ns loc xs vs loc' ∧ Q .next loc' (H₁ ++ [.tup vs]))
    (hw : ∀ env, swappedStores [.Tuple elts k tpos] (.Tuple vals k' vpos) env = pure none) (hs : ∀ env, swapsWithSole [.Tuple elts k tpos] (.Tuple vals k' vpos) pos.line env = pure false := by intro _; rfl) :
    ST C V D n (.Assign [.Tuple elts k tpos] (.Tuple vals k' vpos) pos) loc H Q := by
  refine ST.tup (xs := xs) ha (EV.tuple ?_) hw hs
  intro vpos' base A s r Qr hR hE hP hQ
  refine h vpos' base A s r Qr hR hE hP fun vs H₁ rvs r₁ h₁ tk₁ q₁ v₁ l₁ g₁ => ?_
  obtain ⟨e1, e2, loc', hw', q⟩ := q₁
  exact hQ _ _ _ _ _ _ ⟨e2, _, _, _, rfl, by simp, e1, hw', q⟩ v₁ l₁ g₁

/-- a block's value to a name that lies in a cell -/
theorem ST.asgC {C : Cx} {V : Ev} {D : Dn} {n : Nat} {loc : Locs} {H : MH} {Q : Fl → Locs → MH → Prop} {x : Str} {value : Expr} {pos' pos : Pos} (hx : x ∈ D.cs) (h : EV C V D n value loc H fun v H₁ => ∃ loc', Wr D.ns loc x v loc' ∧ Q .next loc' H₁)
    (hs : ∀ env : Env, env.scope.kind = .function → env.kindOf x = some .cell → swapsWith value (some (.Name x pos')) pos.line env = pure false) : ST C V D n (.Assign [.Name x pos'] value pos) loc H Q := by
  intro base A s r Qr hR hE hP hQ
  obtain ⟨c, hc⟩ := hE.isc x hx
  refine wpAny_Assign_Name (hs := hs _ hE.kind (hE.cel x (hE.csn x hx) c hc).1) (h base A s r _ hR hE hP fun v H₁ rv r₁ h₁ tk₁ q₁ hv l₁ g₁ => ?_)
  obtain ⟨loc', hw, q⟩ := q₁
  exact store hw hE (hP.grow l₁ g₁) hv fun h' tk hP' => hQ _ _ _ _ _ _ tk q rfl hP' g₁.pre

/-- {'great': .., 'mixed': ..} -/
theorem EV.dict2 {C : Cx} {V : Ev} {D : Dn} {n : Nat} {loc : Locs} {H : MH} {Q : MV → MH → Prop} {k1 k2 : Nat} {p1 p2 pos : Pos} {v1 v2 : Expr}
    (h : EV C V D n v1 loc H fun a H₁ => ∃ g, a = .int g ∧ EV C V D n v2 loc H₁ fun b H₂ => ∃ m, b = .int m ∧ Q (.ref H₂.length) (H₂ ++ [.draws g m])) :
    EV C V D n (.Dict [some (.Constant (.str (Str.ofString "great")) k1 p1), some (.Constant (.str (Str.ofString "mixed")) k2 p2)] [v1, v2] pos) loc H Q := by
  intro base A s r Qr hR hE hP hQ
  have hP₀ : Rep C V base D.ns loc H r (s.heap.push { cls := .type "dict", data := .dict #[] }) := hP.grow (hP.led.keeps fun b o e => Heap.get?_push_of_some _ e) (Gr.ofKeeps r fun b o e => Heap.get?_push_of_some _ e)
  have hnl := hP.notLive (at_size s.heap)
  refine wpAny_Dict_walk (knd := PySem.strKind C.pr C.w) rfl rfl (by simp) (by simp) ?_
  refine pairTrees_cons_walk (EV.cstr (V := V) (D := D) (n := n) (Q := fun v H' => v = .str (Str.ofString "great") ∧ H' = H) ⟨rfl, rfl⟩ base A _ r _ hR hE hP₀ fun kv H₁ rk r₁ h₁ tk₁ q₁ vk l₁ g₁ => ?_)
  obtain ⟨rfl, rfl⟩ := q₁
  refine h base A _ r₁ _ hR hE (hP₀.grow l₁ g₁) fun a H₂ ra r₂ h₂ tk₂ q₂ va l₂ g₂ => ?_
  obtain ⟨g, rfl, q₂⟩ := q₂
  refine pairTrees_cons_walk (EV.cstr (V := V) (D := D) (n := n) (Q := fun v H' => v = .str (Str.ofString "mixed") ∧ H' = H₂) ⟨rfl, rfl⟩ base A _ r₂ _ hR hE (hP₀.grow l₂ (g₁.trans g₂)) fun kv H₃ rk' r₃ h₃ tk₃ q₃ vk' l₃ g₃ => ?_)
  obtain ⟨rfl, rfl⟩ := q₃
  refine q₂ base A _ r₃ _ hR hE (hP₀.grow l₃ (g₁.trans (g₂.trans g₃))) fun b H₄ rb r₄ h₄ tk₄ q₄ vb l₄ g₄ => ?_
  obtain ⟨m, rfl, q₄⟩ := q₄
  obtain ⟨t1, rfl⟩ := vk
  obtain ⟨t2, rfl⟩ := vk'
  obtain ⟨t3, rfl⟩ := va
  obtain ⟨t4, rfl⟩ := vb
  have hg := g₁.trans (g₂.trans (g₃.trans g₄))
  refine pairTrees_nil_walk ?_
  obtain ⟨o, es, ep, ho, qd⟩ := Heap.DictOf.new (knd := PySem.strKind C.pr C.w) s.heap
  have ho₄ := hg.keep _ _ ho hnl.1
  refine display_done_str rfl (show [Str.ofString "great", Str.ofString "mixed"].Nodup from by decide) ⟨o, es, ep, ho₄, qd⟩ fun h' hm hsb => ?_
  have oS := hg.off ho hnl.1
  have hL' : Led C.pr C.w base r₄ H₄ h' := l₄.other hnl.2.2.2 oS hsb
  obtain ⟨l₅, v₅⟩ := hL'.join (c := .draws g m) oS hnl.2.2.2 ⟨t3, t4, hm⟩
  refine hQ _ _ _ _ _ _ q₄ v₅ l₅ ⟨hg.pre.trans ⟨_, rfl⟩, fun a o e ha => ?_, fun a ha => ?_⟩
  · have hne : a ≠ s.heap.objs.size := fun q => by rw [q, at_size] at e; cases e
    exact (hsb.2 a hne).trans (hg.keep a o (Heap.get?_push_of_some _ e) ha)
  · rcases List.mem_append.mp ha with q | q
    · rcases hg.new a q with z | z
      · exact .inl z
      · cases e : s.heap.get? a with
        | none => exact .inr rfl
        | some o => rw [Heap.get?_push_of_some _ e] at z; cases z
    · rw [List.mem_singleton.mp q]; exact .inr (at_size _)

theorem pre_get {H H' : MH} (e : H <+: H') {p : Nat} {c : Cel} (hp : H[p]? = some c) : H'[p]? = some c := by
  obtain ⟨t, rfl⟩ := e
  have hlt : p < H.length := by
    rcases Nat.lt_or_ge p H.length with q | q
    · exact q
    · rw [List.getElem?_eq_none q] at hp; cases hp
  rw [List.getElem?_append_left hlt]; exact hp
theorem get_new {H : MH} {c : Cel} : (H ++ [c])[H.length]? = some c := by simp
theorem get_old {H : MH} {p : Nat} {c d : Cel} (hp : H[p]? = some c) : (H ++ [d])[p]? = some c := pre_get ⟨_, rfl⟩ hp
theorem pre_new {H H' : MH} {d : Cel} (e : H <+: H') : H <+: H' ++ [d] := e.trans ⟨_, rfl⟩
theorem pre_set {H H' : MH} {p : Nat} {d : Cel} (e : H <+: H') (hp : H.length ≤ p) : H <+: H'.set p d := by
  obtain ⟨t, rfl⟩ := e
  rw [List.set_append_right _ _ hp]
  exact ⟨_, rfl⟩
theorem get_set {H : MH} {p : Nat} {c d : Cel} (hp : H[p]? = some c) : (H.set p d)[p]? = some d := by
  rcases Nat.lt_or_ge p H.length with q | q
  · simp [q]
  · rw [List.getElem?_eq_none q] at hp; cases hp
theorem get_set_ne {H : MH} {p q : Nat} {c d : Cel} (hp : H[p]? = some c) (h : q ≠ p) : (H.set q d)[p]? = some c := by
  rw [List.getElem?_set_ne h]; exact hp
theorem locOf_get {vs : List MV} {k : Nat} {i : Nat} {v : MV} (h : (vs.map some ++ List.replicate k none)[i]? = some (some v)) : vs[i]? = some v := by
  rcases Nat.lt_or_ge i vs.length with q | q
  · rw [List.getElem?_append_left (by simpa using q)] at h
    simpa using h
  · rw [List.getElem?_append_right (by simpa using q)] at h
    rw [List.getElem?_replicate] at h
    split at h <;> cases h

theorem wrGo {ns : List Str} {loc : Locs} {x : Str} {v : MV} {P : Locs → Prop} (h : ∃ l', Wr ns loc x v l' ∧ P l') : ∃ l', Wr ns loc x v l' ∧ P l' := h
theorem wrsGo {ns : List Str} {loc : Locs} {x : List Str} {v : List MV} {P : Locs → Prop} (h : ∃ l', Wrs ns loc x v l' ∧ P l') : ∃ l', Wrs ns loc x v l' ∧ P l' := h
theorem Then.go {C : Cx} {V : Ev} {D : Dn} {n : Nat} {loc : Locs} {H : MH} {Q : Fl → Locs → MH → Prop} {rest : List Stmt} (h : SS C V D n rest loc H Q) : Then C V D n rest Q .next loc H := h
theorem lenI {xs : List Int} (hs : xs.length ≤ sizeLine) : (xs.map MV.int).length < 2 ^ 62 := by
  have hL : (2 : Nat) ^ 24 = sizeLine := by decide
  rw [List.length_map]; omega
theorem FN.lenI {C : Cx} {n : Nat} {H : MH} {Q : MV → MH → Prop} {p : Nat} {xs : List Int} (hp : H[p]? = some (IL xs)) (hs : xs.length ≤ sizeLine) (h : Q (.int xs.length) H) : FN C (.builtin "len") n [.ref p] H Q :=
  FN.len hp (Mine.lenI hs) (by rw [List.length_map]; exact h)
inductive CapI (D D' : Dn) (loc : Locs) : List Str → Locs → Prop
  | nil {ls : Locs} : CapI D D' loc [] ls
  | skip {x : Str} {xs : List Str} {ls : Locs} : CapI D D' loc xs ls → CapI D D' loc (x :: xs) (none :: ls)
  | take {x : Str} {v : MV} {xs : List Str} {ls : Locs} : D'.cs.contains x = true → Rd D.ns loc x v → CapI D D' loc xs ls → CapI D D' loc (x :: xs) (some v :: ls)
theorem CapI.ix {D D' : Dn} {loc ls : Locs} {xs : List Str} (h : CapI D D' loc xs ls) : ∀ (i : Nat) (x : Str) (v : MV), xs[i]? = some x → ls[i]? = some (some v) → x ∈ D'.cs ∧ Rd D.ns loc x v := by
  induction h with
  | nil => intro i x v h; simp at h
  | skip _ ih =>
    intro i x v h1 h2
    cases i with
    | zero => simp at h2
    | succ i => exact ih i x v h1 h2
  | take hc hr _ ih =>
    intro i x v h1 h2
    cases i with
    | zero => simp at h1 h2; subst h1; subst h2; exact ⟨by simpa using hc, hr⟩
    | succ i => exact ih i x v h1 h2
theorem cap_of {D D' : Dn} {loc loc' : Locs} (h : CapI D D' loc D'.ns loc') : Cap D D' loc loc' := h.ix
section walk
variable {w : World} {sa : Addr} {sn : List Int}
set_option maxRecDepth 100000
theorem call_gcd {V : Ev} {D : Dn} {n : Nat} {loc : Locs} {H : MH} {Q : MV → MH → Prop} {p pos : Pos} {e : Expr} {rest : List Expr} (hx : D.gs.contains ("gcd" : Str) = true)
    (h : EVs (CX w sa sn) V D n (e :: rest) loc H fun vs H₁ => FN (CX w sa sn) (.ref 41) n vs H₁ Q)
    (he : ∀ env, starEach (e :: rest) env = (false, eval e env) :: starEach rest env := by intro _; rfl)
    (hp : ∀ env, (starEach rest env).any (·.1) = false := by intro _; rfl) :
    EV (CX w sa sn) V D n (.Call (.Name ("gcd" : Str) p) (e :: rest) [] pos) loc H Q := EV.callOwn (by simpa using hx) (by rfl) (by rfl) h (by decide) he hp
theorem call_gcd_all {V : Ev} {D : Dn} {n : Nat} {loc : Locs} {H : MH} {Q : MV → MH → Prop} {p pos : Pos} {e : Expr} {rest : List Expr} (hx : D.gs.contains ("gcd_all" : Str) = true)
    (h : EVs (CX w sa sn) V D n (e :: rest) loc H fun vs H₁ => FN (CX w sa sn) (.ref 48) n vs H₁ Q)
    (he : ∀ env, starEach (e :: rest) env = (false, eval e env) :: starEach rest env := by intro _; rfl)
    (hp : ∀ env, (starEach rest env).any (·.1) = false := by intro _; rfl) :
    EV (CX w sa sn) V D n (.Call (.Name ("gcd_all" : Str) p) (e :: rest) [] pos) loc H Q := EV.callOwn (by simpa using hx) (by rfl) (by rfl) h (by decide) he hp
theorem call_ztrim {V : Ev} {D : Dn} {n : Nat} {loc : Locs} {H : MH} {Q : MV → MH → Prop} {p pos : Pos} {e : Expr} {rest : List Expr} (hx : D.gs.contains ("ztrim" : Str) = true)
    (h : EVs (CX w sa sn) V D n (e :: rest) loc H fun vs H₁ => FN (CX w sa sn) (.ref 55) n vs H₁ Q)
    (he : ∀ env, starEach (e :: rest) env = (false, eval e env) :: starEach rest env := by intro _; rfl)
    (hp : ∀ env, (starEach rest env).any (·.1) = false := by intro _; rfl) :
    EV (CX w sa sn) V D n (.Call (.Name ("ztrim" : Str) p) (e :: rest) [] pos) loc H Q := EV.callOwn (by simpa using hx) (by rfl) (by rfl) h (by decide) he hp
theorem call_zdegree {V : Ev} {D : Dn} {n : Nat} {loc : Locs} {H : MH} {Q : MV → MH → Prop} {p pos : Pos} {e : Expr} {rest : List Expr} (hx : D.gs.contains ("zdegree" : Str) = true)
    (h : EVs (CX w sa sn) V D n (e :: rest) loc H fun vs H₁ => FN (CX w sa sn) (.ref 62) n vs H₁ Q)
    (he : ∀ env, starEach (e :: rest) env = (false, eval e env) :: starEach rest env := by intro _; rfl)
    (hp : ∀ env, (starEach rest env).any (·.1) = false := by intro _; rfl) :
    EV (CX w sa sn) V D n (.Call (.Name ("zdegree" : Str) p) (e :: rest) [] pos) loc H Q := EV.callOwn (by simpa using hx) (by rfl) (by rfl) h (by decide) he hp
theorem call_zlead {V : Ev} {D : Dn} {n : Nat} {loc : Locs} {H : MH} {Q : MV → MH → Prop} {p pos : Pos} {e : Expr} {rest : List Expr} (hx : D.gs.contains ("zlead" : Str) = true)
    (h : EVs (CX w sa sn) V D n (e :: rest) loc H fun vs H₁ => FN (CX w sa sn) (.ref 69) n vs H₁ Q)
    (he : ∀ env, starEach (e :: rest) env = (false, eval e env) :: starEach rest env := by intro _; rfl)
    (hp : ∀ env, (starEach rest env).any (·.1) = false := by intro _; rfl) :
    EV (CX w sa sn) V D n (.Call (.Name ("zlead" : Str) p) (e :: rest) [] pos) loc H Q := EV.callOwn (by simpa using hx) (by rfl) (by rfl) h (by decide) he hp
theorem call_zadd {V : Ev} {D : Dn} {n : Nat} {loc : Locs} {H : MH} {Q : MV → MH → Prop} {p pos : Pos} {e : Expr} {rest : List Expr} (hx : D.gs.contains ("zadd" : Str) = true)
    (h : EVs (CX w sa sn) V D n (e :: rest) loc H fun vs H₁ => FN (CX w sa sn) (.ref 74) n vs H₁ Q)
    (he : ∀ env, starEach (e :: rest) env = (false, eval e env) :: starEach rest env := by intro _; rfl)
    (hp : ∀ env, (starEach rest env).any (·.1) = false := by intro _; rfl) :
    EV (CX w sa sn) V D n (.Call (.Name ("zadd" : Str) p) (e :: rest) [] pos) loc H Q := EV.callOwn (by simpa using hx) (by rfl) (by rfl) h (by decide) he hp
theorem call_zneg {V : Ev} {D : Dn} {n : Nat} {loc : Locs} {H : MH} {Q : MV → MH → Prop} {p pos : Pos} {e : Expr} {rest : List Expr} (hx : D.gs.contains ("zneg" : Str) = true)
    (h : EVs (CX w sa sn) V D n (e :: rest) loc H fun vs H₁ => FN (CX w sa sn) (.ref 79) n vs H₁ Q)
    (he : ∀ env, starEach (e :: rest) env = (false, eval e env) :: starEach rest env := by intro _; rfl)
    (hp : ∀ env, (starEach rest env).any (·.1) = false := by intro _; rfl) :
    EV (CX w sa sn) V D n (.Call (.Name ("zneg" : Str) p) (e :: rest) [] pos) loc H Q := EV.callOwn (by simpa using hx) (by rfl) (by rfl) h (by decide) he hp
theorem call_zsub {V : Ev} {D : Dn} {n : Nat} {loc : Locs} {H : MH} {Q : MV → MH → Prop} {p pos : Pos} {e : Expr} {rest : List Expr} (hx : D.gs.contains ("zsub" : Str) = true)
    (h : EVs (CX w sa sn) V D n (e :: rest) loc H fun vs H₁ => FN (CX w sa sn) (.ref 86) n vs H₁ Q)
    (he : ∀ env, starEach (e :: rest) env = (false, eval e env) :: starEach rest env := by intro _; rfl)
    (hp : ∀ env, (starEach rest env).any (·.1) = false := by intro _; rfl) :
    EV (CX w sa sn) V D n (.Call (.Name ("zsub" : Str) p) (e :: rest) [] pos) loc H Q := EV.callOwn (by simpa using hx) (by rfl) (by rfl) h (by decide) he hp
theorem call_zscale {V : Ev} {D : Dn} {n : Nat} {loc : Locs} {H : MH} {Q : MV → MH → Prop} {p pos : Pos} {e : Expr} {rest : List Expr} (hx : D.gs.contains ("zscale" : Str) = true)
    (h : EVs (CX w sa sn) V D n (e :: rest) loc H fun vs H₁ => FN (CX w sa sn) (.ref 91) n vs H₁ Q)
    (he : ∀ env, starEach (e :: rest) env = (false, eval e env) :: starEach rest env := by intro _; rfl)
    (hp : ∀ env, (starEach rest env).any (·.1) = false := by intro _; rfl) :
    EV (CX w sa sn) V D n (.Call (.Name ("zscale" : Str) p) (e :: rest) [] pos) loc H Q := EV.callOwn (by simpa using hx) (by rfl) (by rfl) h (by decide) he hp
theorem call_zraise {V : Ev} {D : Dn} {n : Nat} {loc : Locs} {H : MH} {Q : MV → MH → Prop} {p pos : Pos} {e : Expr} {rest : List Expr} (hx : D.gs.contains ("zraise" : Str) = true)
    (h : EVs (CX w sa sn) V D n (e :: rest) loc H fun vs H₁ => FN (CX w sa sn) (.ref 98) n vs H₁ Q)
    (he : ∀ env, starEach (e :: rest) env = (false, eval e env) :: starEach rest env := by intro _; rfl)
    (hp : ∀ env, (starEach rest env).any (·.1) = false := by intro _; rfl) :
    EV (CX w sa sn) V D n (.Call (.Name ("zraise" : Str) p) (e :: rest) [] pos) loc H Q := EV.callOwn (by simpa using hx) (by rfl) (by rfl) h (by decide) he hp
theorem call_zcontent {V : Ev} {D : Dn} {n : Nat} {loc : Locs} {H : MH} {Q : MV → MH → Prop} {p pos : Pos} {e : Expr} {rest : List Expr} (hx : D.gs.contains ("zcontent" : Str) = true)
    (h : EVs (CX w sa sn) V D n (e :: rest) loc H fun vs H₁ => FN (CX w sa sn) (.ref 105) n vs H₁ Q)
    (he : ∀ env, starEach (e :: rest) env = (false, eval e env) :: starEach rest env := by intro _; rfl)
    (hp : ∀ env, (starEach rest env).any (·.1) = false := by intro _; rfl) :
    EV (CX w sa sn) V D n (.Call (.Name ("zcontent" : Str) p) (e :: rest) [] pos) loc H Q := EV.callOwn (by simpa using hx) (by rfl) (by rfl) h (by decide) he hp
theorem call_zshift {V : Ev} {D : Dn} {n : Nat} {loc : Locs} {H : MH} {Q : MV → MH → Prop} {p pos : Pos} {e : Expr} {rest : List Expr} (hx : D.gs.contains ("zshift" : Str) = true)
    (h : EVs (CX w sa sn) V D n (e :: rest) loc H fun vs H₁ => FN (CX w sa sn) (.ref 112) n vs H₁ Q)
    (he : ∀ env, starEach (e :: rest) env = (false, eval e env) :: starEach rest env := by intro _; rfl)
    (hp : ∀ env, (starEach rest env).any (·.1) = false := by intro _; rfl) :
    EV (CX w sa sn) V D n (.Call (.Name ("zshift" : Str) p) (e :: rest) [] pos) loc H Q := EV.callOwn (by simpa using hx) (by rfl) (by rfl) h (by decide) he hp
theorem call_check_bottom {V : Ev} {D : Dn} {n : Nat} {loc : Locs} {H : MH} {Q : MV → MH → Prop} {p pos : Pos} {e : Expr} {rest : List Expr} (hx : D.gs.contains ("check_bottom" : Str) = true)
    (h : EVs (CX w sa sn) V D n (e :: rest) loc H fun vs H₁ => FN (CX w sa sn) (.ref 119) n vs H₁ Q)
    (he : ∀ env, starEach (e :: rest) env = (false, eval e env) :: starEach rest env := by intro _; rfl)
    (hp : ∀ env, (starEach rest env).any (·.1) = false := by intro _; rfl) :
    EV (CX w sa sn) V D n (.Call (.Name ("check_bottom" : Str) p) (e :: rest) [] pos) loc H Q := EV.callOwn (by simpa using hx) (by rfl) (by rfl) h (by decide) he hp
theorem call_pseudo {V : Ev} {D : Dn} {n : Nat} {loc : Locs} {H : MH} {Q : MV → MH → Prop} {p pos : Pos} {e : Expr} {rest : List Expr} (hx : D.gs.contains ("pseudo" : Str) = true)
    (h : EVs (CX w sa sn) V D n (e :: rest) loc H fun vs H₁ => FN (CX w sa sn) (.ref 126) n vs H₁ Q)
    (he : ∀ env, starEach (e :: rest) env = (false, eval e env) :: starEach rest env := by intro _; rfl)
    (hp : ∀ env, (starEach rest env).any (·.1) = false := by intro _; rfl) :
    EV (CX w sa sn) V D n (.Call (.Name ("pseudo" : Str) p) (e :: rest) [] pos) loc H Q := EV.callOwn (by simpa using hx) (by rfl) (by rfl) h (by decide) he hp
theorem call_divided {V : Ev} {D : Dn} {n : Nat} {loc : Locs} {H : MH} {Q : MV → MH → Prop} {p pos : Pos} {e : Expr} {rest : List Expr} (hx : D.gs.contains ("divided" : Str) = true)
    (h : EVs (CX w sa sn) V D n (e :: rest) loc H fun vs H₁ => FN (CX w sa sn) (.ref 131) n vs H₁ Q)
    (he : ∀ env, starEach (e :: rest) env = (false, eval e env) :: starEach rest env := by intro _; rfl)
    (hp : ∀ env, (starEach rest env).any (·.1) = false := by intro _; rfl) :
    EV (CX w sa sn) V D n (.Call (.Name ("divided" : Str) p) (e :: rest) [] pos) loc H Q := EV.callOwn (by simpa using hx) (by rfl) (by rfl) h (by decide) he hp
theorem call_full_rest {V : Ev} {D : Dn} {n : Nat} {loc : Locs} {H : MH} {Q : MV → MH → Prop} {p pos : Pos} {e : Expr} {rest : List Expr} (hx : D.gs.contains ("full_rest" : Str) = true)
    (h : EVs (CX w sa sn) V D n (e :: rest) loc H fun vs H₁ => FN (CX w sa sn) (.ref 136) n vs H₁ Q)
    (he : ∀ env, starEach (e :: rest) env = (false, eval e env) :: starEach rest env := by intro _; rfl)
    (hp : ∀ env, (starEach rest env).any (·.1) = false := by intro _; rfl) :
    EV (CX w sa sn) V D n (.Call (.Name ("full_rest" : Str) p) (e :: rest) [] pos) loc H Q := EV.callOwn (by simpa using hx) (by rfl) (by rfl) h (by decide) he hp
theorem call_row_resultant {V : Ev} {D : Dn} {n : Nat} {loc : Locs} {H : MH} {Q : MV → MH → Prop} {p pos : Pos} {e : Expr} {rest : List Expr} (hx : D.gs.contains ("row_resultant" : Str) = true)
    (h : EVs (CX w sa sn) V D n (e :: rest) loc H fun vs H₁ => FN (CX w sa sn) (.ref 143) n vs H₁ Q)
    (he : ∀ env, starEach (e :: rest) env = (false, eval e env) :: starEach rest env := by intro _; rfl)
    (hp : ∀ env, (starEach rest env).any (·.1) = false := by intro _; rfl) :
    EV (CX w sa sn) V D n (.Call (.Name ("row_resultant" : Str) p) (e :: rest) [] pos) loc H Q := EV.callOwn (by simpa using hx) (by rfl) (by rfl) h (by decide) he hp
theorem call_resultant {V : Ev} {D : Dn} {n : Nat} {loc : Locs} {H : MH} {Q : MV → MH → Prop} {p pos : Pos} {e : Expr} {rest : List Expr} (hx : D.gs.contains ("resultant" : Str) = true)
    (h : EVs (CX w sa sn) V D n (e :: rest) loc H fun vs H₁ => FN (CX w sa sn) (.ref 150) n vs H₁ Q)
    (he : ∀ env, starEach (e :: rest) env = (false, eval e env) :: starEach rest env := by intro _; rfl)
    (hp : ∀ env, (starEach rest env).any (·.1) = false := by intro _; rfl) :
    EV (CX w sa sn) V D n (.Call (.Name ("resultant" : Str) p) (e :: rest) [] pos) loc H Q := EV.callOwn (by simpa using hx) (by rfl) (by rfl) h (by decide) he hp
theorem call_root_bound {V : Ev} {D : Dn} {n : Nat} {loc : Locs} {H : MH} {Q : MV → MH → Prop} {p pos : Pos} {e : Expr} {rest : List Expr} (hx : D.gs.contains ("root_bound" : Str) = true)
    (h : EVs (CX w sa sn) V D n (e :: rest) loc H fun vs H₁ => FN (CX w sa sn) (.ref 155) n vs H₁ Q)
    (he : ∀ env, starEach (e :: rest) env = (false, eval e env) :: starEach rest env := by intro _; rfl)
    (hp : ∀ env, (starEach rest env).any (·.1) = false := by intro _; rfl) :
    EV (CX w sa sn) V D n (.Call (.Name ("root_bound" : Str) p) (e :: rest) [] pos) loc H Q := EV.callOwn (by simpa using hx) (by rfl) (by rfl) h (by decide) he hp
theorem call_first_differences {V : Ev} {D : Dn} {n : Nat} {loc : Locs} {H : MH} {Q : MV → MH → Prop} {p pos : Pos} {e : Expr} {rest : List Expr} (hx : D.gs.contains ("first_differences" : Str) = true)
    (h : EVs (CX w sa sn) V D n (e :: rest) loc H fun vs H₁ => FN (CX w sa sn) (.ref 160) n vs H₁ Q)
    (he : ∀ env, starEach (e :: rest) env = (false, eval e env) :: starEach rest env := by intro _; rfl)
    (hp : ∀ env, (starEach rest env).any (·.1) = false := by intro _; rfl) :
    EV (CX w sa sn) V D n (.Call (.Name ("first_differences" : Str) p) (e :: rest) [] pos) loc H Q := EV.callOwn (by simpa using hx) (by rfl) (by rfl) h (by decide) he hp
theorem call_zeros_on {V : Ev} {D : Dn} {n : Nat} {loc : Locs} {H : MH} {Q : MV → MH → Prop} {p pos : Pos} {e : Expr} {rest : List Expr} (hx : D.gs.contains ("zeros_on" : Str) = true)
    (h : EVs (CX w sa sn) V D n (e :: rest) loc H fun vs H₁ => FN (CX w sa sn) (.ref 167) n vs H₁ Q)
    (he : ∀ env, starEach (e :: rest) env = (false, eval e env) :: starEach rest env := by intro _; rfl)
    (hp : ∀ env, (starEach rest env).any (·.1) = false := by intro _; rfl) :
    EV (CX w sa sn) V D n (.Call (.Name ("zeros_on" : Str) p) (e :: rest) [] pos) loc H Q := EV.callOwn (by simpa using hx) (by rfl) (by rfl) h (by decide) he hp
theorem call_dispersions {V : Ev} {D : Dn} {n : Nat} {loc : Locs} {H : MH} {Q : MV → MH → Prop} {p pos : Pos} {e : Expr} {rest : List Expr} (hx : D.gs.contains ("dispersions" : Str) = true)
    (h : EVs (CX w sa sn) V D n (e :: rest) loc H fun vs H₁ => FN (CX w sa sn) (.ref 172) n vs H₁ Q)
    (he : ∀ env, starEach (e :: rest) env = (false, eval e env) :: starEach rest env := by intro _; rfl)
    (hp : ∀ env, (starEach rest env).any (·.1) = false := by intro _; rfl) :
    EV (CX w sa sn) V D n (.Call (.Name ("dispersions" : Str) p) (e :: rest) [] pos) loc H Q := EV.callOwn (by simpa using hx) (by rfl) (by rfl) h (by decide) he hp
theorem call_law_take {V : Ev} {D : Dn} {n : Nat} {loc : Locs} {H : MH} {Q : MV → MH → Prop} {p pos : Pos} {e : Expr} {rest : List Expr} (hx : D.gs.contains ("_law_take" : Str) = true)
    (h : EVs (CX w sa sn) V D n (e :: rest) loc H fun vs H₁ => FN (CX w sa sn) (.ref 179) n vs H₁ Q)
    (he : ∀ env, starEach (e :: rest) env = (false, eval e env) :: starEach rest env := by intro _; rfl)
    (hp : ∀ env, (starEach rest env).any (·.1) = false := by intro _; rfl) :
    EV (CX w sa sn) V D n (.Call (.Name ("_law_take" : Str) p) (e :: rest) [] pos) loc H Q := EV.callOwn (by simpa using hx) (by rfl) (by rfl) h (by decide) he hp
theorem call_law_draws {V : Ev} {D : Dn} {n : Nat} {loc : Locs} {H : MH} {Q : MV → MH → Prop} {p pos : Pos} {e : Expr} {rest : List Expr} (hx : D.gs.contains ("_law_draws" : Str) = true)
    (h : EVs (CX w sa sn) V D n (e :: rest) loc H fun vs H₁ => FN (CX w sa sn) (.ref 184) n vs H₁ Q)
    (he : ∀ env, starEach (e :: rest) env = (false, eval e env) :: starEach rest env := by intro _; rfl)
    (hp : ∀ env, (starEach rest env).any (·.1) = false := by intro _; rfl) :
    EV (CX w sa sn) V D n (.Call (.Name ("_law_draws" : Str) p) (e :: rest) [] pos) loc H Q := EV.callOwn (by simpa using hx) (by rfl) (by rfl) h (by decide) he hp
theorem call_law_mul {V : Ev} {D : Dn} {n : Nat} {loc : Locs} {H : MH} {Q : MV → MH → Prop} {p pos : Pos} {e : Expr} {rest : List Expr} (hx : D.gs.contains ("_law_mul" : Str) = true)
    (h : EVs (CX w sa sn) V D n (e :: rest) loc H fun vs H₁ => FN (CX w sa sn) (.ref 191) n vs H₁ Q)
    (he : ∀ env, starEach (e :: rest) env = (false, eval e env) :: starEach rest env := by intro _; rfl)
    (hp : ∀ env, (starEach rest env).any (·.1) = false := by intro _; rfl) :
    EV (CX w sa sn) V D n (.Call (.Name ("_law_mul" : Str) p) (e :: rest) [] pos) loc H Q := EV.callOwn (by simpa using hx) (by rfl) (by rfl) h (by decide) he hp
theorem call_law_made {V : Ev} {D : Dn} {n : Nat} {loc : Locs} {H : MH} {Q : MV → MH → Prop} {p pos : Pos} {e : Expr} {rest : List Expr} (hx : D.gs.contains ("_law_made" : Str) = true)
    (h : EVs (CX w sa sn) V D n (e :: rest) loc H fun vs H₁ => FN (CX w sa sn) (.ref 198) n vs H₁ Q)
    (he : ∀ env, starEach (e :: rest) env = (false, eval e env) :: starEach rest env := by intro _; rfl)
    (hp : ∀ env, (starEach rest env).any (·.1) = false := by intro _; rfl) :
    EV (CX w sa sn) V D n (.Call (.Name ("_law_made" : Str) p) (e :: rest) [] pos) loc H Q := EV.callOwn (by simpa using hx) (by rfl) (by rfl) h (by decide) he hp
theorem call_abs {V : Ev} {D : Dn} {n : Nat} {loc : Locs} {H : MH} {Q : MV → MH → Prop} {p pos : Pos} {e : Expr} {rest : List Expr} (hx : D.gs.contains ("abs" : Str) = true)
    (h : EVs (CX w sa sn) V D n (e :: rest) loc H fun vs H₁ => FN (CX w sa sn) (.builtin "abs") n vs H₁ Q)
    (he : ∀ env, starEach (e :: rest) env = (false, eval e env) :: starEach rest env := by intro _; rfl)
    (hp : ∀ env, (starEach rest env).any (·.1) = false := by intro _; rfl) :
    EV (CX w sa sn) V D n (.Call (.Name ("abs" : Str) p) (e :: rest) [] pos) loc H Q := EV.callB (by simpa using hx) (by rfl) (by rfl) h (by decide) (by decide) he hp
theorem call_len {V : Ev} {D : Dn} {n : Nat} {loc : Locs} {H : MH} {Q : MV → MH → Prop} {p pos : Pos} {e : Expr} {rest : List Expr} (hx : D.gs.contains ("len" : Str) = true)
    (h : EVs (CX w sa sn) V D n (e :: rest) loc H fun vs H₁ => FN (CX w sa sn) (.builtin "len") n vs H₁ Q)
    (he : ∀ env, starEach (e :: rest) env = (false, eval e env) :: starEach rest env := by intro _; rfl)
    (hp : ∀ env, (starEach rest env).any (·.1) = false := by intro _; rfl) :
    EV (CX w sa sn) V D n (.Call (.Name ("len" : Str) p) (e :: rest) [] pos) loc H Q := EV.callB (by simpa using hx) (by rfl) (by rfl) h (by decide) (by decide) he hp
theorem call_max {V : Ev} {D : Dn} {n : Nat} {loc : Locs} {H : MH} {Q : MV → MH → Prop} {p pos : Pos} {e : Expr} {rest : List Expr} (hx : D.gs.contains ("max" : Str) = true)
    (h : EVs (CX w sa sn) V D n (e :: rest) loc H fun vs H₁ => FN (CX w sa sn) (.builtin "max") n vs H₁ Q)
    (he : ∀ env, starEach (e :: rest) env = (false, eval e env) :: starEach rest env := by intro _; rfl)
    (hp : ∀ env, (starEach rest env).any (·.1) = false := by intro _; rfl) :
    EV (CX w sa sn) V D n (.Call (.Name ("max" : Str) p) (e :: rest) [] pos) loc H Q := EV.callB (by simpa using hx) (by rfl) (by rfl) h (by decide) (by decide) he hp
theorem call_sum {V : Ev} {D : Dn} {n : Nat} {loc : Locs} {H : MH} {Q : MV → MH → Prop} {p pos : Pos} {e : Expr} {rest : List Expr} (hx : D.gs.contains ("sum" : Str) = true)
    (h : EVs (CX w sa sn) V D n (e :: rest) loc H fun vs H₁ => FN (CX w sa sn) (.builtin "sum") n vs H₁ Q)
    (he : ∀ env, starEach (e :: rest) env = (false, eval e env) :: starEach rest env := by intro _; rfl)
    (hp : ∀ env, (starEach rest env).any (·.1) = false := by intro _; rfl) :
    EV (CX w sa sn) V D n (.Call (.Name ("sum" : Str) p) (e :: rest) [] pos) loc H Q := EV.callB (by simpa using hx) (by rfl) (by rfl) h (by decide) (by decide) he hp
theorem call_list {V : Ev} {D : Dn} {n : Nat} {loc : Locs} {H : MH} {Q : MV → MH → Prop} {p pos : Pos} {e : Expr} {rest : List Expr} (hx : D.gs.contains ("list" : Str) = true)
    (h : EVs (CX w sa sn) V D n (e :: rest) loc H fun vs H₁ => FN (CX w sa sn) (.type "list") n vs H₁ Q)
    (he : ∀ env, starEach (e :: rest) env = (false, eval e env) :: starEach rest env := by intro _; rfl)
    (hp : ∀ env, (starEach rest env).any (·.1) = false := by intro _; rfl) :
    EV (CX w sa sn) V D n (.Call (.Name ("list" : Str) p) (e :: rest) [] pos) loc H Q := EV.callT (by simpa using hx) (by rfl) (by rfl) h (by decide) (by decide) he hp
theorem call_range {V : Ev} {D : Dn} {n : Nat} {loc : Locs} {H : MH} {Q : MV → MH → Prop} {p pos : Pos} {e : Expr} {rest : List Expr} (hx : D.gs.contains ("range" : Str) = true)
    (h : EVs (CX w sa sn) V D n (e :: rest) loc H fun vs H₁ => FN (CX w sa sn) (.type "range") n vs H₁ Q)
    (he : ∀ env, starEach (e :: rest) env = (false, eval e env) :: starEach rest env := by intro _; rfl)
    (hp : ∀ env, (starEach rest env).any (·.1) = false := by intro _; rfl) :
    EV (CX w sa sn) V D n (.Call (.Name ("range" : Str) p) (e :: rest) [] pos) loc H Q := EV.callT (by simpa using hx) (by rfl) (by rfl) h (by decide) (by decide) he hp
local macro_rules | `(tactic| walk_at "rd") => `(tactic| first | (with_reducible exact Rd.head) | (apply Rd.tail; walk_at "rd"))
local macro_rules | `(tactic| walk_at "wr") => `(tactic| first | (with_reducible exact Wr.head) | (apply Wr.tail; walk_at "wr"))
local macro_rules | `(tactic| walk_at "wrs") => `(tactic| first | exact Wrs.nil | (apply Wrs.cons; (focus walk_at "wr"); walk_at "wrs"))
local macro_rules | `(tactic| walk_at "an") => `(tactic| first | exact AN.nil | (apply AN.cons; walk_at "an"))
local macro_rules | `(tactic| walk_at "cap") => `(tactic| first | exact CapI.nil | (apply CapI.skip; walk_at "cap") | (apply CapI.take (by decide +kernel) (by walk_at "rd"); walk_at "cap"))
local macro_rules | `(tactic| walk_at "hp") => `(tactic| first | assumption | exact get_new | (refine get_old ?_; walk_at "hp") | (refine pre_get (by assumption) ?_; walk_at "hp"))
local macro_rules | `(tactic| walk_at "pre") => `(tactic| first | exact List.prefix_refl _ | assumption | (refine pre_new ?_; walk_at "pre") | (refine List.IsPrefix.trans ?_ (by assumption); walk_at "pre"))
local macro_rules | `(tactic| walk_at "call") => do
  let ns : List Lean.Term := ("call_gcd call_gcd_all call_ztrim call_zdegree call_zlead call_zadd call_zneg call_zsub call_zscale call_zraise call_zcontent call_zshift call_check_bottom call_pseudo call_divided call_full_rest call_row_resultant call_resultant call_root_bound call_first_differences call_zeros_on call_dispersions call_law_take call_law_draws call_law_mul call_law_made call_abs call_len call_max call_sum call_list call_range".splitOn " ").map fun s => Lean.mkIdent s.toName
  let t ← ns.foldrM (fun n acc => `(tactic| first | refine $n ?hx ?_ ?he ?hp | $acc:tactic)) (← `(tactic| fail))
  `(tactic| ((with_reducible $t:tactic); (case hx => decide +kernel); (case he | hp => (intro _; rfl))))
local macro_rules | `(tactic| walk_at "ev") => do
  let few (l : String) : Lean.MacroM (Lean.TSyntax `tactic) := do ((l.splitOn " ").map fun s => (Lean.mkIdent s.toName : Lean.Term)).foldrM (fun n acc => `(tactic| first | refine $n ?_ | $acc:tactic)) (← `(tactic| fail))
  let one ← few "EV.int EV.bin Then.go SS.cons EV.un EV.ite EV.tuple EV.list EVs.nil TV.bool ST.ret SS.nil ST.ite EV.cnone EV.cbool EV.cstr BO.add BO.sub BO.eq BO.ne BO.lt BO.gt BO.ge UO.neg BO.iadd BO.isub"
  let two ← few "EV.sub FN.abs FN.range1"
  `(tactic| first
  | ((with_reducible refine EV.name (v := ?_) ?h ?_ ?hd); (case hd => decide); (case h => walk_at "rd"))
  | with_reducible $one:tactic
  | ((with_reducible refine EV.cmp ?_ ?hm); (case hm => rfl))
  | ((with_reducible refine EVs.cons ?_ ?he); (case he => (intro _; rfl)))
  | ((with_reducible refine TT.cmp ?_ ?hm); (case hm => rfl))
  | ((with_reducible refine ST.asg ?_ ?hs); (case hs => (intro _; rfl)))
  | ((with_reducible refine wrGo ?_); refine ⟨_, by walk_at "wr", ?_⟩)
  | ((with_reducible refine wrsGo ?_); refine ⟨_, by walk_at "wrs", ?_⟩)
  | ((with_reducible refine ST.swap2 ?hl ?_ ?h1 ?h2 ?h3 ?h4 ?h5 ?h6 ?h7 ?h8); (case hl => decide +kernel); (case h1 => decide); (case h2 | h3 | h4 | h5 => rfl); (case h6 | h7 | h8 => (intro _; rfl)))
  | walk_at "call"
  | ((with_reducible refine EV.slice ?_ ?ht); (case ht => (intro _ _; rfl)))
  | with_reducible $two:tactic
  | ((with_reducible refine FN.lenI (xs := ?xs) ?hp ?hs ?_); (case hp => walk_at "hp"); (case hs => first | omega | (simp; omega))))
theorem fmod_nonneg' {a b : Int} (ha : 0 ≤ a) (hb : 0 < b) : 0 ≤ a.fmod b ∧ a.fmod b < b := by
  rw [Int.fmod_eq_emod_of_nonneg _ (Int.le_of_lt hb)]
  exact ⟨Int.emod_nonneg _ (by omega), Int.emod_lt_of_pos _ hb⟩
theorem gcd_fmod {a b : Int} (ha : 0 ≤ a) (hb : 0 < b) : Int.gcd b (a.fmod b) = Int.gcd a b := by
  obtain ⟨m, rfl⟩ := Int.eq_ofNat_of_zero_le ha
  obtain ⟨k, rfl⟩ := Int.eq_ofNat_of_zero_le (Int.le_of_lt hb)
  rw [Int.fmod_eq_emod_of_nonneg _ (Int.le_of_lt hb)]
  show Nat.gcd k (m % k) = Nat.gcd m k
  rw [Nat.gcd_comm, ← Nat.gcd_rec, Nat.gcd_comm]

theorem gcd_ok {n : Nat} {a b : Int} {H : MH} {Q : MV → MH → Prop} (h : ∀ H', H <+: H' → Q (.int (Int.gcd a b)) H') : FN (CX w sa sn) (.ref 41) (n + 1) [.int a, .int b] H Q := by
  refine FN.enter (D := ⟨["a", "b"], [], ["abs"]⟩) (ps := ["a", "b"]) (loc := [some (.int a), some (.int b)]) (by rfl) rfl rfl (by kernel_rfl) (by decide +kernel) (fun rvs h => by match rvs, h with | [x, y], _ => rfl) rfl (fun i v h => locOf_get (k := 0) h) (fun V => ?_)
  repeat walk_at "ev"
  · refine (ST.whl (fun m l h' => ∃ a' b', l = [some (.int a'), some (.int b')] ∧ m = b'.natAbs ∧ 0 ≤ b' ∧ 0 ≤ a' ∧ Int.gcd a' b' = Int.gcd a b ∧ H <+: h') ?_ ?_)
    · refine ⟨_, _, _, rfl, rfl, ?_, ?_, ?_, ⟨_, rfl⟩⟩
      · split <;> omega
      · split <;> omega
      · rw [ite_abs', ite_abs']; simp [Int.gcd]
    · rintro m l h' ⟨a', b', rfl, rfl, hb, ha, hg, hH⟩
      repeat walk_at "ev"
      split
      · rename_i hne
        have hne : b' ≠ 0 := by simpa using hne
        repeat walk_at "ev"
        · refine BO.mod hne ?_
          repeat walk_at "ev"
          obtain ⟨m1, m2⟩ := fmod_nonneg' ha (by omega : 0 < b')
          refine ⟨_, by omega, _, _, rfl, rfl, m1, hb, ?_, by walk_at "pre"⟩
          rw [gcd_fmod ha (by omega), hg]
      · rename_i hne
        have hne : b' = 0 := by simpa using hne
        subst hne
        repeat walk_at "ev"
        simp only [Int.gcd_zero_right] at hg
        have e : a' = (Int.gcd a b : Int) := by omega
        rw [e]
        exact h _ hH
noncomputable def content (xs : List Int) : Int := xs.foldl (fun f x => (Int.gcd f x : Int)) 0

theorem Iter.ints {C : Cx} {n : Nat} {H : MH} {p : Nat} {xs : List Int} (hp : H[p]? = some (IL xs)) : Iter C n (.ref p) H xs.length (fun i => .int (xs.getD i 0)) (fun H' => H'[p]? = some (IL xs)) := by
  have h := Iter.list (C := C) (n := n) (xs := xs.map MV.int) hp
  rw [List.length_map] at h
  refine ⟨hp, fun A s r base rv Qr hR hL hv hQ => h.2 A s r base rv Qr hR hL hv fun h' tk It W w0 hk => hQ h' tk It { W with item := fun A' s' r' b' H' i Qr' a1 a2 a3 a4 a5 a6 a7 => W.item A' s' r' b' H' i Qr' a1 a2 a3 a4 a5 a6 fun rv h'' tk' hv' => a7 rv h'' tk' (by
    have e : (xs.map MV.int).getD i .none = .int (xs.getD i 0) := by simp [List.getD, List.getElem?_map, List.getElem?_eq_getElem a5]
    rw [e] at hv'; exact hv') } w0 hk⟩

theorem take_getD {xs : List Int} {i : Nat} (h : i < xs.length) : xs.take (i + 1) = xs.take i ++ [xs.getD i 0] := by
  rw [List.take_add_one]; simp [List.getElem?_eq_getElem h]

theorem gcd_all_ok {n : Nat} {p : Nat} {xs : List Int} {H : MH} {Q : MV → MH → Prop} (hp : H[p]? = some (IL xs)) (h : ∀ H', H <+: H' → Q (.int (content xs)) H') : FN (CX w sa sn) (.ref 48) (n + 2) [.ref p] H Q := by
  refine FN.enter (D := ⟨["numbers", "found", "number"], [], ["gcd"]⟩) (ps := ["numbers"]) (loc := [some (.ref p), none, none]) (by rfl) rfl rfl (by kernel_rfl) (by decide +kernel) (fun rvs h => by match rvs, h with | [x], _ => rfl) rfl (fun i v h => locOf_get (k := 2) h) (fun V => ?_)
  repeat walk_at "ev"
  refine ST.for_ (by decide +kernel) ?_
  repeat walk_at "ev"
  refine ⟨_, _, _, Iter.ints hp, fun i l h' => (∃ o, l = [some (.ref p), some (.int (content (xs.take i))), o]) ∧ H <+: h', ⟨⟨_, rfl⟩, List.prefix_refl _⟩, fun i l h' q => pre_get q.2 hp, ?_, ?_⟩
  · rintro i l h' hi ⟨⟨o, rfl⟩, hH⟩
    refine ⟨_, by walk_at "wr", ?_⟩
    repeat walk_at "ev"
    refine gcd_ok fun H₁ e₁ => ?_
    repeat walk_at "ev"
    refine ⟨⟨some (.int (xs.getD i 0)), ?_⟩, hH.trans e₁⟩
    rw [take_getD hi, content, content, List.foldl_append]; rfl
  · rintro l h' ⟨⟨o, rfl⟩, hH⟩
    repeat walk_at "ev"
    rw [List.take_length]
    exact h _ hH

theorem content_fn {n : Nat} {p : Nat} {xs : List Int} {H : MH} {Q : MV → MH → Prop} (hp : H[p]? = some (IL xs)) (h : ∀ H', H <+: H' → Q (.int (content xs)) H') : FN (CX w sa sn) (.ref 105) (n + 3) [.ref p] H Q := by
  refine FN.enter (D := ⟨["p"], [], ["gcd_all"]⟩) (ps := ["p"]) (loc := [some (.ref p)]) (by rfl) rfl rfl (by kernel_rfl) (by decide +kernel) (fun rvs h => by match rvs, h with | [x], _ => rfl) rfl (fun i v h => locOf_get (k := 0) h) (fun V => ?_)
  repeat walk_at "ev"
  exact gcd_all_ok hp h

theorem BO.at {C : Cx} {n : Nat} {H : MH} {Q : MV → MH → Prop} {value slice : Expr} {p : Nat} {xs : List Int} {k : Int} (hp : H[p]? = some (IL xs)) (hs : xs.length ≤ sizeLine) (h0 : 0 ≤ k) (h1 : k < xs.length) (h : Q (.int (xs.getD k.toNat 0)) H)
    (hs : ∀ o i, subscripted slice false o i = operate [o, i] (PySem.getItem o i) := by intro _ _; rfl) : BO C n (subscriptTail value slice) (.ref p) (.int k) H Q := by
  have hL : (2 : Nat) ^ 24 = sizeLine := by decide
  have e : (xs.map MV.int)[k.toNat]? = some (.int (xs.getD k.toNat 0)) := by simp [List.getElem?_eq_getElem (show k.toNat < xs.length by omega)]
  exact BO.item hp h0 (by omega) e h hs

noncomputable def tsz (xs : List Int) : Nat → Nat
  | 0 => 0
  | s + 1 => if xs.getD s 0 = 0 then tsz xs s else s + 1
noncomputable def trim (xs : List Int) : List Int := xs.take (tsz xs xs.length)
theorem tsz_le (xs : List Int) : ∀ s, tsz xs s ≤ s
  | 0 => Nat.le_refl _
  | s + 1 => by unfold tsz; split; exact Nat.le_succ_of_le (tsz_le xs s); exact Nat.le_refl _
theorem trim_len (xs : List Int) : (trim xs).length ≤ xs.length := by unfold trim; simp; omega

theorem TT.mono {C : Cx} {V : Ev} {D : Dn} {n : Nat} {loc : Locs} {H : MH} {QB : Bool → MH → Prop} {e : Expr} (Q' : Bool → MH → Prop) (h : TT C V D n e loc H Q') (hq : ∀ v H', Q' v H' → QB v H') : TT C V D n e loc H QB :=
  fun base A s r Qr hR hE hP hQ => h base A s r Qr hR hE hP fun v H' r' h' tk q => hQ v H' r' h' tk (hq v H' q)

theorem ztrim_ok {n : Nat} {p : Nat} {xs : List Int} {H : MH} {Q : MV → MH → Prop} (hp : H[p]? = some (IL xs)) (hs : xs.length ≤ sizeLine) (h : ∀ H' q, H <+: H' → H.length ≤ q → H'[q]? = some (IL (trim xs)) → Q (.ref q) H') : FN (CX w sa sn) (.ref 55) (n + 1) [.ref p] H Q := by
  refine FN.enter (D := ⟨["row", "size"], [], ["len", "list"]⟩) (ps := ["row"]) (loc := [some (.ref p), none]) (by rfl) rfl rfl (by kernel_rfl) (by decide +kernel) (fun rvs h => by match rvs, h with | [x], _ => rfl) rfl (fun i v h => locOf_get (k := 1) h) (fun V => ?_)
  repeat walk_at "ev"
  refine ST.whl (fun m l h => ∃ s : Nat, l = [some (.ref p), some (.int s)] ∧ m = s ∧ s ≤ xs.length ∧ tsz xs s = tsz xs xs.length ∧ H <+: h) ?_ ?_
  · exact ⟨_, _, rfl, rfl, Nat.le_refl _, rfl, List.prefix_refl _⟩
  · rintro m l h' ⟨s, rfl, rfl, hs', ht, hH⟩
    have hp' := pre_get hH hp
    refine TT.mono (fun b h'' => h'' = h' ∧ b = decide (0 < m ∧ xs.getD (m - 1) 0 = 0)) ?_ ?_
    · refine TT.and ?_
      repeat walk_at "ev"
      by_cases h0 : m = 0
      · subst h0
        simp
      · rw [if_pos (by simp; omega)]
        refine TT.and ?_
        repeat walk_at "ev"
        refine BO.at hp' hs (by omega) (by omega) ?_
        repeat walk_at "ev"
        have e : ((m : Int) - 1).toNat = m - 1 := by omega
        rw [e]
        by_cases h1 : xs.getD (m - 1) 0 = 0
        · rw [if_pos (by rw [h1]; rfl)]
          exact TT.and0 ⟨rfl, (decide_eq_true ⟨by omega, h1⟩).symm⟩
        · rw [if_neg (by simpa using h1)]
          exact ⟨rfl, (decide_eq_false fun q => h1 q.2).symm⟩
    · rintro b h'' ⟨rfl, rfl⟩
      by_cases hg : 0 < m ∧ xs.getD (m - 1) 0 = 0
      · obtain ⟨k, rfl⟩ : ∃ k, m = k + 1 := ⟨m - 1, by omega⟩
        have h1 : xs.getD k 0 = 0 := hg.2
        rw [if_pos (decide_eq_true hg)]
        refine SS.cons (ST.aug (by walk_at "rd") ?_)
        repeat walk_at "ev"
        have e : ((k + 1 : Nat) : Int) - 1 = (k : Nat) := by omega
        rw [e]
        repeat walk_at "ev"
        refine ⟨k, Nat.lt_succ_self k, ?_⟩
        refine ⟨k, rfl, rfl, by omega, ?_, hH⟩
        rw [← ht, tsz, if_pos h1]
      · have e : tsz xs m = m := by
          obtain _ | k := m
          · rfl
          · have h1 : ¬ xs.getD k 0 = 0 := fun q => hg ⟨Nat.succ_pos _, q⟩
            rw [tsz, if_neg h1]
        have e2 : (xs.map MV.int).take ((m : Int)).toNat = (trim xs).map MV.int := by
          rw [trim, ← ht, e, List.map_take]; rfl
        rw [if_neg (by simpa using hg)]
        repeat walk_at "ev"
        refine ⟨_, _, _, rfl, rfl, hp', by simpa using hs, by omega, ?_⟩
        rw [e2]
        repeat walk_at "ev"
        refine FN.copy get_new (by have := trim_len xs; simp; omega) (h _ _ (by walk_at "pre") ?_ get_new)
        have := hH.length_le
        simp; omega
theorem Iter.upto {C : Cx} {n : Nat} {H : MH} {p : Nat} {a : Nat} (hp : H[p]? = some (.range 0 a 1)) (ha : a < 2 ^ 60) : Iter C n (.ref p) H a (fun i => .int i) (fun _ => True) := by
  have e : (Builtin.Range.rangeSize 0 a 1).toNat = a := by unfold Builtin.Range.rangeSize; split <;> split <;> simp <;> omega
  have h := Iter.range (C := C) (n := n) hp (small_one (by omega) (by omega) (by omega) (by omega))
  rw [e] at h
  simpa using h

theorem Iter.downto {C : Cx} {n : Nat} {H : MH} {p : Nat} {a b : Int} {k : Nat} (hp : H[p]? = some (.range a b (-1))) (hk : a = b + k) (hb : -(2 ^ 60) < b) (ha : a < 2 ^ 60) : Iter C n (.ref p) H k (fun i => .int (a - i)) (fun _ => True) := by
  have e : (Builtin.Range.rangeSize a b (-1)).toNat = k := by rw [rangeSize_downNat]; omega
  have h := Iter.range (C := C) (n := n) hp (small_down (by omega) (by omega) (by omega) (by omega))
  rw [e] at h
  have e2 : (fun i : Nat => MV.int (a + (i : Int) * (-1))) = fun i : Nat => MV.int (a - i) := by funext i; congr 1; omega
  rw [e2] at h
  exact h

/-- [elt for x in ..] whose items are integers -/
theorem EV.compI {C : Cx} {V : Ev} {D D' : Dn} {n : Nat} {loc loc' : Locs} {H : MH} {Q : MV → MH → Prop} {elt iter : Expr} {x : Str} {px pos : Pos} {scope : Scope}
    (hok : okComp scope D D' = true) (hx : (D'.ns.contains x && !D'.cs.contains x) = true) (hcap : CapI D D' loc D'.ns loc')
    (h : EV C V D n iter loc H fun v H₁ => ∃ k item keep, Iter C n v H₁ k item keep ∧ k ≤ sizeLine ∧ (∀ H', H₁ <+: H' → keep H') ∧ ∃ f : Nat → Int,
      (∀ V' i H', i < k → H₁ <+: H' → ∃ l', Wr D'.ns loc' x (item i) l' ∧ EV C V' D' n elt l' H' (fun v H₃ => v = .int (f i) ∧ H₁ <+: H₃)) ∧
      ∀ H', H₁ <+: H' → Q (.ref H'.length) (H' ++ [IL ((List.range k).map f)]))
    (hk : scope.kind = .function := by rfl) (hs : ∀ x env, foldedSetIterable iter env x = pure x := by intro _ _; rfl) :
    EV C V D n (.ListComp elt [⟨.Name x px, iter, [], 0⟩] scope pos) loc H Q := by
  refine EV.comp D' loc' hok (by simpa using hx) (cap_of hcap) (h.mono fun v H₁ q => ?_) hk hs
  obtain ⟨k, item, keep, hi, hk0, hkeep, f, turn, fin⟩ := q
  refine ⟨k, item, keep, hi, fun i acc H' => acc = (List.range i).map (fun j => MV.int (f j)) ∧ H₁ <+: H' ∧ i ≤ k, ⟨rfl, List.prefix_refl _, Nat.zero_le _⟩, fun i acc h' q => hkeep _ q.2.1, fun i acc h' q => by rw [q.1]; simp; omega, ?_, ?_⟩
  · rintro V' i acc H' hi ⟨rfl, hH, _⟩
    obtain ⟨l', hw, he⟩ := turn V' i H' hi hH
    refine ⟨l', hw, ?_⟩
    show EV C V' D' n elt l' H' _
    refine he.mono ?_
    rintro v H₃ ⟨rfl, h3⟩
    exact ⟨by rw [List.range_succ, List.map_append]; rfl, h3, hi⟩
  · rintro acc h' ⟨rfl, hH, _⟩
    have := fin h' hH
    simpa [IL, Function.comp_def] using this

theorem range_getD (xs : List Int) (g : Int → Int) : (List.range xs.length).map (fun i => g (xs.getD i 0)) = xs.map g := by
  apply List.ext_getElem
  · simp
  · intro i h1 h2
    simp at h1 ⊢
    rw [List.getElem?_eq_getElem h1]; rfl


noncomputable def lead (xs : List Int) : Int := xs.getD (xs.length - 1) 0

theorem zdegree_ok {n : Nat} {p : Nat} {xs : List Int} {H : MH} {Q : MV → MH → Prop} (hp : H[p]? = some (IL xs)) (hs : xs.length ≤ sizeLine) (h : ∀ H', H <+: H' → Q (.int ((xs.length : Int) - 1)) H') : FN (CX w sa sn) (.ref 62) (n + 1) [.ref p] H Q := by
  refine FN.enter (D := ⟨["p"], [], ["len"]⟩) (ps := ["p"]) (loc := [some (.ref p)]) (by rfl) rfl rfl (by kernel_rfl) (by decide +kernel) (fun rvs h => by match rvs, h with | [x], _ => rfl) rfl (fun i v h => locOf_get (k := 0) h) (fun V => ?_)
  repeat walk_at "ev"
  exact h _ (List.prefix_refl _)

theorem zlead_ok {n : Nat} {p : Nat} {xs : List Int} {H : MH} {Q : MV → MH → Prop} (hp : H[p]? = some (IL xs)) (hs : xs.length ≤ sizeLine) (h : ∀ H', H <+: H' → Q (.int (lead xs)) H') : FN (CX w sa sn) (.ref 69) (n + 1) [.ref p] H Q := by
  refine FN.enter (D := ⟨["p"], [], ["len"]⟩) (ps := ["p"]) (loc := [some (.ref p)]) (by rfl) rfl rfl (by kernel_rfl) (by decide +kernel) (fun rvs h => by match rvs, h with | [x], _ => rfl) rfl (fun i v h => locOf_get (k := 0) h) (fun V => ?_)
  have hL : (2 : Nat) ^ 24 = sizeLine := by decide
  repeat walk_at "ev"
  by_cases h0 : xs.length = 0
  · rw [if_neg (by simp [h0])]
    repeat walk_at "ev"
    have e : lead xs = 0 := by rw [List.length_eq_zero_iff.mp h0]; rfl
    rw [← e]
    exact h _ (List.prefix_refl _)
  · rw [if_pos (by simp; omega)]
    repeat walk_at "ev"
    refine BO.itemNeg hp (by decide) (by simp; omega) (by decide) (v := .int (lead xs)) ?_ (h _ (List.prefix_refl _))
    have e : (-1 + ((xs.map MV.int).length : Int)).toNat = xs.length - 1 := by rw [List.length_map]; omega
    show (xs.map MV.int)[(-1 + ((xs.map MV.int).length : Int)).toNat]? = _
    rw [e, lead]
    simp [List.getElem?_eq_getElem (show xs.length - 1 < xs.length by omega)]

theorem zneg_ok {n : Nat} {p : Nat} {xs : List Int} {H : MH} {Q : MV → MH → Prop} (hp : H[p]? = some (IL xs)) (hs : xs.length ≤ sizeLine) (h : ∀ H' q, H <+: H' → H.length ≤ q → H'[q]? = some (IL (xs.map (fun a => -a))) → Q (.ref q) H') : FN (CX w sa sn) (.ref 79) (n + 1) [.ref p] H Q := by
  refine FN.enter (D := ⟨["p"], [], []⟩) (ps := ["p"]) (loc := [some (.ref p)]) (by rfl) rfl rfl (by kernel_rfl) (by decide +kernel) (fun rvs h => by match rvs, h with | [x], _ => rfl) rfl (fun i v h => locOf_get (k := 0) h) (fun V => ?_)
  repeat walk_at "ev"
  refine EV.compI (D' := ⟨["number"], [], []⟩) (loc' := [none]) (by decide +kernel) (by decide +kernel) (by walk_at "cap") ?_
  repeat walk_at "ev"
  refine ⟨_, _, _, Iter.ints hp, hs, fun H' q => pre_get q hp, fun i => -(xs.getD i 0), fun V' i H' hi hH => ?_, fun H' hH => ?_⟩
  · refine ⟨_, by walk_at "wr", ?_⟩
    repeat walk_at "ev"
    exact ⟨rfl, hH⟩
  · rw [range_getD xs (fun a => -a)]
    exact h _ _ (by walk_at "pre") hH.length_le get_new
noncomputable def zadd (a b : List Int) : List Int := trim ((List.range (max a.length b.length)).map fun i => a.getD i 0 + b.getD i 0)
noncomputable def zsub (a b : List Int) : List Int := zadd a (b.map fun x => -x)
noncomputable def zscale (p : List Int) (k : Int) : List Int := if k = 0 then [] else p.map fun x => x * k
noncomputable def zraise (p : List Int) (m : Nat) : List Int := if p = [] then [] else List.replicate m 0 ++ p

set_option maxHeartbeats 4000000 in
theorem zadd_ok {n : Nat} {p q : Nat} {a b : List Int} {H : MH} {Q : MV → MH → Prop} (hp : H[p]? = some (IL a)) (hq : H[q]? = some (IL b)) (ha : a.length ≤ 2 ^ 20) (hb : b.length ≤ 2 ^ 20) (h : ∀ H' q, H <+: H' → H.length ≤ q → H'[q]? = some (IL (zadd a b)) → Q (.ref q) H') : FN (CX w sa sn) (.ref 74) (n + 2) [.ref p, .ref q] H Q := by
  have hL : (2 : Nat) ^ 24 = sizeLine := by decide
  refine FN.enter (D := ⟨["a", "b", "size"], ["a", "b"], ["max", "len", "ztrim", "range"]⟩) (ps := ["a", "b"]) (loc := [some (.ref p), some (.ref q), none]) (by rfl) rfl rfl (by kernel_rfl) (by decide +kernel) (fun rvs h => by match rvs, h with | [x, y], _ => rfl) rfl (fun i v h => locOf_get (k := 1) h) (fun V => ?_)
  repeat walk_at "ev"
  refine FN.max2 ?_
  repeat walk_at "ev"
  have e : max (a.length : Int) (b.length : Int) = ((max a.length b.length : Nat) : Int) := by omega
  rw [e]
  refine EV.compI (D' := ⟨["at", "a", "b"], ["a", "b"], ["len"]⟩) (loc' := [none, some (.ref p), some (.ref q)]) (by decide +kernel) (by decide +kernel) (by walk_at "cap") ?_
  repeat walk_at "ev"
  refine ⟨_, _, _, Iter.upto get_new (by omega), by omega, fun H' _ => trivial, fun i => a.getD i 0 + b.getD i 0, fun V' i H' hi hH => ?_, fun H' hH => ?_⟩
  · have hp' := pre_get ((pre_new (List.prefix_refl _)).trans hH) hp
    have hq' := pre_get ((pre_new (List.prefix_refl _)).trans hH) hq
    refine ⟨_, by walk_at "wr", ?_⟩
    refine EV.bin (EV.mono (Q' := fun v H₂ => v = .int (a.getD i 0) ∧ H' = H₂) ?_ ?_)
    · repeat walk_at "ev"
      by_cases h1 : i < a.length
      · rw [if_pos (by simpa using h1)]
        repeat walk_at "ev"
        exact BO.at hp' (by omega) (by omega) (by omega) ⟨rfl, rfl⟩
      · rw [if_neg (by simpa using h1)]
        repeat walk_at "ev"
        exact ⟨by simp [List.getElem?_eq_none (show a.length ≤ i by omega)], rfl⟩
    · rintro v H₂ ⟨rfl, rfl⟩
      refine EV.mono (Q' := fun v H₂ => v = .int (b.getD i 0) ∧ H' = H₂) ?_ ?_
      · repeat walk_at "ev"
        by_cases h1 : i < b.length
        · rw [if_pos (by simpa using h1)]
          repeat walk_at "ev"
          exact BO.at hq' (by omega) (by omega) (by omega) ⟨rfl, rfl⟩
        · rw [if_neg (by simpa using h1)]
          repeat walk_at "ev"
          exact ⟨by simp [List.getElem?_eq_none (show b.length ≤ i by omega)], rfl⟩
      · rintro v H₂ ⟨rfl, rfl⟩
        exact BO.add ⟨rfl, hH⟩
  · refine EVs.nil ?_
    refine ztrim_ok get_new (by simp; omega) fun H'' r h1 h2 h3 => h _ _ ?_ ?_ h3
    · exact (pre_new (List.prefix_refl _)).trans (hH.trans ((pre_new (List.prefix_refl _)).trans h1))
    · have := hH.length_le
      simp at this h2
      omega

theorem zsub_ok {n : Nat} {p q : Nat} {a b : List Int} {H : MH} {Q : MV → MH → Prop} (hp : H[p]? = some (IL a)) (hq : H[q]? = some (IL b)) (ha : a.length ≤ 2 ^ 20) (hb : b.length ≤ 2 ^ 20) (h : ∀ H' q, H <+: H' → H.length ≤ q → H'[q]? = some (IL (zsub a b)) → Q (.ref q) H') : FN (CX w sa sn) (.ref 86) (n + 3) [.ref p, .ref q] H Q := by
  have hL : (2 : Nat) ^ 24 = sizeLine := by decide
  refine FN.enter (D := ⟨["a", "b"], [], ["zadd", "zneg"]⟩) (ps := ["a", "b"]) (loc := [some (.ref p), some (.ref q)]) (by rfl) rfl rfl (by kernel_rfl) (by decide +kernel) (fun rvs h => by match rvs, h with | [x, y], _ => rfl) rfl (fun i v h => locOf_get (k := 0) h) (fun V => ?_)
  repeat walk_at "ev"
  refine zneg_ok hq (by omega) fun H₁ r e1 e2 e3 => ?_
  repeat walk_at "ev"
  refine zadd_ok (pre_get e1 hp) e3 ha (by simpa using hb) fun H₂ r₂ f1 f2 f3 => h _ _ (e1.trans f1) ?_ f3
  have := e1.length_le; omega

theorem zscale_ok {n : Nat} {p : Nat} {a : List Int} {k : Int} {H : MH} {Q : MV → MH → Prop} (hp : H[p]? = some (IL a)) (ha : a.length ≤ 2 ^ 20) (hm : ∀ x ∈ a, IntMulOk x k) (h : ∀ H' q, H <+: H' → H.length ≤ q → H'[q]? = some (IL (zscale a k)) → Q (.ref q) H') : FN (CX w sa sn) (.ref 91) (n + 1) [.ref p, .int k] H Q := by
  have hL : (2 : Nat) ^ 24 = sizeLine := by decide
  refine FN.enter (D := ⟨["p", "k"], ["k"], []⟩) (ps := ["p", "k"]) (loc := [some (.ref p), some (.int k)]) (by rfl) rfl rfl (by kernel_rfl) (by decide +kernel) (fun rvs h => by match rvs, h with | [x, y], _ => rfl) rfl (fun i v h => locOf_get (k := 0) h) (fun V => ?_)
  repeat walk_at "ev"
  by_cases h0 : k = 0
  · rw [if_neg (by simpa using h0)]
    repeat walk_at "ev"
    refine ⟨by decide, h _ _ (by walk_at "pre") (Nat.le_refl _) ?_⟩
    rw [zscale, if_pos h0]; exact get_new
  · rw [if_pos (by simpa using h0)]
    refine EV.compI (D' := ⟨["number", "k"], ["k"], []⟩) (loc' := [none, some (.int k)]) (by decide +kernel) (by decide +kernel) (by walk_at "cap") ?_
    repeat walk_at "ev"
    refine ⟨_, _, _, Iter.ints hp, by omega, fun H' q => pre_get q hp, fun i => a.getD i 0 * k, fun V' i H' hi hH => ?_, fun H' hH => ?_⟩
    · refine ⟨_, by walk_at "wr", ?_⟩
      repeat walk_at "ev"
      refine BO.mul (hm _ ?_) ⟨rfl, hH⟩
      simp [List.getElem?_eq_getElem hi]
    · rw [range_getD a (fun x => x * k)]
      refine h _ _ (by walk_at "pre") hH.length_le ?_
      rw [zscale, if_neg h0]; exact get_new

theorem zraise_ok {n : Nat} {p : Nat} {a : List Int} {m : Nat} {H : MH} {Q : MV → MH → Prop} (hp : H[p]? = some (IL a)) (ha : a.length ≤ 2 ^ 20) (hm : m ≤ 2 ^ 20) (h : ∀ H' q, H <+: H' → H.length ≤ q → H'[q]? = some (IL (zraise a m)) → Q (.ref q) H') : FN (CX w sa sn) (.ref 98) (n + 1) [.ref p, .int m] H Q := by
  have hL : (2 : Nat) ^ 24 = sizeLine := by decide
  refine FN.enter (D := ⟨["p", "many"], [], ["len", "list"]⟩) (ps := ["p", "many"]) (loc := [some (.ref p), some (.int m)]) (by rfl) rfl rfl (by kernel_rfl) (by decide +kernel) (fun rvs h => by match rvs, h with | [x, y], _ => rfl) rfl (fun i v h => locOf_get (k := 0) h) (fun V => ?_)
  repeat walk_at "ev"
  by_cases h0 : a = []
  · rw [if_neg (by simp [h0])]
    repeat walk_at "ev"
    refine ⟨by decide, h _ _ (by walk_at "pre") (Nat.le_refl _) ?_⟩
    rw [zraise, if_pos h0]; exact get_new
  · have h1 : 0 < a.length := by
      rcases Nat.eq_zero_or_pos a.length with e | e
      · exact absurd (List.length_eq_zero_iff.mp e) h0
      · exact e
    rw [if_pos (by simp; omega)]
    repeat walk_at "ev"
    refine ⟨by decide, ?_⟩
    repeat walk_at "ev"
    refine BO.rep get_new (by omega) (by omega) ?_
    repeat walk_at "ev"
    refine FN.copy (xs := a.map .int) (by walk_at "hp") (by simp; omega) ?_
    refine BO.cat (get_old get_new) get_new (by simp; omega) ?_
    refine h _ _ (by walk_at "pre") (by simp) ?_
    rw [zraise, if_neg h0]
    have e : (List.replicate ((m : Int)).toNat (MV.int 0) ++ a.map .int) = (List.replicate m 0 ++ a).map .int := by simp
    rw [e]
    exact get_new
noncomputable def hor (n : Int) : List Int → List Int
  | [] => []
  | x :: r => (x + n * (hor n r).headD 0) :: hor n r
noncomputable def shift (n : Int) : Nat → List Int → List Int
  | 0, xs => xs
  | k + 1, xs => match hor n xs with
    | [] => []
    | r :: q => r :: shift n k q
theorem hor_len (n : Int) : ∀ xs, (hor n xs).length = xs.length
  | [] => rfl
  | x :: r => by simp [hor, hor_len n r]
theorem shift_len (n : Int) : ∀ k xs, (shift n k xs).length = xs.length
  | 0, xs => rfl
  | k + 1, xs => by
    have := hor_len n xs
    unfold shift
    split
    · rename_i e; rw [e] at this; simpa using this
    · rename_i r q e
      rw [e] at this
      simp only [List.length_cons] at this ⊢
      rw [shift_len n k q, this]

theorem set_mid {A B : List Int} {x v : Int} {k : Nat} (h : A.length = k) : (A ++ x :: B).set k v = A ++ v :: B := by
  subst h; rw [List.set_append_right _ _ (Nat.le_refl _)]; simp
theorem getD_mid {A B : List Int} {x : Int} {k : Nat} (h : A.length = k) : (A ++ x :: B).getD k 0 = x := by
  subst h; simp
theorem getD_mid1 {A B : List Int} {x : Int} {k : Nat} (h : A.length = k) : (A ++ x :: B).getD (k + 1) 0 = B.headD 0 := by
  subst h
  rw [List.getD_eq_getElem?_getD, List.getElem?_append_right (by omega)]
  have e : A.length + 1 - A.length = 1 := by omega
  rw [e]
  cases B <;> simp

theorem mul_small {a b : Int} (h : a.natAbs < 2 ^ 62) : IntMulOk a b := by
  refine IntMulOk.of_left ?_
  unfold Builtin.Int.intBits
  split
  · omega
  · rename_i h0
    have h1 : a.natAbs ≠ 0 := by simp at h0; omega
    have := (Nat.log2_lt h1).mpr h
    omega

theorem map_set {xs : List Int} {k : Nat} {v : Int} : (xs.map MV.int).set k (.int v) = (xs.set k v).map MV.int := by rw [List.map_set]

theorem SI.ints {C : Cx} {n : Nat} {H : MH} {p : Nat} {xs : List Int} {k v : Int} {Q : MH → Prop} (hp : H[p]? = some (IL xs)) (hs : xs.length ≤ sizeLine) (h0 : 0 ≤ k) (h1 : k < xs.length) (h : Q (H.set p (IL (xs.set k.toNat v)))) : SI C n (.ref p) (.int k) (.int v) H Q := by
  have hL : (2 : Nat) ^ 24 = sizeLine := by decide
  exact SI.list hp h0 (by simpa using h1) (by omega) (by rw [map_set]; exact h)
theorem BO.gat {C : Cx} {n : Nat} {H : MH} {Q : MV → MH → Prop} {p : Nat} {xs : List Int} {k : Int} (hp : H[p]? = some (IL xs)) (hs : xs.length ≤ sizeLine) (h0 : 0 ≤ k) (h1 : k < xs.length) (h : Q (.int (xs.getD k.toNat 0)) H) : BO C n PySem.getItem (.ref p) (.int k) H Q := by
  have hL : (2 : Nat) ^ 24 = sizeLine := by decide
  have e : (xs.map MV.int)[k.toNat]? = some (.int (xs.getD k.toNat 0)) := by simp [List.getElem?_eq_getElem (show k.toNat < xs.length by omega)]
  exact BO.gitem hp h0 (by omega) e h

theorem drop_getD {xs : List Int} {j : Nat} (h : j < xs.length) : xs.drop j = xs.getD j 0 :: xs.drop (j + 1) := by
  rw [List.drop_eq_getElem_cons h]; simp [List.getElem?_eq_getElem h]
theorem hor_last (m : Int) {suf : List Int} (h : 1 ≤ suf.length) : suf.take (suf.length - 1) ++ hor m (suf.drop (suf.length - 1)) = suf := by
  have e : suf.drop (suf.length - 1) = [suf.getD (suf.length - 1) 0] := by
    rw [drop_getD (by omega), List.drop_eq_nil_of_le (by omega)]
  have e2 : hor m (suf.drop (suf.length - 1)) = suf.drop (suf.length - 1) := by rw [e]; simp [hor]
  rw [e2, List.take_append_drop]

theorem zshift_ok {n : Nat} {p : Nat} {xs : List Int} {m : Int} {H : MH} {Q : MV → MH → Prop} (hp : H[p]? = some (IL xs)) (hs : xs.length ≤ 2 ^ 20) (h1 : 1 ≤ xs.length) (hm : m.natAbs < 2 ^ 62) (h : ∀ H' q, H <+: H' → H.length ≤ q → H'[q]? = some (IL (shift m (xs.length - 1) xs)) → Q (.ref q) H') : FN (CX w sa sn) (.ref 112) (n + 1) [.ref p, .int m] H Q := by
  have hL : (2 : Nat) ^ 24 = sizeLine := by decide
  refine FN.enter (D := ⟨["p", "n", "found", "low", "at"], [], ["list", "range", "len"]⟩) (ps := ["p", "n"]) (loc := [some (.ref p), some (.int m), none, none, none]) (by rfl) rfl rfl (by kernel_rfl) (by decide +kernel) (fun rvs h => by match rvs, h with | [x, y], _ => rfl) rfl (fun i v h => locOf_get (k := 3) h) (fun V => ?_)
  repeat walk_at "ev"
  refine FN.copy (xs := xs.map .int) hp (by simp; omega) ?_
  repeat walk_at "ev"
  refine ST.for_ (by decide +kernel) ?_
  have e1 : (xs.length : Int) - 1 = ((xs.length - 1 : Nat) : Int) := by omega
  repeat walk_at "ev"
  rw [e1]
  refine ⟨_, _, _, Iter.upto (a := xs.length - 1) get_new (by omega), fun low l h' => ∃ pre suf o1 o2, l = [some (.ref p), some (.int m), some (.ref H.length), o1, o2] ∧ pre.length = low ∧ suf.length + low = xs.length ∧
    pre ++ shift m (xs.length - 1 - low) suf = shift m (xs.length - 1) xs ∧ H <+: h' ∧ h'[H.length]? = some (IL (pre ++ suf)), ?_, fun _ _ _ _ => trivial, ?_, ?_⟩
  · exact ⟨[], xs, none, none, rfl, rfl, rfl, rfl, by walk_at "pre", get_old get_new⟩
  · rintro low l h' hlow ⟨pre, suf, o1, o2, rfl, hpre, hsuf, hinv, hH, hf⟩
    have hp' := pre_get hH hp
    refine ⟨_, by walk_at "wr", ?_⟩
    repeat walk_at "ev"
    refine ST.for_ (by decide +kernel) ?_
    repeat walk_at "ev"
    refine FN.range3 (by decide) (by decide) ?_
    refine ⟨_, _, _, Iter.downto (k := suf.length - 1) get_new (by omega) (by omega) (by omega), fun i l h' => ∃ o2, l = [some (.ref p), some (.int m), some (.ref H.length), some (.int low), o2] ∧ H <+: h' ∧
      h'[H.length]? = some (IL (pre ++ (suf.take (suf.length - 1 - i) ++ hor m (suf.drop (suf.length - 1 - i))))), ?_, fun _ _ _ _ => trivial, ?_, ?_⟩
    · refine ⟨_, rfl, by walk_at "pre", get_old ?_⟩
      rw [Nat.sub_zero, hor_last m (by omega)]; exact hf
    · rintro i l h' hi ⟨o2, rfl, hH, hf⟩
      refine ⟨_, by walk_at "wr", ?_⟩
      obtain ⟨j, hj⟩ : ∃ j, j + 1 = suf.length - 1 - i := ⟨suf.length - 1 - i - 1, by omega⟩
      have hjs : j < suf.length := by omega
      have ej : suf.length - 1 - (i + 1) = j := by omega
      rw [← hj, take_getD hjs] at hf
      have eL : pre ++ (suf.take j ++ [suf.getD j 0] ++ hor m (suf.drop (j + 1))) = (pre ++ suf.take j) ++ suf.getD j 0 :: hor m (suf.drop (j + 1)) := by simp
      rw [eL] at hf
      have hA : (pre ++ suf.take j).length = low + j := by simp; omega
      have hB : (hor m (suf.drop (j + 1))).length = suf.length - (j + 1) := by rw [hor_len]; simp
      have hlen : ((pre ++ suf.take j) ++ suf.getD j 0 :: hor m (suf.drop (j + 1))).length = xs.length := by
        rw [List.length_append, hA, List.length_cons, hB]; omega
      have ea : (xs.length : Int) - 2 - i = ((low + j : Nat) : Int) := by omega
      rw [ea]
      repeat walk_at "ev"
      refine ST.augI ?_
      repeat walk_at "ev"
      refine BO.gat hf (by omega) (by omega) (by omega) ?_
      repeat walk_at "ev"
      refine BO.at hf (by omega) (by omega) (by omega) ?_
      have et : (((low + j : Nat) : Int) + 1).toNat = low + j + 1 := by omega
      have et' : ((low + j : Nat) : Int).toNat = low + j := by omega
      refine BO.mul (mul_small hm) ?_
      repeat walk_at "ev"
      rw [et, et', getD_mid hA, getD_mid1 hA]
      refine SI.ints hf (by omega) (by omega) (by omega) ?_
      rw [et', set_mid hA]
      repeat walk_at "ev"
      refine ⟨_, rfl, pre_set hH (Nat.le_refl _), ?_⟩
      rw [get_set hf, ej, drop_getD hjs, hor]
      simp
    · rintro l h' ⟨o2, rfl, hH, hf⟩
      repeat walk_at "ev"
      have e0 : suf.length - 1 - (suf.length - 1) = 0 := by omega
      rw [e0] at hf
      have hl := hor_len m suf
      cases hh : hor m suf with
      | nil => rw [hh] at hl; simp at hl; omega
      | cons r q =>
        rw [hh] at hl
        simp at hl
        refine ⟨pre ++ [r], q, _, _, rfl, by simp [hpre], by omega, ?_, hH, ?_⟩
        · rw [← hinv]
          have e3 : xs.length - 1 - low = (xs.length - 1 - (low + 1)) + 1 := by omega
          rw [e3, shift, hh]
          simp
        · rw [hf]; simp [hh]
  · rintro l h' ⟨pre, suf, o1, o2, rfl, hpre, hsuf, hinv, hH, hf⟩
    repeat walk_at "ev"
    have e0 : xs.length - 1 - (xs.length - 1) = 0 := by omega
    rw [e0] at hinv
    refine h _ _ hH (Nat.le_refl _) ?_
    rw [hf, ← hinv]; rfl
theorem check_bottom_ok {n : Nat} {p : Nat} {xs : List Int} {H : MH} {Q : MV → MH → Prop} (hp : H[p]? = some (IL xs)) (hs : xs.length ≤ sizeLine) (h1 : 1 ≤ xs.length) (h : ∀ H', H <+: H' → Q .none H') : FN (CX w sa sn) (.ref 119) (n + 1) [.ref p] H Q := by
  refine FN.enter (D := ⟨["p"], [], ["len"]⟩) (ps := ["p"]) (loc := [some (.ref p)]) (by rfl) rfl rfl (by kernel_rfl) (by decide +kernel) (fun rvs h => by match rvs, h with | [x], _ => rfl) rfl (fun i v h => locOf_get (k := 0) h) (fun V => ?_)
  repeat walk_at "ev"
  rw [if_neg (by simp; intro e; simp [e] at h1)]
  repeat walk_at "ev"
  exact h _ (List.prefix_refl _)

noncomputable def divided (xs : List Int) (k : Int) : List Int := xs.map fun x => x.fdiv k
theorem divided_ok {n : Nat} {p : Nat} {xs : List Int} {k : Int} {H : MH} {Q : MV → MH → Prop} (hp : H[p]? = some (IL xs)) (hs : xs.length ≤ sizeLine) (h0 : k ≠ 0) (hk : k.natAbs.log2 < 9000) (h : ∀ H' q, H <+: H' → H.length ≤ q → H'[q]? = some (IL (divided xs k)) → Q (.ref q) H') : FN (CX w sa sn) (.ref 131) (n + 1) [.ref p, .int k] H Q := by
  refine FN.enter (D := ⟨["p", "number"], ["number"], []⟩) (ps := ["p", "number"]) (loc := [some (.ref p), some (.int k)]) (by rfl) rfl rfl (by kernel_rfl) (by decide +kernel) (fun rvs h => by match rvs, h with | [x, y], _ => rfl) rfl (fun i v h => locOf_get (k := 0) h) (fun V => ?_)
  repeat walk_at "ev"
  refine EV.compI (D' := ⟨["coefficient", "number"], ["number"], []⟩) (loc' := [none, some (.int k)]) (by decide +kernel) (by decide +kernel) (by walk_at "cap") ?_
  repeat walk_at "ev"
  refine ⟨_, _, _, Iter.ints hp, hs, fun H' q => pre_get q hp, fun i => (xs.getD i 0).fdiv k, fun V' i H' hi hH => ?_, fun H' hH => ?_⟩
  · refine ⟨_, by walk_at "wr", ?_⟩
    repeat walk_at "ev"
    exact BO.fdiv h0 hk ⟨rfl, hH⟩
  · rw [range_getD xs (fun x => x.fdiv k)]
    exact h _ _ (by walk_at "pre") hH.length_le get_new

theorem noSwapC {elt : Expr} {gens : List Comprehension} {scope : Scope} {pos pos' : Pos} {x : Str} {line : Nat} {env : Env} (hc : env.kindOf x = some .cell) : swapsWith (.ListComp elt gens scope pos) (some (.Name x pos')) line env = pure false := by
  show pure ((_ && (env.kindOf x == some .local)) && _ && _) = _
  rw [hc, show (some NameKind.cell == some NameKind.local) = false from rfl, Bool.and_false]; rfl
theorem swapC {elt : Expr} {gens : List Comprehension} {scope : Scope} {pos pos' : Pos} {x : Str} {line : Nat} {env : Env} (hk : env.scope.kind = .function) (hc : env.kindOf x = some .local) (hl : (pos'.line == pos.line) = true)
    (hn : (scope.names.any fun (n, k) => n == x && (k == .local || k == .cell)) = false) : swapsWith (.ListComp elt gens scope pos) (some (.Name x pos')) line env = pure true := by
  have : env.blockKind = .function := by unfold Env.blockKind; rw [hk]; rfl
  show pure ((env.blockKind == _) && (env.kindOf x == _) && (pos'.line == pos.line) && !(scope.names.any fun (n, k) => n == x && (k == .local || k == .cell))) = _
  rw [this, hc, hl, hn]; rfl

noncomputable def diffs (xs : List Int) : List Int := (List.range (xs.length - 1)).map fun i => xs.getD (i + 1) 0 - xs.getD i 0
noncomputable def firsts : Nat → List Int → List Int
  | 0, _ => []
  | k + 1, xs => xs.headD 0 :: firsts k (diffs xs)
theorem diffs_len (xs : List Int) : (diffs xs).length = xs.length - 1 := by simp [diffs]

theorem ne_len {H : MH} {p : Nat} {c : Cel} (hp : H[p]? = some c) : p ≠ H.length := by
  rintro rfl; simp at hp

theorem first_differences_ok {n : Nat} {p : Nat} {xs : List Int} {H : MH} {Q : MV → MH → Prop} (hp : H[p]? = some (IL xs)) (hs : xs.length ≤ 2 ^ 20) (h : ∀ H' q, H <+: H' → H.length ≤ q → H'[q]? = some (IL (firsts xs.length xs)) → Q (.ref q) H') : FN (CX w sa sn) (.ref 160) (n + 1) [.ref p] H Q := by
  have hL : (2 : Nat) ^ 24 = sizeLine := by decide
  refine FN.enter (D := ⟨["numbers", "found"], ["numbers"], ["len", "range"]⟩) (ps := ["numbers"]) (loc := [some (.ref p), none]) (by rfl) rfl rfl (by kernel_rfl) (by decide +kernel) (fun rvs h => by match rvs, h with | [x], _ => rfl) rfl (fun i v h => locOf_get (k := 1) h) (fun V => ?_)
  repeat walk_at "ev"
  refine ⟨by decide, ?_⟩
  repeat walk_at "ev"
  refine ST.whl (fun m l h' => ∃ q ys zs, l = [some (.ref q), some (.ref H.length)] ∧ q ≠ H.length ∧ m = ys.length ∧ ys.length + zs.length = xs.length ∧ zs ++ firsts ys.length ys = firsts xs.length xs ∧ H <+: h' ∧ h'[q]? = some (IL ys) ∧ h'[H.length]? = some (IL zs)) ?_ ?_
  · exact ⟨_, p, xs, [], rfl, ne_len hp, rfl, rfl, rfl, by walk_at "pre", get_old hp, get_new⟩
  · rintro m l h' ⟨q, ys, zs, rfl, hne, rfl, hlen, hinv, hH, hq, hf⟩
    repeat walk_at "ev"
    by_cases h0 : ys.length = 0
    · rw [if_neg (by simp [h0])]
      repeat walk_at "ev"
      refine h _ _ hH (Nat.le_refl _) ?_
      rw [hf, ← hinv, h0]
      simp [firsts]
    · rw [if_pos (by simp; omega)]
      refine SS.cons (ST.expr ?_)
      refine EV.append (by walk_at "rd") ?_ hf
      repeat walk_at "ev"
      refine BO.at hq (by omega) (by omega) (by omega) ?_
      have e0 : ((0 : Int)).toNat = 0 := rfl
      refine ⟨_, hf, by simp; omega, rfl, ?_⟩
      have hq2 := get_set_ne (d := IL (zs ++ [ys.headD 0])) hq (Ne.symm hne)
      have hf2 := get_set (d := IL (zs ++ [ys.headD 0])) hf
      have hH2 := pre_set (d := IL (zs ++ [ys.headD 0])) hH (Nat.le_refl _)
      have eh : ys.getD (0 : Int).toNat 0 = ys.headD 0 := by cases ys <;> rfl
      rw [eh]
      have ei : Cel.list (zs.map .int ++ [.int (ys.headD 0)]) = IL (zs ++ [ys.headD 0]) := by simp [IL]
      rw [ei]
      generalize h'.set H.length (IL (zs ++ [ys.headD 0])) = h2 at hq2 hf2 hH2 ⊢
      refine Then.go (SS.cons (ST.asgC (by decide +kernel) ?_ fun env _ hc => noSwapC hc))
      refine EV.compI (D' := ⟨["at", "numbers"], ["numbers"], []⟩) (loc' := [none, some (.ref q)]) (by decide +kernel) (by decide +kernel) (by walk_at "cap") ?_
      repeat walk_at "ev"
      have e1 : (ys.length : Int) - 1 = ((ys.length - 1 : Nat) : Int) := by omega
      rw [e1]
      refine ⟨_, _, _, Iter.upto get_new (by omega), by omega, fun H' q => trivial, fun i => ys.getD (i + 1) 0 - ys.getD i 0, fun V' i H' hi hH => ?_, fun H' hH => ?_⟩
      · have hq3 := pre_get ((pre_new (List.prefix_refl _)).trans hH) hq2
        refine ⟨_, by walk_at "wr", ?_⟩
        repeat walk_at "ev"
        refine BO.at hq3 (by omega) (by omega) (by omega) ?_
        repeat walk_at "ev"
        refine BO.at hq3 (by omega) (by omega) (by omega) ?_
        repeat walk_at "ev"
        exact ⟨rfl, hH⟩
      · have hle := hH.length_le
        have hle2 := hH2.length_le
        have hf3 := pre_get ((pre_new (List.prefix_refl _)).trans hH) hf2
        have hH3 := hH2.trans ((pre_new (List.prefix_refl _)).trans hH)
        simp at hle
        repeat walk_at "ev"
        refine ⟨_, by have := diffs_len ys; omega, H'.length, diffs ys, _, rfl, by omega, rfl, ?_, ?_, pre_new hH3, get_new, get_old hf3⟩
        · rw [diffs_len]; simp; omega
        · rw [← hinv, diffs_len]
          obtain ⟨k, hk⟩ : ∃ k, ys.length = k + 1 := ⟨ys.length - 1, by omega⟩
          rw [hk, firsts]; simp
noncomputable def stepR (xs : List Int) : List Int := (List.range xs.length).map fun i => xs.getD i 0 + xs.getD (i + 1) 0
noncomputable def rowAt (xs : List Int) : Nat → List Int
  | 0 => xs
  | k + 1 => stepR (rowAt xs k)
theorem stepR_len (xs : List Int) : (stepR xs).length = xs.length := by simp [stepR]
theorem rowAt_len (xs : List Int) : ∀ k, (rowAt xs k).length = xs.length
  | 0 => rfl
  | k + 1 => by rw [rowAt, stepR_len, rowAt_len xs k]
noncomputable def zeros (xs : List Int) (k : Nat) : List Int := ((List.range k).filter fun i => (rowAt xs i).headD 0 == 0).map fun (i : Nat) => (i : Int)
theorem zeros_succ (xs : List Int) (k : Nat) : zeros xs (k + 1) = if (rowAt xs k).headD 0 = 0 then zeros xs k ++ [(k : Int)] else zeros xs k := by
  unfold zeros
  rw [List.range_succ, List.filter_append, List.map_append]
  by_cases h : (rowAt xs k).headD 0 = 0
  · rw [if_pos h, List.filter_cons, if_pos (by rw [h]; rfl)]; rfl
  · rw [if_neg h, List.filter_cons, if_neg (by simpa using h)]; simp
theorem zeros_len (xs : List Int) (k : Nat) : (zeros xs k).length ≤ k := by
  unfold zeros
  rw [List.length_map]
  exact Nat.le_trans (List.length_filter_le _ _) (by simp)

theorem ext_getD {xs ys : List Int} (hl : xs.length = ys.length) (h : ∀ i, i < xs.length → xs.getD i 0 = ys.getD i 0) : xs = ys := by
  apply List.ext_getElem hl
  intro i h1 h2
  have := h i h1
  simpa [List.getElem?_eq_getElem h1, List.getElem?_eq_getElem h2] using this
theorem getD_set (xs : List Int) {j i : Nat} {v : Int} (h : j < xs.length) : (xs.set j v).getD i 0 = if i = j then v else xs.getD i 0 := by
  rw [List.getD_eq_getElem?_getD, List.getElem?_set]
  by_cases e : j = i
  · subst e; simp [h]
  · rw [if_neg e, if_neg (fun q => e q.symm)]; rfl

/-- the row while a pass goes over it -/
noncomputable def midR (xs : List Int) (j : Nat) : List Int := (List.range xs.length).map fun i => if i < j then xs.getD i 0 + xs.getD (i + 1) 0 else xs.getD i 0
theorem midR_len (xs : List Int) (j : Nat) : (midR xs j).length = xs.length := by simp [midR]
theorem midR_zero (xs : List Int) : midR xs 0 = xs := by
  unfold midR
  simp only [Nat.not_lt_zero, if_false]
  have := range_getD xs id
  simpa using this
theorem midR_get (xs : List Int) (j : Nat) {i : Nat} (h : i < xs.length) : (midR xs j).getD i 0 = if i < j then xs.getD i 0 + xs.getD (i + 1) 0 else xs.getD i 0 := by
  unfold midR
  rw [List.getD_eq_getElem?_getD, List.getElem?_map, List.getElem?_range h]
  rfl
theorem midR_set (xs : List Int) {j : Nat} (h : j + 1 < xs.length) : (midR xs j).set j ((midR xs j).getD j 0 + (midR xs j).getD (j + 1) 0) = midR xs (j + 1) := by
  rw [midR_get xs j (by omega), midR_get xs j h, if_neg (by omega), if_neg (by omega)]
  refine ext_getD (by simp [midR]) fun i hi => ?_
  rw [List.length_set, midR_len] at hi
  rw [getD_set _ (by rw [midR_len]; omega), midR_get xs j hi, midR_get xs (j + 1) hi]
  by_cases e : i = j
  · subst e; rw [if_pos rfl, if_pos (by omega)]
  · rw [if_neg e]
    by_cases e2 : i < j
    · rw [if_pos e2, if_pos (by omega)]
    · rw [if_neg e2, if_neg (by omega)]
theorem midR_last (xs : List Int) : midR xs (xs.length - 1) = stepR xs := by
  unfold midR stepR
  apply List.map_congr_left
  intro i hi
  have hi := List.mem_range.mp hi
  by_cases e : i < xs.length - 1
  · rw [if_pos e]
  · rw [if_neg e]
    have e2 : xs.getD (i + 1) 0 = 0 := by rw [List.getD_eq_getElem?_getD, List.getElem?_eq_none (by omega)]; rfl
    rw [e2]; omega
theorem getD_head (xs : List Int) : xs.getD (0 : Int).toNat 0 = xs.headD 0 := by cases xs <;> rfl

theorem zeros_on_ok {n : Nat} {p : Nat} {xs : List Int} {last : Nat} {H : MH} {Q : MV → MH → Prop} (hp : H[p]? = some (IL xs)) (hs : xs.length ≤ 2 ^ 20) (h1 : 1 ≤ xs.length) (hl : last ≤ 2 ^ 20) (h : ∀ H' q, H <+: H' → H.length ≤ q → H'[q]? = some (IL (zeros xs (last + 1))) → Q (.ref q) H') : FN (CX w sa sn) (.ref 167) (n + 1) [.ref p, .int last] H Q := by
  have hL : (2 : Nat) ^ 24 = sizeLine := by decide
  refine FN.enter (D := ⟨["differences", "last", "row", "found", "place", "at"], [], ["list", "range", "len"]⟩) (ps := ["differences", "last"]) (loc := [some (.ref p), some (.int last), none, none, none, none]) (by rfl) rfl rfl (by kernel_rfl) (by decide +kernel) (fun rvs h => by match rvs, h with | [x, y], _ => rfl) rfl (fun i v h => locOf_get (k := 4) h) (fun V => ?_)
  repeat walk_at "ev"
  refine FN.copy (xs := xs.map .int) hp (by simp; omega) ?_
  repeat walk_at "ev"
  refine ⟨by decide, ?_⟩
  repeat walk_at "ev"
  refine ST.for_ (by decide +kernel) ?_
  repeat walk_at "ev"
  have e1 : (last : Int) + 1 = ((last + 1 : Nat) : Int) := by omega
  rw [e1]
  refine ⟨_, _, _, Iter.upto (a := last + 1) get_new (by omega), fun i l h' => ∃ o1 o2, l = [some (.ref p), some (.int last), some (.ref H.length), some (.ref (H ++ [Cel.list (xs.map .int)]).length), o1, o2] ∧ H <+: h' ∧
    h'[H.length]? = some (IL (rowAt xs i)) ∧ h'[(H ++ [Cel.list (xs.map .int)]).length]? = some (IL (zeros xs i)), ?_, fun _ _ _ _ => trivial, ?_, ?_⟩
  · exact ⟨_, _, rfl, by walk_at "pre", get_old (get_old (get_old get_new)), get_old (get_old get_new)⟩
  · rintro i l h' hi ⟨o1, o2, rfl, hH, hr, hf⟩
    have hrl := rowAt_len xs i
    have hzl := zeros_len xs i
    refine ⟨_, by walk_at "wr", ?_⟩
    refine SS.cons (ST.mono (Q' := fun f l h'' => f = .next ∧ l = [some (.ref p), some (.int last), some (.ref H.length), some (.ref (H ++ [Cel.list (xs.map .int)]).length), some (.int i), o2] ∧ H <+: h'' ∧ h''[H.length]? = some (IL (rowAt xs i)) ∧ h''[(H ++ [Cel.list (xs.map .int)]).length]? = some (IL (zeros xs (i + 1)))) ?_ ?_)
    · repeat walk_at "ev"
      refine BO.at hr (by omega) (by omega) (by omega) ?_
      repeat walk_at "ev"
      rw [getD_head]
      by_cases h0 : (rowAt xs i).headD 0 = 0
      · rw [if_pos (by rw [h0]; rfl)]
        refine SS.cons (ST.expr ?_)
        refine EV.append (by walk_at "rd") ?_ hf
        repeat walk_at "ev"
        refine ⟨_, hf, by simp; omega, rfl, ?_⟩
        have ei : Cel.list ((zeros xs i).map .int ++ [.int (i : Int)]) = IL (zeros xs i ++ [(i : Int)]) := by simp [IL]
        rw [ei]
        repeat walk_at "ev"
        refine ⟨rfl, rfl, pre_set hH (by simp), get_set_ne hr (by simp), ?_⟩
        rw [zeros_succ, if_pos h0]
        exact get_set hf
      · rw [if_neg (by simpa using h0)]
        repeat walk_at "ev"
        refine ⟨rfl, rfl, hH, hr, ?_⟩
        rw [zeros_succ, if_neg h0]
        exact hf
    · rintro f l h'' ⟨rfl, rfl, hH, hr, hf⟩
      repeat walk_at "ev"
      refine ST.for_ (by decide +kernel) ?_
      repeat walk_at "ev"
      have e2 : ((rowAt xs i).length : Int) - 1 = ((xs.length - 1 : Nat) : Int) := by omega
      rw [e2]
      refine ⟨_, _, _, Iter.upto (a := xs.length - 1) get_new (by omega), fun j l h' => ∃ o2, l = [some (.ref p), some (.int last), some (.ref H.length), some (.ref (H ++ [Cel.list (xs.map .int)]).length), some (.int i), o2] ∧ H <+: h' ∧
        h'[H.length]? = some (IL (midR (rowAt xs i) j)) ∧ h'[(H ++ [Cel.list (xs.map .int)]).length]? = some (IL (zeros xs (i + 1))), ?_, fun _ _ _ _ => trivial, ?_, ?_⟩
      · refine ⟨_, rfl, by walk_at "pre", get_old ?_, get_old hf⟩
        rw [midR_zero]; exact hr
      · rintro j l h' hj ⟨o2, rfl, hH, hr, hf⟩
        have hml := midR_len (rowAt xs i) j
        refine ⟨_, by walk_at "wr", ?_⟩
        refine SS.cons (ST.augI ?_)
        repeat walk_at "ev"
        refine BO.gat hr (by omega) (by omega) (by omega) ?_
        repeat walk_at "ev"
        refine BO.at hr (by omega) (by omega) (by omega) ?_
        repeat walk_at "ev"
        have et : ((j : Int) + 1).toNat = j + 1 := by omega
        have et' : (j : Int).toNat = j := by omega
        refine SI.ints hr (by omega) (by omega) (by omega) ?_
        rw [et, et', midR_set _ (by omega)]
        repeat walk_at "ev"
        refine ⟨_, rfl, pre_set hH (Nat.le_refl _), get_set hr, get_set_ne hf (by simp)⟩
      · rintro l h' ⟨o2, rfl, hH, hr, hf⟩
        repeat walk_at "ev"
        refine ⟨_, _, rfl, hH, ?_, hf⟩
        have e3 : xs.length - 1 = (rowAt xs i).length - 1 := by omega
        rw [hr, e3, midR_last]; rfl
  · rintro l h' ⟨o1, o2, rfl, hH, hr, hf⟩
    repeat walk_at "ev"
    exact h _ _ hH (by simp) hf

theorem root_bound_ok {n : Nat} {p : Nat} {xs : List Int} {H : MH} {Q : MV → MH → Prop} (hp : H[p]? = some (IL xs)) (hs : xs.length ≤ sizeLine) (h1 : 1 ≤ xs.length) (h0 : lead xs ≠ 0) (hk : (lead xs).natAbs.log2 < 9000)
    (h : ∀ H' (M : Int), H <+: H' → (∃ x ∈ xs, M = x.natAbs) → (∀ x ∈ xs, (x.natAbs : Int) ≤ M) → Q (.int (2 + M.fdiv ((lead xs).natAbs : Int))) H') : FN (CX w sa sn) (.ref 155) (n + 2) [.ref p] H Q := by
  refine FN.enter (D := ⟨["f", "most"], [], ["max", "abs", "zlead"]⟩) (ps := ["f"]) (loc := [some (.ref p), none]) (by rfl) rfl rfl (by kernel_rfl) (by decide +kernel) (fun rvs h => by match rvs, h with | [x], _ => rfl) rfl (fun i v h => locOf_get (k := 1) h) (fun V => ?_)
  repeat walk_at "ev"
  refine EV.compI (D' := ⟨["coefficient"], [], ["abs"]⟩) (loc' := [none]) (by decide +kernel) (by decide +kernel) (by walk_at "cap") ?_
  repeat walk_at "ev"
  refine ⟨_, _, _, Iter.ints hp, hs, fun H' q => pre_get q hp, fun i => ((xs.getD i 0).natAbs : Int), fun V' i H' hi hH => ?_, fun H' hH => ?_⟩
  · refine ⟨_, by walk_at "wr", ?_⟩
    repeat walk_at "ev"
    exact ⟨by rw [ite_abs'], hH⟩
  · rw [range_getD xs (fun x => (x.natAbs : Int))]
    repeat walk_at "ev"
    refine FN.maxl get_new (by simp; omega) fun M hM hall => ?_
    repeat walk_at "ev"
    refine zlead_ok (get_old (pre_get hH hp)) hs fun H₂ hH2 => ?_
    repeat walk_at "ev"
    rw [ite_abs']
    refine BO.fdiv (by omega) (by simpa using hk) ?_
    repeat walk_at "ev"
    refine h _ M ((pre_new hH).trans hH2) ?_ ?_
    · obtain ⟨x, hx, e⟩ := List.mem_map.mp hM
      exact ⟨x, hx, e.symm⟩
    · exact fun x hx => hall _ (List.mem_map_of_mem (f := fun x : Int => (x.natAbs : Int)) hx)
/-- lists whose numbers are of a size that the model multiplies without a word -/
noncomputable def Big : Nat := 2 ^ 8000
noncomputable def Ok (xs : List Int) : Prop := xs.length ≤ 2 ^ 10 ∧ ∀ x ∈ xs, x.natAbs < Big
theorem mul_ok {a b : Int} (ha : a.natAbs < Big) (hb : b.natAbs < Big) : IntMulOk a b := by
  have h1 := intBits_le ha
  have h2 := intBits_le hb
  unfold IntMulOk Builtin.Int.intTooBig
  have hL : (16000 : Int) < (bitsLine : Int) := by decide
  generalize Builtin.Int.intBits a = x at *
  generalize Builtin.Int.intBits b = y at *
  simp
  intro _ _
  omega
theorem log2_ok {a : Int} (ha : a.natAbs < Big) : a.natAbs.log2 < 9000 := by
  by_cases h : a.natAbs = 0
  · rw [h]; decide
  · exact Nat.lt_of_lt_of_le ((Nat.log2_lt h).mpr ha) (by decide)
theorem lead_ok {xs : List Int} (h : Ok xs) : (lead xs).natAbs < Big := by
  unfold lead
  rw [List.getD_eq_getElem?_getD]
  cases e : xs[xs.length - 1]? with
  | none => exact Nat.two_pow_pos 8000
  | some v => exact h.2 v (List.mem_of_getElem? e)

noncomputable def stepF (found : List Int) (first number : Int) (power : Nat) : List Int := zsub (zscale found first) (zraise [-number] power)
noncomputable def stepP (b rest : List Int) (first number : Int) (power : Nat) : List Int := zsub (zscale rest first) (zraise (zscale b number) power)

inductive PRun (b : List Int) : Nat → List Int → List Int → Nat → List Int → List Int → Nat → Prop
  | done {rest found : List Int} {left : Nat} : rest.length < b.length → PRun b 0 rest found left rest found left
  | step {k : Nat} {rest found re fe : List Int} {left le : Nat} : b.length ≤ rest.length → Ok rest → Ok found → PRun b k (stepP b rest (lead b) (lead rest) (rest.length - b.length)) (stepF found (lead b) (lead rest) (rest.length - b.length)) left re fe le →
      PRun b (k + 1) rest found (left + 1) re fe le

theorem zscale_len (xs : List Int) (k : Int) : (zscale xs k).length ≤ xs.length := by unfold zscale; split <;> simp
theorem zraise_len (xs : List Int) (k : Nat) : (zraise xs k).length ≤ k + xs.length := by unfold zraise; split <;> simp
theorem BO.last {C : Cx} {n : Nat} {H : MH} {Q : MV → MH → Prop} {value slice : Expr} {p : Nat} {xs : List Int} (hp : H[p]? = some (IL xs)) (h1 : 1 ≤ xs.length) (h : Q (.int (lead xs)) H)
    (hs : ∀ o i, subscripted slice false o i = operate [o, i] (PySem.getItem o i) := by intro _ _; rfl) : BO C n (subscriptTail value slice) (.ref p) (.int (-1)) H Q := by
  refine BO.itemNeg hp (by decide) (by simp; omega) (by decide) (v := .int (lead xs)) ?_ h hs
  have e : (-1 + ((xs.map MV.int).length : Int)).toNat = xs.length - 1 := by rw [List.length_map]; omega
  rw [e, lead]
  simp [List.getElem?_eq_getElem (show xs.length - 1 < xs.length by omega)]

theorem pseudo_ok {n : Nat} {p q : Nat} {a b : List Int} {H : MH} {Q : MV → MH → Prop} {k le : Nat} {re fe : List Int} (hp : H[p]? = some (IL a)) (hq : H[q]? = some (IL b)) (ha : Ok a) (hb : Ok b) (h1 : 1 ≤ b.length)
    (hrun : PRun b k a [] (a.length + 1 - b.length) re fe le) (hre : Ok re) (hfe : Ok fe) (hmore : (lead b ^ le).natAbs < Big) (hle : le ≤ 2 ^ 10)
    (h : ∀ H' r x y, H <+: H' → H'[r]? = some (.tup [.ref x, .ref y, .int ((a.length + 1 - b.length : Nat) : Int)]) → H.length ≤ y → H'[y]? = some (IL (zscale re (lead b ^ le))) → Q (.ref r) H') : FN (CX w sa sn) (.ref 126) (n + 4) [.ref p, .ref q] H Q := by
  have hL : (2 : Nat) ^ 24 = sizeLine := by decide
  have hla := ha.1
  have hlb := hb.1
  refine FN.enter (D := ⟨["a", "b", "many", "rest", "found", "left", "first", "number", "power", "more"], [], ["check_bottom", "max", "len", "list", "zlead", "zsub", "zscale", "zraise"]⟩) (ps := ["a", "b"]) (loc := [some (.ref p), some (.ref q), none, none, none, none, none, none, none, none]) (by rfl) rfl rfl (by kernel_rfl) (by decide +kernel) (fun rvs h => by match rvs, h with | [x, y], _ => rfl) rfl (fun i v h => locOf_get (k := 8) h) (fun V => ?_)
  refine SS.cons (ST.expr ?_)
  repeat walk_at "ev"
  refine check_bottom_ok hq (by omega) h1 fun H₁ e₁ => ⟨rfl, ?_⟩
  have hp₁ := pre_get e₁ hp
  have hq₁ := pre_get e₁ hq
  repeat walk_at "ev"
  refine FN.max2 ?_
  have em : max (0 : Int) ((a.length : Int) - (b.length : Int) + 1) = ((a.length + 1 - b.length : Nat) : Int) := by omega
  rw [em]
  repeat walk_at "ev"
  refine ST.tupT (xs := ["rest", "found", "left", "first"]) (by walk_at "an") ?_ (by intro _; rfl)
  repeat walk_at "ev"
  refine FN.copy (xs := a.map .int) hp₁ (by simp; omega) ?_
  repeat walk_at "ev"
  refine ⟨by decide, ?_⟩
  repeat walk_at "ev"
  refine zlead_ok (get_old (get_old hq₁)) (by omega) fun H₂ e₂ => ?_
  repeat walk_at "ev"
  refine ⟨rfl, (show 4 ≤ sizeLine from by decide), ?_⟩
  repeat walk_at "ev"
  refine ST.whl (fun m l h' => ∃ rest found left x y o1 o2 o3, l = [some (.ref p), some (.ref q), some (.int ((a.length + 1 - b.length : Nat) : Int)), some (.ref x), some (.ref y), some (.int (left : Nat)), some (.int (lead b)), o1, o2, o3] ∧
    PRun b m rest found left re fe le ∧ H <+: h' ∧ H.length ≤ x ∧ H.length ≤ y ∧ h'[x]? = some (IL rest) ∧ h'[y]? = some (IL found)) ?_ ?_
  · exact ⟨_, a, [], _, _, _, none, none, none, rfl, hrun, (by walk_at "pre"), by have := e₁.length_le; omega, by have := e₁.length_le; simp; omega, get_old (pre_get e₂ (get_old get_new)), get_old (pre_get e₂ get_new)⟩
  · rintro m l h' ⟨rest, found, left, x, y, o1, o2, o3, rfl, hr, hH, hx0, hy0, hx, hy⟩
    have hp' := pre_get hH hp
    have hq' := pre_get hH hq
    have hlr : rest.length ≤ sizeLine := by
      cases hr with
      | done _ => have := hre.1; omega
      | step _ h2 _ _ => have := h2.1; omega
    have hlb' : b.length ≤ sizeLine := by omega
    repeat walk_at "ev"
    cases hr with
    | done hlt =>
      rw [if_neg (by simp; omega)]
      repeat walk_at "ev"
      have hbt := intBits_le (k := 8000) (lead_ok hb)
      have hfl := hfe.1
      have hrl := hre.1
      refine BO.pow (by omega) ?_ ?_
      · have : (Builtin.Int.intBits (lead b) : Int) * (le : Int) ≤ 8000 * 1024 := Int.mul_le_mul (by omega) (by omega) (by omega) (by omega)
        omega
      have et : ((le : Nat) : Int).toNat = le := by omega
      rw [et]
      repeat walk_at "ev"
      refine zscale_ok hy (by omega) (fun z hz => mul_ok (hfe.2 z hz) hmore) fun H₃ p₃ f1 f2 f3 => ?_
      repeat walk_at "ev"
      refine zscale_ok (pre_get f1 hx) (by omega) (fun z hz => mul_ok (hre.2 z hz) hmore) fun H₄ p₄ g1 g2 g3 => ?_
      repeat walk_at "ev"
      refine ⟨(show 3 ≤ sizeLine from by decide), ?_⟩
      refine h _ _ p₃ p₄ (pre_new (hH.trans (f1.trans g1))) get_new ?_ (get_old g3)
      have := f1.length_le
      have := hH.length_le
      omega
    | @step k rest found re fe left le hge hor hof hnext =>
      rw [if_pos (by simp; omega)]
      have hr1 := hor.1
      have hf1 := hof.1
      have hlead := lead_ok hb
      have hnum := lead_ok hor
      repeat walk_at "ev"
      refine BO.last hx (by omega) ?_
      repeat walk_at "ev"
      have ep : (rest.length : Int) - (b.length : Int) = ((rest.length - b.length : Nat) : Int) := by omega
      rw [ep]
      repeat walk_at "ev"
      refine zscale_ok (get_old hy) (by omega) (fun z hz => mul_ok (hof.2 z hz) hlead) fun H₃ p₃ f1 f2 f3 => ?_
      repeat walk_at "ev"
      refine ⟨(show 1 ≤ sizeLine from by decide), ?_⟩
      repeat walk_at "ev"
      refine zraise_ok (a := [-lead rest]) get_new (show 1 ≤ 2 ^ 20 from by decide) (by omega) fun H₄ p₄ g1 g2 g3 => ?_
      repeat walk_at "ev"
      have l3 := zscale_len found (lead b)
      have l4 := zraise_len [-lead rest] (rest.length - b.length)
      refine zsub_ok (pre_get g1 (get_old f3)) g3 (by omega) (by simp at l4; omega) fun H₅ p₅ i1 i2 i3 => ?_
      repeat walk_at "ev"
      have hx5 := pre_get i1 (pre_get g1 (get_old (pre_get f1 (get_old hx))))
      have hq5 := pre_get i1 (pre_get g1 (get_old (pre_get f1 (get_old hq'))))
      refine zscale_ok hx5 (by omega) (fun z hz => mul_ok (hor.2 z hz) hlead) fun H₆ p₆ j1 j2 j3 => ?_
      repeat walk_at "ev"
      refine zscale_ok (pre_get j1 hq5) (by omega) (fun z hz => mul_ok (hb.2 z hz) hnum) fun H₇ p₇ m1 m2 m3 => ?_
      repeat walk_at "ev"
      have l7 := zscale_len b (lead rest)
      refine zraise_ok m3 (by omega) (by omega) fun H₈ p₈ n1 n2 n3 => ?_
      repeat walk_at "ev"
      have l6 := zscale_len rest (lead b)
      have l8 := zraise_len (zscale b (lead rest)) (rest.length - b.length)
      refine zsub_ok (pre_get n1 (pre_get m1 j3)) n3 (by omega) (by omega) fun H₉ p₉ q1 q2 q3 => ?_
      repeat walk_at "ev"
      refine ST.aug (by walk_at "rd") ?_
      have el : ((left + 1 : Nat) : Int) - 1 = (left : Nat) := by omega
      repeat walk_at "ev"
      rw [el]
      repeat walk_at "ev"
      have hi5 : h' <+: H₅ := (pre_new (List.prefix_refl _)).trans (f1.trans ((pre_new (List.prefix_refl _)).trans (g1.trans i1)))
      have hi9 : H₅ <+: H₉ := j1.trans (m1.trans (n1.trans q1))
      have l5 := hi5.length_le
      have l9 := hi9.length_le
      have lH := hH.length_le
      refine ⟨k, Nat.lt_succ_self k, _, _, left, p₉, p₅, _, _, _, rfl, hnext, hH.trans (hi5.trans hi9), ?_, ?_, q3, pre_get hi9 i3⟩
      · have := j1.length_le
        have := m1.length_le
        have := n1.length_le
        omega
      · have := f1.length_le
        have := g1.length_le
        simp at *
        omega
noncomputable def FRest (a b R : List Int) : Prop := ∃ k re fe le, PRun b k a [] (a.length + 1 - b.length) re fe le ∧ Ok re ∧ Ok fe ∧ (lead b ^ le).natAbs < Big ∧ le ≤ 2 ^ 10 ∧ R = zscale re (lead b ^ le)

theorem full_rest_ok {n : Nat} {p q : Nat} {a b R : List Int} {H : MH} {Q : MV → MH → Prop} (hp : H[p]? = some (IL a)) (hq : H[q]? = some (IL b)) (ha : Ok a) (hb : Ok b) (h1 : 1 ≤ b.length) (h2 : b.length ≤ a.length) (hR : FRest a b R)
    (h : ∀ H' r, H <+: H' → H.length ≤ r → H'[r]? = some (IL R) → Q (.ref r) H') : FN (CX w sa sn) (.ref 136) (n + 5) [.ref p, .ref q] H Q := by
  have hL : (2 : Nat) ^ 24 = sizeLine := by decide
  have hla := ha.1
  have hlb := hb.1
  obtain ⟨k, re, fe, le, hrun, hre, hfe, hmore, hle, rfl⟩ := hR
  refine FN.enter (D := ⟨["a", "b", "quotient", "rest", "power", "lacking"], ["b", "lacking"], ["pseudo", "zdegree"]⟩) (ps := ["a", "b"]) (loc := [some (.ref p), some (.ref q), none, none, none, none]) (by rfl) rfl rfl (by kernel_rfl) (by decide +kernel) (fun rvs h => by match rvs, h with | [x, y], _ => rfl) rfl (fun i v h => locOf_get (k := 4) h) (fun V => ?_)
  refine SS.cons (ST.tup (xs := ["quotient", "rest", "power"]) (by walk_at "an") ?_ (by intro _; rfl))
  repeat walk_at "ev"
  refine pseudo_ok hp hq ha hb h1 hrun hre hfe hmore hle fun H₁ r x y e₁ e2 e3 e4 => ⟨r, _, _, rfl, e2, rfl, by walk_at "wrs", ?_⟩
  have hp₁ := pre_get e₁ hp
  have hq₁ := pre_get e₁ hq
  repeat walk_at "ev"
  refine zdegree_ok hp₁ (by omega) fun H₂ f₂ => ?_
  repeat walk_at "ev"
  refine zdegree_ok (pre_get f₂ hq₁) (by omega) fun H₃ f₃ => ?_
  repeat walk_at "ev"
  have e0 : (a.length : Int) - 1 - ((b.length : Int) - 1) + 1 - ((a.length + 1 - b.length : Nat) : Int) = 0 := by omega
  rw [e0]
  repeat walk_at "ev"
  have hR := zscale_len re (lead b ^ le)
  have hR2 := hre.1
  refine EV.compI (D' := ⟨["coefficient", "b", "lacking"], ["b", "lacking"], ["zlead"]⟩) (loc' := [none, some (.ref q), some (.int 0)]) (by decide +kernel) (by decide +kernel) (by walk_at "cap") ?_
  repeat walk_at "ev"
  refine ⟨_, _, _, Iter.ints (pre_get f₃ (pre_get f₂ e4)), by omega, fun H' q => pre_get q (pre_get f₃ (pre_get f₂ e4)), fun i => (zscale re (lead b ^ le)).getD i 0, fun V' i H' hi hH => ?_, fun H' hH => ?_⟩
  · refine ⟨_, by walk_at "wr", ?_⟩
    repeat walk_at "ev"
    refine zlead_ok (pre_get hH (pre_get f₃ (pre_get f₂ hq₁))) (by omega) fun H₄ f₄ => ?_
    repeat walk_at "ev"
    refine BO.pow (by decide) (by simp) ?_
    refine BO.mul (IntMulOk.of_right (by rw [show (lead b ^ Int.toNat 0) = 1 from Int.pow_zero _]; decide)) ⟨by simp, hH.trans f₄⟩
  · have e5 := range_getD (zscale re (lead b ^ le)) id
    simp only [id_eq, List.map_id] at e5
    rw [e5]
    have g := e₁.trans (f₂.trans (f₃.trans hH))
    refine h _ _ (pre_new g) g.length_le get_new

noncomputable def Fit (x : Int) : Prop := x.natAbs < Big
theorem BO.powF {C : Cx} {n : Nat} {H : MH} {Q : MV → MH → Prop} {a : Int} {k : Nat} (ha : Fit a) (hk : k ≤ 2 ^ 10) (h : Q (.int (a ^ k)) H) : BO C n (binaryOp .Pow) (.int a) (.int (k : Nat)) H Q := by
  have hbt := intBits_le (k := 8000) ha
  refine BO.pow (by omega) ?_ (by simpa using h)
  have : (Builtin.Int.intBits a : Int) * (k : Int) ≤ 8000 * 1024 := Int.mul_le_mul (by omega) (by omega) (by omega) (by omega)
  omega

inductive RRun : Nat → List Int → List Int → Int → Int → Int → Int → Prop
  | zero {a : List Int} {g h s : Int} : a.length ≤ 2 ^ 10 → RRun 0 a [] g h s 0
  | const {a : List Int} {c g h s : Int} : 2 ≤ a.length → a.length ≤ 2 ^ 10 → Fit c → Fit h → Fit (h ^ (a.length - 2)) → h ≠ 0 → Fit s → Fit ((c ^ (a.length - 1)).fdiv (h ^ (a.length - 2))) →
      RRun 0 a [c] g h s (s * (c ^ (a.length - 1)).fdiv (h ^ (a.length - 2)))
  | step {k : Nat} {a b R : List Int} {g h s res : Int} : 2 ≤ b.length → b.length ≤ a.length → Ok a → Ok b → FRest a b R → Fit g → Fit h → h ≠ 0 → Fit (h ^ (a.length - b.length)) → g ≠ 0 → Fit (g * h ^ (a.length - b.length)) → Fit (h ^ (a.length - b.length - 1)) →
      RRun k b (divided R (g * h ^ (a.length - b.length))) (lead b) (if a.length - b.length = 0 then h else (lead b ^ (a.length - b.length)).fdiv (h ^ (a.length - b.length - 1)))
        (if (a.length - 1) % 2 = 1 ∧ (b.length - 1) % 2 = 1 then -s else s) res → RRun (k + 1) a b g h s res

theorem pow_ne {a : Int} (h : a ≠ 0) (k : Nat) : a ^ k ≠ 0 := by
  induction k with
  | zero => simp
  | succ k ih => rw [Int.pow_succ]; exact Int.mul_ne_zero ih h

theorem odd_test {k : Nat} (hk : 1 ≤ k) : (((k : Int) - 1).fmod 2 == 1) = decide ((k - 1) % 2 = 1) := by
  have e : ((k : Int) - 1).fmod 2 = (((k - 1) % 2 : Nat) : Int) := by
    rw [Int.fmod_eq_emod_of_nonneg _ (by decide)]; omega
  rw [e]
  rcases Nat.mod_two_eq_zero_or_one (k - 1) with q | q <;> rw [q] <;> rfl

theorem row_resultant_ok {n : Nat} {p q : Nat} {a b : List Int} {s res : Int} {k : Nat} {H : MH} {Q : MV → MH → Prop} (hp : H[p]? = some (IL a)) (hq : H[q]? = some (IL b)) (hrun : RRun k a b 1 1 s res)
    (h : ∀ H', H <+: H' → Q (.int res) H') : FN (CX w sa sn) (.ref 143) (n + 6) [.ref p, .ref q, .int s] H Q := by
  have hL : (2 : Nat) ^ 24 = sizeLine := by decide
  refine FN.enter (D := ⟨["a", "b", "sign", "g", "h", "gap", "rest", "many"], [], ["zdegree", "zlead", "full_rest", "divided"]⟩) (ps := ["a", "b", "sign"]) (loc := [some (.ref p), some (.ref q), some (.int s), none, none, none, none, none]) (by rfl) rfl rfl (by kernel_rfl) (by decide +kernel) (fun rvs h => by match rvs, h with | [x, y, z], _ => rfl) rfl (fun i v h => locOf_get (k := 5) h) (fun V => ?_)
  refine SS.cons (ST.tupT (xs := ["g", "h"]) (by walk_at "an") ?_ ?_)
  rotate_left
  · intro env
    exact sw_fold (by rfl)
  repeat walk_at "ev"
  refine ⟨rfl, (show 2 ≤ sizeLine from by decide), ?_⟩
  repeat walk_at "ev"
  refine ST.whl (fun m l h' => ∃ a b g h s x y o1 o2 o3, l = [some (.ref x), some (.ref y), some (.int s), some (.int g), some (.int h), o1, o2, o3] ∧ RRun m a b g h s res ∧ H <+: h' ∧ h'[x]? = some (IL a) ∧ h'[y]? = some (IL b)) ?_ ?_
  · exact ⟨_, a, b, _, _, _, _, _, _, _, _, rfl, hrun, by walk_at "pre", get_old hp, get_old hq⟩
  · rintro m l h' ⟨a, b, g, hh, s, x, y, o1, o2, o3, rfl, hr, hH, hx, hy⟩
    have hla : a.length ≤ sizeLine ∧ b.length ≤ sizeLine := by
      cases hr with
      | zero h1 => exact ⟨by omega, by simp⟩
      | const _ h1 => exact ⟨by omega, by simp; omega⟩
      | step _ _ h1 h2 => have := h1.1; have := h2.1; exact ⟨by omega, by omega⟩
    repeat walk_at "ev"
    refine zdegree_ok hy hla.2 fun H₂ f₂ => ?_
    have hx2 := pre_get f₂ hx
    have hy2 := pre_get f₂ hy
    have hH2 := hH.trans f₂
    repeat walk_at "ev"
    cases hr with
    | zero h1 =>
      rw [if_neg (by decide)]
      repeat walk_at "ev"
      refine ⟨by decide, ?_⟩
      refine BO.leq (ys := []) (get_old hy2) get_new ?_
      repeat walk_at "ev"
      rw [if_pos (by decide)]
      repeat walk_at "ev"
      exact h _ (pre_new hH2)
    | @const a c g hh s h1 h2 h3 h4 h5 h6 h7 h8 =>
      rw [if_neg (by simp)]
      repeat walk_at "ev"
      refine ⟨by decide, ?_⟩
      refine BO.leq (ys := []) (get_old hy2) get_new ?_
      repeat walk_at "ev"
      rw [if_neg (by simp)]
      repeat walk_at "ev"
      refine zdegree_ok (get_old hx2) hla.1 fun H₃ f₃ => ?_
      have em : (a.length : Int) - 1 = ((a.length - 1 : Nat) : Int) := by omega
      rw [em]
      have hy3 := pre_get f₃ (get_old hy2)
      repeat walk_at "ev"
      rw [if_pos (by simp; omega)]
      repeat walk_at "ev"
      refine BO.at hy3 hla.2 (by decide) (by simp) ?_
      repeat walk_at "ev"
      refine BO.powF (k := a.length - 1) h3 (by omega) ?_
      repeat walk_at "ev"
      have em2 : ((a.length - 1 : Nat) : Int) - 1 = ((a.length - 2 : Nat) : Int) := by omega
      rw [em2]
      refine BO.powF h4 (by omega) ?_
      refine BO.fdiv (pow_ne h6 _) (log2_ok h5) ?_
      refine BO.mul (mul_ok h7 h8) ?_
      exact h _ ((pre_new hH2).trans f₃)
    | @step k a b R g hh s res h1 h2 h3 h4 h5 h6 h7 h8 h9 h10 h11 h12 hnext =>
      rw [if_pos (by simp; omega)]
      have ha1 := h3.1
      have hb1 := h4.1
      repeat walk_at "ev"
      refine zdegree_ok hx2 hla.1 fun H₃ f₃ => ?_
      have hx3 := pre_get f₃ hx2
      have hy3 := pre_get f₃ hy2
      repeat walk_at "ev"
      refine zdegree_ok hy3 hla.2 fun H₄ f₄ => ?_
      have hx4 := pre_get f₄ hx3
      have hy4 := pre_get f₄ hy3
      have hH4 := hH2.trans (f₃.trans f₄)
      walk_at "ev"
      have eg : (a.length : Int) - 1 - ((b.length : Int) - 1) = ((a.length - b.length : Nat) : Int) := by omega
      rw [eg]
      walk_at "ev"
      walk_at "ev"
      refine SS.cons (ST.mono (Q' := fun f l h'' => f = .next ∧ l = [some (.ref x), some (.ref y), some (.int (if (a.length - 1) % 2 = 1 ∧ (b.length - 1) % 2 = 1 then -s else s)), some (.int g), some (.int hh), some (.int ((a.length - b.length : Nat) : Int)), o2, o3] ∧ H <+: h'' ∧ h''[x]? = some (IL a) ∧ h''[y]? = some (IL b)) ?_ ?_)
      · refine ST.ite (TT.mono (fun c h'' => c = decide ((a.length - 1) % 2 = 1 ∧ (b.length - 1) % 2 = 1) ∧ H₄ <+: h'') ?_ ?_)
        · refine TT.and ?_
          repeat walk_at "ev"
          refine zdegree_ok hx4 hla.1 fun H₅ f₅ => ?_
          repeat walk_at "ev"
          refine BO.mod (by decide) ?_
          repeat walk_at "ev"
          rw [odd_test (by omega)]
          by_cases q1 : (a.length - 1) % 2 = 1
          · rw [if_pos (by simp [q1])]
            refine TT.and ?_
            repeat walk_at "ev"
            refine zdegree_ok (pre_get f₅ hy4) hla.2 fun H₆ f₆ => ?_
            repeat walk_at "ev"
            refine BO.mod (by decide) ?_
            repeat walk_at "ev"
            rw [odd_test (by omega)]
            by_cases q2 : (b.length - 1) % 2 = 1
            · rw [if_pos (by simp [q2])]
              exact TT.and0 ⟨(decide_eq_true ⟨q1, q2⟩).symm, f₅.trans f₆⟩
            · rw [if_neg (by simpa using q2)]
              exact ⟨(decide_eq_false fun q => q2 q.2).symm, f₅.trans f₆⟩
          · rw [if_neg (by simpa using q1)]
            exact ⟨(decide_eq_false fun q => q1 q.1).symm, f₅⟩
        · rintro c h'' ⟨rfl, hc⟩
          have hx5 := pre_get hc hx4
          have hy5 := pre_get hc hy4
          by_cases q1 : (a.length - 1) % 2 = 1 ∧ (b.length - 1) % 2 = 1
          · rw [if_pos (decide_eq_true q1), if_pos q1]
            repeat walk_at "ev"
            exact ⟨rfl, rfl, hH4.trans hc, hx5, hy5⟩
          · rw [if_neg (by simpa using q1), if_neg q1]
            repeat walk_at "ev"
            exact ⟨rfl, rfl, hH4.trans hc, hx5, hy5⟩
      · rintro f l h'' ⟨rfl, rfl, hH5, hx5, hy5⟩
        repeat walk_at "ev"
        refine full_rest_ok hx5 hy5 h3 h4 (by omega) h2 h5 fun H₆ r6 g1 g2 g3 => ?_
        have hy6 := pre_get g1 hy5
        repeat walk_at "ev"
        refine BO.powF h7 (by omega) ?_
        refine BO.mul (mul_ok h6 h9) ?_
        repeat walk_at "ev"
        have hRl : R.length ≤ sizeLine := by
          obtain ⟨k, re, fe, le, _, hre, _, _, _, rfl⟩ := h5
          have := zscale_len re (lead b ^ le)
          have := hre.1
          omega
        refine divided_ok g3 hRl (Int.mul_ne_zero h10 (pow_ne h8 _)) (log2_ok h11) fun H₇ r7 i1 i2 i3 => ?_
        have hy7 := pre_get i1 hy6
        repeat walk_at "ev"
        refine zlead_ok (get_old hy7) (by omega) fun H₈ j1 => ?_
        have hy8 := pre_get j1 (get_old hy7)
        have hb8 := pre_get j1 (get_old i3)
        have hH8 := hH5.trans (g1.trans (i1.trans ((pre_new (List.prefix_refl _)).trans j1)))
        repeat walk_at "ev"
        by_cases hgap : a.length - b.length = 0
        · rw [if_neg (by simp [hgap])]
          rw [if_pos hgap] at hnext
          repeat walk_at "ev"
          exact ⟨k, Nat.lt_succ_self k, _, _, _, _, _, _, _, _, _, _, rfl, hnext, hH8, hy8, hb8⟩
        · rw [if_pos (by simp; omega)]
          rw [if_neg hgap] at hnext
          repeat walk_at "ev"
          refine BO.powF (lead_ok h4) (by omega) ?_
          repeat walk_at "ev"
          have em2 : ((a.length - b.length : Nat) : Int) - 1 = ((a.length - b.length - 1 : Nat) : Int) := by omega
          rw [em2]
          refine BO.powF h7 (by omega) ?_
          refine BO.fdiv (pow_ne h8 _) (log2_ok h12) ?_
          repeat walk_at "ev"
          exact ⟨k, Nat.lt_succ_self k, _, _, _, _, _, _, _, _, _, _, rfl, hnext, hH8, hy8, hb8⟩
noncomputable def sgnOf (a b : List Int) : Int := if (a.length - 1) % 2 = 1 ∧ (b.length - 1) % 2 = 1 then -1 else 1
/-- what a call of «resultant» needs, and its answer, once the longer list stands first -/
noncomputable def ResO (a b : List Int) (s r : Int) : Prop := ∃ k res, content a ≠ 0 ∧ content b ≠ 0 ∧ Fit (content a) ∧ Fit (content b) ∧ RRun k (divided a (content a)) (divided b (content b)) 1 1 s res ∧ Fit res ∧
  Fit (content a ^ (b.length - 1)) ∧ Fit (content b ^ (a.length - 1)) ∧ Fit (content a ^ (b.length - 1) * content b ^ (a.length - 1)) ∧ r = content a ^ (b.length - 1) * content b ^ (a.length - 1) * res
noncomputable def Res (a b : List Int) (r : Int) : Prop := if a.length < b.length then ResO b a (sgnOf b a) r else ResO a b 1 r


theorem resultant_ok {n : Nat} {p q : Nat} {a b : List Int} {r : Int} {H : MH} {Q : MV → MH → Prop} (hp : H[p]? = some (IL a)) (hq : H[q]? = some (IL b)) (ha1 : 1 ≤ a.length) (hb1 : 1 ≤ b.length) (ha : a.length ≤ 2 ^ 10) (hb : b.length ≤ 2 ^ 10) (hr : Res a b r)
    (h : ∀ H', H <+: H' → Q (.int r) H') : FN (CX w sa sn) (.ref 150) (n + 7) [.ref p, .ref q] H Q := by
  have hL : (2 : Nat) ^ 24 = sizeLine := by decide
  refine FN.enter (D := ⟨["a", "b", "sign", "one", "other", "shared"], [], ["zdegree", "zcontent", "row_resultant", "divided"]⟩) (ps := ["a", "b"]) (loc := [some (.ref p), some (.ref q), none, none, none, none]) (by rfl) rfl rfl (by kernel_rfl) (by decide +kernel) (fun rvs h => by match rvs, h with | [x, y], _ => rfl) rfl (fun i v h => locOf_get (k := 4) h) (fun V => ?_)
  refine SS.cons (ST.ite (TT.or ?_))
  repeat walk_at "ev"
  refine ⟨by decide, ?_⟩
  refine BO.leq (ys := []) (get_old hp) get_new ?_
  repeat walk_at "ev"
  rw [if_neg (by simp; intro e; simp [e] at ha1)]
  refine TT.or ?_
  repeat walk_at "ev"
  refine ⟨by decide, ?_⟩
  refine BO.leq (ys := []) (get_old (get_old hq)) get_new ?_
  repeat walk_at "ev"
  rw [if_neg (by simp; intro e; simp [e] at hb1)]
  refine TT.or0 ?_
  rw [if_neg (by decide)]
  have hp1 : (H ++ [Cel.list []] ++ [Cel.list []])[p]? = some (IL a) := get_old (get_old hp)
  have hq1 : (H ++ [Cel.list []] ++ [Cel.list []])[q]? = some (IL b) := get_old (get_old hq)
  have hH1 : H <+: (H ++ [Cel.list []] ++ [Cel.list []]) := by walk_at "pre"
  generalize (H ++ [Cel.list []] ++ [Cel.list []]) = H1 at hp1 hq1 hH1 ⊢
  walk_at "ev"
  walk_at "ev"
  walk_at "ev"
  walk_at "ev"
  walk_at "ev"
  walk_at "ev"
  refine SS.cons (ST.mono (Q' := fun f l h'' => ∃ A B s x y, f = .next ∧ l = [some (.ref x), some (.ref y), some (.int s), none, none, none] ∧ H <+: h'' ∧ h''[x]? = some (IL A) ∧ h''[y]? = some (IL B) ∧ A.length ≤ 2 ^ 10 ∧ B.length ≤ 2 ^ 10 ∧ 1 ≤ A.length ∧ 1 ≤ B.length ∧ ResO A B s r) ?_ ?_)
  · repeat walk_at "ev"
    refine zdegree_ok hp1 (by omega) fun H2 f2 => ?_
    repeat walk_at "ev"
    refine zdegree_ok (pre_get f2 hq1) (by omega) fun H3 f3 => ?_
    have hp3 := pre_get f3 (pre_get f2 hp1)
    have hq3 := pre_get f3 (pre_get f2 hq1)
    have hH3 := hH1.trans (f2.trans f3)
    repeat walk_at "ev"
    unfold Res at hr
    by_cases hlt : a.length < b.length
    · rw [if_pos (by simp; omega)]
      rw [if_pos hlt] at hr
      repeat walk_at "ev"
      refine TT.mono (fun c h'' => c = decide ((b.length - 1) % 2 = 1 ∧ (a.length - 1) % 2 = 1) ∧ H3 <+: h'') ?_ ?_
      · refine TT.and ?_
        repeat walk_at "ev"
        refine zdegree_ok (get_old hq3) (by omega) fun H₅ f₅ => ?_
        repeat walk_at "ev"
        refine BO.mod (by decide) ?_
        repeat walk_at "ev"
        rw [odd_test (by omega)]
        by_cases q1 : (b.length - 1) % 2 = 1
        · rw [if_pos (by simp [q1])]
          refine TT.and ?_
          repeat walk_at "ev"
          refine zdegree_ok (pre_get f₅ (get_old hp3)) (by omega) fun H₆ f₆ => ?_
          repeat walk_at "ev"
          refine BO.mod (by decide) ?_
          repeat walk_at "ev"
          rw [odd_test (by omega)]
          by_cases q2 : (a.length - 1) % 2 = 1
          · rw [if_pos (by simp [q2])]
            exact TT.and0 ⟨(decide_eq_true ⟨q1, q2⟩).symm, (pre_new (List.prefix_refl _)).trans (f₅.trans f₆)⟩
          · rw [if_neg (by simpa using q2)]
            exact ⟨(decide_eq_false fun q => q2 q.2).symm, (pre_new (List.prefix_refl _)).trans (f₅.trans f₆)⟩
        · rw [if_neg (by simpa using q1)]
          exact ⟨(decide_eq_false fun q => q1 q.1).symm, (pre_new (List.prefix_refl _)).trans f₅⟩
      · rintro c h'' ⟨rfl, hc⟩
        unfold sgnOf at hr
        by_cases q1 : (b.length - 1) % 2 = 1 ∧ (a.length - 1) % 2 = 1
        · rw [if_pos (decide_eq_true q1)]
          rw [if_pos q1] at hr
          repeat walk_at "ev"
          exact ⟨b, a, _, _, _, rfl, rfl, hH3.trans hc, pre_get hc hq3, pre_get hc hp3, hb, ha, hb1, ha1, hr⟩
        · rw [if_neg (by simpa using q1)]
          rw [if_neg q1] at hr
          repeat walk_at "ev"
          exact ⟨b, a, _, _, _, rfl, rfl, hH3.trans hc, pre_get hc hq3, pre_get hc hp3, hb, ha, hb1, ha1, hr⟩
    · rw [if_neg (by simp; omega)]
      rw [if_neg hlt] at hr
      repeat walk_at "ev"
      exact ⟨a, b, _, _, _, rfl, rfl, hH3, hp3, hq3, ha, hb, ha1, hb1, hr⟩
  · rintro f l h'' ⟨A, B, s, x, y, rfl, rfl, hH5, hx, hy, hA, hB, hA1, hB1, k, res, hc1, hc2, hc3, hc4, hrun, hres, hf1, hf2, hf3, rfl⟩
    repeat walk_at "ev"
    refine content_fn hx fun H6 e6 => ?_
    repeat walk_at "ev"
    refine content_fn (pre_get e6 hy) fun H7 e7 => ?_
    have hx7 := get_old (d := .tup [.int (content A), .int (content B)]) (pre_get e7 (pre_get e6 hx))
    have hy7 := get_old (d := .tup [.int (content A), .int (content B)]) (pre_get e7 (pre_get e6 hy))
    have hH7 := pre_new (d := .tup [.int (content A), .int (content B)]) (hH5.trans (e6.trans e7))
    repeat walk_at "ev"
    refine zdegree_ok hy7 (by omega) fun H8 e8 => ?_
    have hx8 := pre_get e8 hx7
    have hy8 := pre_get e8 hy7
    repeat walk_at "ev"
    have eB : (B.length : Int) - 1 = ((B.length - 1 : Nat) : Int) := by omega
    rw [eB]
    refine BO.powF hc3 (by omega) ?_
    repeat walk_at "ev"
    refine zdegree_ok hx8 (by omega) fun H9 e9 => ?_
    have hx9 := pre_get e9 hx8
    have hy9 := pre_get e9 hy8
    have eA : (A.length : Int) - 1 = ((A.length - 1 : Nat) : Int) := by omega
    rw [eA]
    refine BO.powF hc4 (by omega) ?_
    refine BO.mul (mul_ok hf1 hf2) ?_
    repeat walk_at "ev"
    refine divided_ok hx9 (by omega) hc1 (log2_ok hc3) fun H10 r10 g1 g2 g3 => ?_
    repeat walk_at "ev"
    refine divided_ok (pre_get g1 hy9) (by omega) hc2 (log2_ok hc4) fun H11 r11 i1 i2 i3 => ?_
    repeat walk_at "ev"
    refine row_resultant_ok (pre_get i1 g3) i3 hrun fun H12 j1 => ?_
    refine BO.mul (mul_ok hf3 hres) ?_
    exact h _ (hH7.trans (e8.trans (e9.trans (g1.trans (i1.trans j1)))))
noncomputable def maxAbs (xs : List Int) : Nat := xs.foldr (fun x m => max x.natAbs m) 0
theorem maxAbs_le {xs : List Int} {x : Int} (h : x ∈ xs) : x.natAbs ≤ maxAbs xs := by
  induction xs with
  | nil => cases h
  | cons y ys ih =>
    simp only [maxAbs, List.foldr_cons]
    rcases List.mem_cons.mp h with rfl | h
    · exact Nat.le_max_left _ _
    · exact Nat.le_trans (ih h) (Nat.le_max_right _ _)
theorem maxAbs_mem {xs : List Int} (h : 1 ≤ xs.length) : ∃ x ∈ xs, maxAbs xs = x.natAbs := by
  induction xs with
  | nil => simp at h
  | cons y ys ih =>
    simp only [maxAbs, List.foldr_cons]
    cases ys with
    | nil => exact ⟨y, .head _, by simp⟩
    | cons z zs =>
      obtain ⟨x, hx, e⟩ := ih (by simp)
      have e' : List.foldr (fun x m => max x.natAbs m) 0 (z :: zs) = x.natAbs := e
      rw [e']
      rcases Nat.le_total y.natAbs x.natAbs with q | q
      · exact ⟨x, .tail _ hx, Nat.max_eq_right q⟩
      · exact ⟨y, .head _, Nat.max_eq_left q⟩
noncomputable def rootB (xs : List Int) : Nat := 2 + maxAbs xs / (lead xs).natAbs

theorem rootB_ok {n : Nat} {p : Nat} {xs : List Int} {H : MH} {Q : MV → MH → Prop} (hp : H[p]? = some (IL xs)) (ha : Ok xs) (h1 : 1 ≤ xs.length) (h0 : lead xs ≠ 0) (h : ∀ H', H <+: H' → Q (.int (rootB xs : Nat)) H') : FN (CX w sa sn) (.ref 155) (n + 2) [.ref p] H Q := by
  have hL : (2 : Nat) ^ 24 = sizeLine := by decide
  have := ha.1
  refine root_bound_ok hp (by omega) h1 h0 (log2_ok (lead_ok ha)) fun H' M hH hM hall => ?_
  have e : M = (maxAbs xs : Nat) := by
    obtain ⟨x, hx, rfl⟩ := hM
    obtain ⟨y, hy, e2⟩ := maxAbs_mem h1
    have h2 := maxAbs_le hx
    have h3 := hall y hy
    rw [e2] at h2 ⊢
    omega
  rw [e]
  have e2 : (2 : Int) + ((maxAbs xs : Nat) : Int).fdiv ((lead xs).natAbs : Int) = ((rootB xs : Nat) : Int) := by
    unfold rootB
    rw [Int.fdiv_eq_ediv_of_nonneg _ (by omega)]
    rfl
  rw [e2]
  exact h _ hH

theorem ints_of (f : Nat → Int) (k : Nat) : ((List.range k).map f).map MV.int = (List.range k).map (fun j => MV.int (f j)) := by simp

theorem dispersions_ok {n : Nat} {p q : Nat} {a b : List Int} {F : Nat → Int} {H : MH} {Q : MV → MH → Prop} (hp : H[p]? = some (IL a)) (hq : H[q]? = some (IL b)) (ha2 : 2 ≤ a.length) (hb2 : 2 ≤ b.length) (ha : Ok a) (hb : Ok b) (hla : lead a ≠ 0) (hlb : lead b ≠ 0)
    (hsz : (a.length - 1) * (b.length - 1) ≤ 1000) (hrb : rootB a + rootB b ≤ 2 ^ 20)
    (hF : ∀ h, h ≤ (a.length - 1) * (b.length - 1) → Res a (shift h (b.length - 1) b) (F h))
    (h : ∀ H' r, H <+: H' → H.length ≤ r → H'[r]? = some (IL (zeros (firsts ((a.length - 1) * (b.length - 1) + 1) ((List.range ((a.length - 1) * (b.length - 1) + 1)).map F)) (rootB a + rootB b + 1))) → Q (.ref r) H') : FN (CX w sa sn) (.ref 172) (n + 8) [.ref p, .ref q] H Q := by
  have hL : (2 : Nat) ^ 24 = sizeLine := by decide
  have hal := ha.1
  have hbl := hb.1
  refine FN.enter (D := ⟨["a", "b", "most", "numbers"], ["a", "b"], ["zdegree", "range", "zeros_on", "first_differences", "root_bound"]⟩) (ps := ["a", "b"]) (loc := [some (.ref p), some (.ref q), none, none]) (by rfl) rfl rfl (by kernel_rfl) (by decide +kernel) (fun rvs h => by match rvs, h with | [x, y], _ => rfl) rfl (fun i v h => locOf_get (k := 2) h) (fun V => ?_)
  refine SS.cons (ST.ite (TT.or ?_))
  repeat walk_at "ev"
  refine zdegree_ok hp (by omega) fun H1 e1 => ?_
  have hp1 := pre_get e1 hp
  have hq1 := pre_get e1 hq
  repeat walk_at "ev"
  rw [if_neg (by simp; omega)]
  refine TT.or ?_
  repeat walk_at "ev"
  refine zdegree_ok hq1 (by omega) fun H2 e2 => ?_
  have hp2 := pre_get e2 hp1
  have hq2 := pre_get e2 hq1
  repeat walk_at "ev"
  rw [if_neg (by simp; omega)]
  refine TT.or0 ?_
  rw [if_neg (by decide)]
  repeat walk_at "ev"
  refine zdegree_ok hp2 (by omega) fun H3 e3 => ?_
  have hp3 := pre_get e3 hp2
  have hq3 := pre_get e3 hq2
  repeat walk_at "ev"
  refine zdegree_ok hq3 (by omega) fun H4 e4 => ?_
  have hp4 := pre_get e4 hp3
  have hq4 := pre_get e4 hq3
  have hH4 := e1.trans (e2.trans (e3.trans e4))
  have em : ((a.length : Int) - 1) * ((b.length : Int) - 1) = (((a.length - 1) * (b.length - 1) : Nat) : Int) := by
    rw [Int.natCast_mul]; congr 1 <;> omega
  have hab : (a.length - 1) * (b.length - 1) ≤ 1000 := hsz
  generalize hm : (a.length - 1) * (b.length - 1) = m at *
  refine BO.mul (IntMulOk.of_left ?_) ?_
  · refine Nat.le_trans (intBits_le (k := 60) ?_) (by decide)
    omega
  rw [em]
  repeat walk_at "ev"
  refine (ST.asgComp ⟨["h", "a", "b"], ["a", "b"], ["resultant", "zshift"]⟩ [none, some (.ref p), some (.ref q)] (by decide +kernel) (by decide +kernel) (cap_of (by walk_at "cap")) (by decide +kernel) ?_ (fun env hk hc => swapC hk hc rfl (by decide +kernel)))
  repeat walk_at "ev"
  have e5 : (m : Int) + 1 = ((m + 1 : Nat) : Int) := by omega
  rw [e5]
  refine ⟨_, _, _, Iter.upto (a := m + 1) get_new (by omega), fun i acc H' => acc = (List.range i).map (fun j => MV.int (F j)) ∧ H4 <+: H' ∧ i ≤ m + 1, ⟨rfl, by walk_at "pre", Nat.zero_le _⟩, fun _ _ _ _ => trivial, fun i acc h' q => by rw [q.1]; simp; omega, ?_, ?_⟩
  · rintro V' i acc H' hi ⟨rfl, hH, _⟩
    refine ⟨_, by walk_at "wr", ?_⟩
    show EV _ V' _ _ _ _ _ _
    repeat walk_at "ev"
    have hp' := pre_get hH hp4
    have hq' := pre_get hH hq4
    refine zshift_ok (m := (i : Int)) hq' (by omega) (by omega) (by omega) fun H5 r5 f1 f2 f3 => ?_
    repeat walk_at "ev"
    refine resultant_ok (pre_get f1 hp') f3 (by omega) (by rw [shift_len]; omega) (by omega) (by rw [shift_len]; omega) (hF i (by omega)) fun H6 g1 => ?_
    exact ⟨by rw [List.range_succ, List.map_append]; rfl, hH.trans (f1.trans g1), hi⟩
  · rintro acc h' ⟨rfl, hH, _⟩
    rw [← ints_of]
    refine ⟨_, by walk_at "wr", ?_⟩
    have hp5 := get_old (d := IL ((List.range (m + 1)).map F)) (pre_get hH hp4)
    have hq5 := get_old (d := IL ((List.range (m + 1)).map F)) (pre_get hH hq4)
    have hn5 : (h' ++ [IL ((List.range (m + 1)).map F)])[h'.length]? = some (IL ((List.range (m + 1)).map F)) := get_new
    have hH5 := pre_new (d := IL ((List.range (m + 1)).map F)) (hH4.trans hH)
    have hl : ((List.range (m + 1)).map F).length = m + 1 := by simp
    show Then _ _ _ _ _ _ _ _ (h' ++ [IL ((List.range (m + 1)).map F)])
    generalize (h' ++ [IL ((List.range (m + 1)).map F)]) = H5 at hp5 hq5 hn5 hH5 ⊢
    repeat walk_at "ev"
    refine first_differences_ok hn5 (by omega) fun H6 r6 g1 g2 g3 => ?_
    repeat walk_at "ev"
    refine rootB_ok (pre_get g1 hp5) ha (by omega) hla fun H7 i1 => ?_
    repeat walk_at "ev"
    refine rootB_ok (pre_get i1 (pre_get g1 hq5)) hb (by omega) hlb fun H8 j1 => ?_
    repeat walk_at "ev"
    have er : ((rootB a : Nat) : Int) + ((rootB b : Nat) : Int) = ((rootB a + rootB b : Nat) : Int) := by omega
    rw [er]
    have hfl : ∀ k xs, (firsts k xs).length = k := by
      intro k
      induction k with
      | zero => intro xs; rfl
      | succ k ih => intro xs; simp [firsts, ih]
    refine zeros_on_ok (pre_get j1 (pre_get i1 g3)) (by rw [hfl]; omega) (by rw [hfl]; omega) hrb fun H9 r9 k1 k2 k3 => ?_
    have hH9 := g1.trans (i1.trans (j1.trans k1))
    refine h _ _ (hH5.trans hH9) ?_ (by rw [hl] at k3; exact k3)
    have := hH5.length_le
    have := (g1.trans (i1.trans j1)).length_le
    omega

theorem dispersions_nil {n : Nat} {p q : Nat} {a b : List Int} {H : MH} {Q : MV → MH → Prop} (hp : H[p]? = some (IL a)) (hq : H[q]? = some (IL b)) (ha : a.length ≤ sizeLine) (hb : b.length ≤ sizeLine) (hab : a.length < 2 ∨ b.length < 2)
    (h : ∀ H' r, H <+: H' → H.length ≤ r → H'[r]? = some (IL []) → Q (.ref r) H') : FN (CX w sa sn) (.ref 172) (n + 8) [.ref p, .ref q] H Q := by
  refine FN.enter (D := ⟨["a", "b", "most", "numbers"], ["a", "b"], ["zdegree", "range", "zeros_on", "first_differences", "root_bound"]⟩) (ps := ["a", "b"]) (loc := [some (.ref p), some (.ref q), none, none]) (by rfl) rfl rfl (by kernel_rfl) (by decide +kernel) (fun rvs h => by match rvs, h with | [x, y], _ => rfl) rfl (fun i v h => locOf_get (k := 2) h) (fun V => ?_)
  refine SS.cons (ST.ite (TT.or ?_))
  repeat walk_at "ev"
  refine zdegree_ok hp ha fun H1 e1 => ?_
  have hp1 := pre_get e1 hp
  have hq1 := pre_get e1 hq
  repeat walk_at "ev"
  by_cases h1 : a.length < 2
  · rw [if_pos (by simp; omega), if_pos rfl]
    repeat walk_at "ev"
    exact ⟨by decide, h _ _ (pre_new e1) e1.length_le get_new⟩
  · rw [if_neg (by simp; omega)]
    refine TT.or ?_
    repeat walk_at "ev"
    refine zdegree_ok hq1 hb fun H2 e2 => ?_
    repeat walk_at "ev"
    rw [if_pos (by simp; omega), if_pos rfl]
    repeat walk_at "ev"
    exact ⟨by decide, h _ _ (pre_new (e1.trans e2)) (e1.trans e2).length_le get_new⟩
theorem swapNS {env : Env} {x : Str} {o i : Expr} {es : List Expr} {k k' : Nat} {px p' tpos vpos : Pos} : swappedStores [.Tuple [.Name x px, .Subscript o i p'] k tpos] (.Tuple es k' vpos) env = pure none := by
  refine sw_no fun f q => ?_
  cases z : f (.Name x px) with
  | none => rw [List.filterMap_cons_none z, List.filterMap_cons_none (q ..)]; exact fun h => nomatch h
  | some u => rw [List.filterMap_cons_some z, List.filterMap_cons_none (q ..)]; exact fun h => nomatch h

/-- x, o[i] = a pair -/
theorem ST.tupNS {C : Cx} {V : Ev} {D : Dn} {n : Nat} {loc : Locs} {H : MH} {Q : Fl → Locs → MH → Prop} {x : Str} {o i value : Expr} {k : Nat} {px p' tpos pos : Pos}
    (h : EV C V D n value loc H fun v H₁ => ∃ q v1 v2 loc', v = .ref q ∧ H₁[q]? = some (.tup [v1, v2]) ∧ Wr D.ns loc x v1 loc' ∧ EV C V D n o loc' H₁ fun a H₂ => EV C V D n i loc' H₂ fun b H₃ => SI C n a b v2 H₃ fun H₄ => Q .next loc' H₄)
    (hw : ∀ env, swappedStores [.Tuple [.Name x px, .Subscript o i p'] k tpos] value env = pure none) (hs : ∀ env, swapsWithSole [.Tuple [.Name x px, .Subscript o i p'] k tpos] value pos.line env = pure false := by intro _; rfl) :
    ST C V D n (.Assign [.Tuple [.Name x px, .Subscript o i p'] k tpos] value pos) loc H Q := by
  intro base A s r Qr hR hE hP hQ
  refine Assign_Tuple (hs := hs _) (hw := hw _) (h base A s r _ hR hE hP fun v H₁ rv r₁ h₁ tk₁ q₁ hv l₁ g₁ => ?_)
  obtain ⟨q, v1, v2, loc', rfl, hp, hw', h2⟩ := q₁
  obtain ⟨a, rfl, _, rvs, ht, hr⟩ := l₁.get hp hv
  match rvs, hr with
  | _, .cons (rv := r1) (rvs := _) w1 (.cons (rv := r2) (rvs := _) w2 .nil) =>
  refine assign_Tuple_tuple hR.hd ht rfl rfl fun h' he => ?_
  have hP₁ := (hP.grow l₁ g₁).ext he
  show wpAny _ _ (assignInOrder [assign (.Name x px) V.env, assign (.Subscript o i p') V.env] [r1, r2]) _ NoE _
  refine wpAny_assignInOrder_more (wpAny_assign_Name (store (s := { s with heap := h', toks := tk₁ }) hw' hE hP₁ w1 fun h₂ tk₂ hP₂ => ?_))
  refine wpAny_assignInOrder_more (kas_sub ?_)
  refine h2 base A _ r₁ _ hR hE hP₂ fun a H₂ ra r₃ h₃ tk₃ q₃ va l₃ g₃ => ?_
  refine q₃ base A _ r₃ _ hR hE (hP₂.grow l₃ g₃) fun b H₃ rb r₄ h₄ tk₄ q₄ vb l₄ g₄ => ?_
  refine q₄ A _ r₄ _ ra rb r2 _ hR hE.bf l₄ (va.mono g₄.pre) vb (w2.mono (g₃.trans g₄).pre) fun H₄ r₅ h₅ tk₅ q₅ l₅ g₅ => ?_
  have g := g₃.trans (g₄.trans g₅)
  exact wpAny_pure (hQ _ _ _ _ _ _ tk₅ q₅ rfl (hP₂.grow l₅ g) (g₁.pre.trans g.pre))

/-- the draws' dict at p, and all else kept -/
structure Kd (p : Nat) (H H' : MH) : Prop where
  len : H.length ≤ H'.length
  keep : ∀ (q : Nat) (c : Cel), q ≠ p → H[q]? = some c → H'[q]? = some c
  dr : ∃ g m : Int, 0 ≤ g ∧ 0 ≤ m ∧ m < 2147483647 ∧ H'[p]? = some (.draws g m)
theorem Kd.trans {p : Nat} {H H' H'' : MH} (a : Kd p H H') (b : Kd p H' H'') : Kd p H H'' := ⟨Nat.le_trans a.len b.len, fun q c h e => b.keep q c h (a.keep q c h e), b.dr⟩
theorem Kd.pre {p : Nat} {H H' H'' : MH} (a : Kd p H H') (b : H' <+: H'') : Kd p H H'' := ⟨Nat.le_trans a.len b.length_le, fun q c h e => pre_get b (a.keep q c h e), let ⟨g, m, h1, h2, h3, h4⟩ := a.dr; ⟨g, m, h1, h2, h3, pre_get b h4⟩⟩
theorem Kd.set {p : Nat} {H H' : MH} (a : Kd p H H') {g m : Int} (h1 : 0 ≤ g) (h2 : 0 ≤ m) (h3 : m < 2147483647) : Kd p H (H'.set p (.draws g m)) := by
  obtain ⟨_, _, _, _, _, e⟩ := a.dr
  exact ⟨by simpa using a.len, fun q c h e => get_set_ne (a.keep q c h e) (Ne.symm h), g, m, h1, h2, h3, get_set e⟩
theorem Kd.upd {p : Nat} {H H' : MH} (a : Kd p H H') {q : Nat} {c : Cel} (hq : H.length ≤ q) (hne : q ≠ p) : Kd p H (H'.set q c) := by
  obtain ⟨g, m, h1, h2, h3, e⟩ := a.dr
  refine ⟨by simpa using a.len, fun r c' h e => ?_, g, m, h1, h2, h3, get_set_ne e hne⟩
  have : q ≠ r := by rintro rfl; rw [List.getElem?_eq_none hq] at e; cases e
  exact get_set_ne (a.keep r c' h e) this

theorem take_ok {n : Nat} {p : Nat} {k : Int} {H₀ H : MH} {Q : MV → MH → Prop} (hd : Kd p H₀ H) (hk : 0 < k) (hk2 : k < 2 ^ 60)
    (h : ∀ (r : Int) H', 0 ≤ r → r < k → Kd p H₀ H' → Kd p H H' → Q (.int r) H') : FN (CX w sa sn) (.ref 179) (n + 1) [.ref p, .int k] H Q := by
  have hself : Kd p H H := ⟨Nat.le_refl _, fun _ _ _ e => e, hd.dr⟩
  obtain ⟨g, m, h1, h2, h3, hp⟩ := hd.dr
  refine FN.enter (D := ⟨["draws", "many", "found"], [], []⟩) (ps := ["draws", "many"]) (loc := [some (.ref p), some (.int k), none]) (by rfl) rfl rfl (by kernel_rfl) (by decide +kernel) (fun rvs h => by match rvs, h with | [x, y], _ => rfl) rfl (fun i v h => locOf_get (k := 1) h) (fun V => ?_)
  repeat walk_at "ev"
  refine BO.great hp ?_
  repeat walk_at "ev"
  have hlog : k.natAbs.log2 < 9000 := log2_ok (Nat.lt_trans (show k.natAbs < 2 ^ 60 by omega) (by decide))
  by_cases h0 : g > 0
  · rw [if_pos (by simpa using h0)]
    refine SS.cons (ST.tupNS ?_ (fun env => swapNS))
    repeat walk_at "ev"
    refine BO.great hp ?_
    repeat walk_at "ev"
    refine BO.mod (by omega) ?_
    repeat walk_at "ev"
    refine BO.great hp ?_
    repeat walk_at "ev"
    refine BO.fdiv (by omega) hlog ?_
    repeat walk_at "ev"
    refine ⟨(show 2 ≤ sizeLine from by decide), _, _, _, _, rfl, get_new, by walk_at "wr", ?_⟩
    repeat walk_at "ev"
    refine SI.great (get_old hp) ?_
    repeat walk_at "ev"
    obtain ⟨m1, m2⟩ := fmod_nonneg' h1 hk
    have hf : 0 ≤ g.fdiv k := by rw [Int.fdiv_eq_ediv_of_nonneg _ (by omega)]; exact Int.ediv_nonneg h1 (by omega)
    exact h _ _ m1 m2 ((hd.pre (pre_new (List.prefix_refl _))).set hf h2 h3) ((hself.pre (pre_new (List.prefix_refl _))).set hf h2 h3)
  · rw [if_neg (by simpa using h0)]
    repeat walk_at "ev"
    refine ST.setI ?_
    repeat walk_at "ev"
    refine BO.mixed hp ?_
    repeat walk_at "ev"
    refine BO.mul (IntMulOk.of_right (by decide)) ?_
    repeat walk_at "ev"
    refine BO.mod (by decide) ?_
    repeat walk_at "ev"
    refine SI.mixed hp ?_
    obtain ⟨m1, m2⟩ := fmod_nonneg' (a := m * 48271 + 11) (b := 2147483647) (by omega) (by decide)
    have hd2 := hd.set (g := g) h1 m1 m2
    have hs2 := hself.set (g := g) h1 m1 m2
    repeat walk_at "ev"
    refine BO.mixed (get_set hp) ?_
    repeat walk_at "ev"
    refine BO.fdiv (by decide) (by decide) ?_
    repeat walk_at "ev"
    refine BO.mod (by omega) ?_
    have hf : 0 ≤ ((m * 48271 + 11).fmod 2147483647).fdiv 16 := by rw [Int.fdiv_eq_ediv_of_nonneg _ (by omega)]; exact Int.ediv_nonneg m1 (by omega)
    obtain ⟨k1, k2⟩ := fmod_nonneg' hf hk
    exact h _ _ k1 k2 hd2 hs2
theorem BO.modP {C : Cx} {n : Nat} {H : MH} {Q : MV → MH → Prop} {a b : Int} (hb : 0 < b) (h : Q (.int (a.fmod b)) H) : BO C n (binaryOp .Mod) (.int a) (.int b) H Q := BO.mod (by omega) h

theorem sum_nonneg : ∀ {ys : List Int}, (∀ y ∈ ys, 0 ≤ y) → 0 ≤ ys.sum
  | [], _ => by simp
  | y :: ys, h => by
    have h1 := h y (.head _)
    have h2 := sum_nonneg fun z hz => h z (.tail _ hz)
    simp; omega

theorem law_draws_ok {n : Nat} {H : MH} {Q : MV → MH → Prop} (hsn : sn.length ≤ sizeLine)
    (h : ∀ H' p (g m : Int), H <+: H' → H.length ≤ p → 0 ≤ g → 0 ≤ m → m < 2147483647 → H'[p]? = some (.draws g m) → Q (.ref p) H') : FN (CX w sa sn) (.ref 184) (n + 1) [.ext sa] H Q := by
  have hL : (2 : Nat) ^ 24 = sizeLine := by decide
  refine FN.enter (D := ⟨["script", "mixed_here", "cell"], [], ["abs", "sum"]⟩) (ps := ["script"]) (loc := [some (.ext sa), none, none]) (by rfl) rfl rfl (by kernel_rfl) (by decide +kernel) (fun rvs h => by match rvs, h with | [x], _ => rfl) rfl (fun i v h => locOf_get (k := 2) h) (fun V => ?_)
  repeat walk_at "ev"
  refine ST.for_ (by decide +kernel) ?_
  refine EV.sliceX ?_
  repeat walk_at "ev"
  refine ⟨_, rfl, rfl, hsn, by decide, ?_⟩
  have hk : (sn.take (24 : Int).toNat).length ≤ 24 := by rw [List.length_take]; exact Nat.min_le_left _ _
  show ∃ k item keep, Iter (CX w sa sn) n (.ref H.length) (H ++ [IL (sn.take (24 : Int).toNat)]) k item keep ∧ _
  generalize sn.take (24 : Int).toNat = ys at hk ⊢
  refine ⟨_, _, _, Iter.ints get_new, fun i l h' => (∃ (m : Int) (o : Option MV), l = [some (.ext sa), some (.int m), o] ∧ 0 ≤ m ∧ m < 2147483647) ∧ (H ++ [IL ys]) <+: h', ⟨⟨_, _, rfl, by decide, by decide⟩, List.prefix_refl _⟩, fun i l h' q => pre_get q.2 get_new, ?_, ?_⟩
  · rintro i l h' hi ⟨⟨m, o, rfl, m1, m2⟩, hH⟩
    refine ⟨_, by walk_at "wr", ?_⟩
    repeat walk_at "ev"
    refine BO.mul (IntMulOk.of_right (by decide)) ?_
    repeat walk_at "ev"
    rw [ite_abs']
    refine BO.modP (by decide) ?_
    repeat walk_at "ev"
    obtain ⟨q1, q2⟩ := fmod_nonneg' (a := m * 131 + ((ys.getD i 0).natAbs : Int) + 17) (b := 2147483647) (by omega) (by decide)
    exact ⟨⟨_, _, rfl, q1, q2⟩, hH⟩
  · rintro l h' ⟨⟨m, o, rfl, m1, m2⟩, hH⟩
    have hH' : H <+: h' := (pre_new (List.prefix_refl _)).trans hH
    repeat walk_at "ev"
    refine EV.dict2 ?_
    repeat walk_at "ev"
    refine EV.comp ⟨["cell"], [], ["abs"]⟩ [none] (by decide +kernel) (by decide +kernel) (cap_of (by walk_at "cap")) ?_
    refine EV.sliceX ?_
    repeat walk_at "ev"
    refine ⟨_, rfl, rfl, hsn, by decide, ?_⟩
    have hk : (sn.take (24 : Int).toNat).length ≤ 24 := by rw [List.length_take]; exact Nat.min_le_left _ _
    show ∃ k item keep, Iter (CX w sa sn) n (.ref h'.length) (h' ++ [IL (sn.take (24 : Int).toNat)]) k item keep ∧ _
    generalize sn.take (24 : Int).toNat = ys at hk ⊢
    refine ⟨_, _, _, Iter.ints get_new, fun i acc h'' => (∃ zs : List Int, acc = zs.map .int ∧ (∀ z ∈ zs, 0 ≤ z) ∧ zs.length ≤ i) ∧ (h' ++ [IL ys]) <+: h'' ∧ i ≤ ys.length, ⟨⟨[], rfl, by simp, Nat.zero_le _⟩, List.prefix_refl _, Nat.zero_le _⟩, fun i acc h'' q => pre_get q.2.1 get_new, ?_, ?_, ?_⟩
    · rintro i acc h'' ⟨⟨zs, rfl, _, hz⟩, _, hi⟩
      simp; omega
    · rintro V' i acc h'' hi ⟨⟨zs, rfl, hz0, hz⟩, hH2, _⟩
      refine ⟨_, by walk_at "wr", ?_⟩
      show TT _ V' _ _ _ _ _ _
      repeat walk_at "ev"
      refine BO.pow (by decide) (by decide) ?_
      repeat walk_at "ev"
      rw [ite_abs']
      generalize decide (((ys.getD i 0).natAbs : Int) > 10 ^ Int.toNat 9) = c
      cases c
      · rw [if_neg (by decide)]
        exact ⟨⟨zs, rfl, hz0, by omega⟩, hH2, hi⟩
      · rw [if_pos rfl]
        repeat walk_at "ev"
        refine ⟨⟨zs ++ [((ys.getD i 0).natAbs : Int)], by rw [ite_abs']; simp, fun z hz' => ?_, by simp; omega⟩, hH2, hi⟩
        rcases List.mem_append.mp hz' with q | q
        · exact hz0 z q
        · rw [List.mem_singleton.mp q]; omega
    · rintro acc h'' ⟨⟨zs, rfl, hz0, hz⟩, hH2, _⟩
      repeat walk_at "ev"
      refine FN.sum (xs := zs) get_new ?_
      refine ⟨_, rfl, ?_⟩
      repeat walk_at "ev"
      refine ⟨_, rfl, ?_⟩
      have h3 := hH'.trans ((pre_new (List.prefix_refl _)).trans hH2)
      exact h _ _ _ _ (pre_new (pre_new h3)) (by have := h3.length_le; simp; omega) (sum_nonneg hz0) m1 m2 get_new

/-- the row that «_law_mul» builds -/
noncomputable def axpy (l : Int) : List Int → List Int → List Int
  | xs, [] => xs
  | [], _ :: _ => []
  | x :: xs, y :: ys => (x + l * y) :: axpy l xs ys
noncomputable def addAt (xs : List Int) (k : Nat) (l : Int) (ys : List Int) : List Int := xs.take k ++ axpy l (xs.drop k) ys
noncomputable def lmulK (b : List Int) : List Int → Nat → List Int → List Int
  | [], _, acc => acc
  | x :: xs, k, acc => lmulK b xs (k + 1) (addAt acc k x b)
noncomputable def lmul (a b : List Int) : List Int := lmulK b a 0 (List.replicate (a.length + b.length - 1) 0)
theorem axpy_len (l : Int) : ∀ (xs ys : List Int), (axpy l xs ys).length = xs.length
  | xs, [] => by cases xs <;> rfl
  | [], _ :: _ => rfl
  | x :: xs, y :: ys => by simp [axpy, axpy_len l xs ys]
theorem axpy_get (l : Int) : ∀ (xs ys : List Int) (t : Nat), t < xs.length → (axpy l xs ys).getD t 0 = xs.getD t 0 + l * ys.getD t 0
  | xs, [], t, _ => by cases xs <;> simp [axpy]
  | [], _ :: _, t, h => by simp at h
  | x :: xs, y :: ys, 0, _ => by simp [axpy]
  | x :: xs, y :: ys, t + 1, h => by
    have := axpy_get l xs ys t (by simpa using h)
    simpa [axpy] using this
theorem addAt_len (xs : List Int) (k : Nat) (l : Int) (ys : List Int) : (addAt xs k l ys).length = xs.length := by
  unfold addAt; rw [List.length_append, axpy_len, List.length_take, List.length_drop]; omega
theorem addAt_get {xs : List Int} {k : Nat} (l : Int) (ys : List Int) {t : Nat} (ht : t < xs.length) : (addAt xs k l ys).getD t 0 = xs.getD t 0 + (if k ≤ t then l * ys.getD (t - k) 0 else 0) := by
  unfold addAt
  by_cases h : k ≤ t
  · rw [if_pos h, List.getD_eq_getElem?_getD, List.getElem?_append_right (by simp; omega)]
    have e : t - (xs.take k).length = t - k := by simp; omega
    rw [e, ← List.getD_eq_getElem?_getD, axpy_get _ _ _ _ (by simp; omega)]
    congr 1
    rw [List.getD_eq_getElem?_getD, List.getElem?_drop, show k + (t - k) = t by omega]; rfl
  · rw [if_neg h, List.getD_eq_getElem?_getD, List.getElem?_append_left (by simp; omega), List.getElem?_take, if_pos (by omega)]
    rw [Int.add_zero]; rfl
theorem addAt_step {xs b : List Int} {k j : Nat} {l : Int} (hj : j < b.length) (hk : k + j < xs.length) :
    (addAt xs k l (b.take j)).set (k + j) ((addAt xs k l (b.take j)).getD (k + j) 0 + l * b.getD j 0) = addAt xs k l (b.take (j + 1)) := by
  have gt : ∀ m t, (b.take m).getD t 0 = if t < m then b.getD t 0 else 0 := fun m t => by
    rw [List.getD_eq_getElem?_getD, List.getElem?_take]
    by_cases h : t < m
    · rw [if_pos h, if_pos h]; rfl
    · rw [if_neg h, if_neg h]; rfl
  refine ext_getD (by simp [addAt_len]) fun t ht => ?_
  rw [List.length_set, addAt_len] at ht
  rw [getD_set _ (by rw [addAt_len]; exact hk), addAt_get _ _ ht, addAt_get _ _ hk, addAt_get _ _ ht]
  by_cases e : t = k + j
  · subst e
    rw [if_pos rfl, if_pos (by omega), if_pos (by omega), gt, gt, show k + j - k = j by omega, if_neg (by omega), if_pos (by omega)]
    rw [Int.mul_zero, Int.add_zero]
  · rw [if_neg e]
    by_cases h : k ≤ t
    · rw [if_pos h, if_pos h, gt, gt]
      by_cases h2 : t - k < j
      · rw [if_pos h2, if_pos (by omega)]
      · rw [if_neg h2, if_neg (by omega)]
    · rw [if_neg h, if_neg h]
theorem addAt_nil {xs : List Int} {k : Nat} {l : Int} : addAt xs k l [] = xs := by
  unfold addAt
  have e : ∀ ys : List Int, axpy l ys [] = ys := fun ys => by cases ys <;> rfl
  rw [e, List.take_append_drop]

theorem getD_ints {xs : List Int} {i : Nat} (h : i < xs.length) : (xs.map MV.int).getD i .none = .int (xs.getD i 0) := by
  simp [List.getD, List.getElem?_eq_getElem h]
theorem gv_enum : GV (CX w sa sn) "enumerate" (.type "enumerate") := GV.blt (by rfl) (by decide) (by rfl)

theorem law_mul_ok {n : Nat} {p q : Nat} {a b : List Int} {H : MH} {Q : MV → MH → Prop} (hp : H[p]? = some (IL a)) (hq : H[q]? = some (IL b)) (ha : a.length ≤ 2 ^ 10) (hb : b.length ≤ 2 ^ 10) (ha1 : 1 ≤ a.length) (hb1 : 1 ≤ b.length) (hm : ∀ x ∈ a, ∀ y ∈ b, IntMulOk x y)
    (h : ∀ H' r, H <+: H' → H.length ≤ r → H'[r]? = some (IL (lmul a b)) → Q (.ref r) H') : FN (CX w sa sn) (.ref 191) (n + 1) [.ref p, .ref q] H Q := by
  have hL : (2 : Nat) ^ 24 = sizeLine := by decide
  refine FN.enter (D := ⟨["one", "other", "found", "at", "left", "spot", "right"], [], ["len", "enumerate"]⟩) (ps := ["one", "other"]) (loc := [some (.ref p), some (.ref q), none, none, none, none, none]) (by rfl) rfl rfl (by kernel_rfl) (by decide +kernel) (fun rvs h => by match rvs, h with | [x, y], _ => rfl) rfl (fun i v h => locOf_get (k := 5) h) (fun V => ?_)
  refine SS.cons (ST.ite (TT.or ?_))
  repeat walk_at "ev"
  refine ⟨by decide, ?_⟩
  refine BO.leq (ys := []) (get_old hp) get_new ?_
  repeat walk_at "ev"
  rw [if_neg (by simp; intro e; simp [e] at ha1)]
  refine TT.or ?_
  repeat walk_at "ev"
  refine ⟨by decide, ?_⟩
  refine BO.leq (ys := []) (get_old (get_old hq)) get_new ?_
  repeat walk_at "ev"
  rw [if_neg (by simp; intro e; simp [e] at hb1)]
  refine TT.or0 ?_
  rw [if_neg (by decide)]
  have hp1 : (H ++ [Cel.list []] ++ [Cel.list []])[p]? = some (IL a) := get_old (get_old hp)
  have hq1 : (H ++ [Cel.list []] ++ [Cel.list []])[q]? = some (IL b) := get_old (get_old hq)
  have hH1 : H <+: (H ++ [Cel.list []] ++ [Cel.list []]) := by walk_at "pre"
  generalize (H ++ [Cel.list []] ++ [Cel.list []]) = H1 at hp1 hq1 hH1 ⊢
  have hf0 := hH1.length_le
  repeat walk_at "ev"
  refine ⟨(show 1 ≤ sizeLine from by decide), ?_⟩
  repeat walk_at "ev"
  refine BO.rep get_new (by omega) (by omega) ?_
  have et : ((a.length : Int) + (b.length : Int) - 1).toNat = a.length + b.length - 1 := by omega
  rw [et]
  have ez : Cel.list (List.replicate (a.length + b.length - 1) (MV.int 0)) = IL (List.replicate (a.length + b.length - 1) 0) := by simp [IL]
  rw [ez]
  have hp2 := get_old (d := IL (List.replicate (a.length + b.length - 1) 0)) (get_old (d := Cel.list [.int 0]) hp1)
  have hq2 := get_old (d := IL (List.replicate (a.length + b.length - 1) 0)) (get_old (d := Cel.list [.int 0]) hq1)
  have hf2 : (H1 ++ [Cel.list [.int 0]] ++ [IL (List.replicate (a.length + b.length - 1) 0)])[(H1 ++ [Cel.list [.int 0]]).length]? = some (IL (List.replicate (a.length + b.length - 1) 0)) := get_new
  have hH2 := pre_new (d := IL (List.replicate (a.length + b.length - 1) 0)) (pre_new (d := Cel.list [.int 0]) hH1)
  have hf1 : H.length ≤ (H1 ++ [Cel.list [.int 0]]).length := by simp; omega
  generalize (H1 ++ [Cel.list [.int 0]] ++ [IL (List.replicate (a.length + b.length - 1) 0)]) = H2 at hp2 hq2 hf2 hH2 ⊢
  generalize (H1 ++ [Cel.list [.int 0]]).length = f at hf2 hf1 ⊢
  have hpf : ∀ {r c}, H[r]? = some c → r ≠ f := fun {r c} hr => by
    rintro rfl; rw [List.getElem?_eq_none hf1] at hr; cases hr
  repeat walk_at "ev"
  refine ST.forEnum (by decide +kernel) gv_enum ?_
  repeat walk_at "ev"
  refine ⟨_, _, rfl, hp2, fun i l h' => ∃ acc o1 o2 o3 o4, l = [some (.ref p), some (.ref q), some (.ref f), o1, o2, o3, o4] ∧ acc.length = a.length + b.length - 1 ∧ lmulK b (a.drop i) i acc = lmul a b ∧ H <+: h' ∧ h'[f]? = some (IL acc), ?_, ?_, ?_, ?_⟩
  · exact ⟨_, _, _, _, _, rfl, by simp, rfl, hH2, hf2⟩
  · rintro i l h' ⟨_, _, _, _, _, _, _, _, hH, _⟩
    exact pre_get hH hp
  · rintro i l h' hi ⟨acc, o1, o2, o3, o4, rfl, hlen, hinv, hH, hf⟩
    rw [List.length_map] at hi
    rw [getD_ints hi]
    refine ⟨_, by walk_at "wrs", ?_⟩
    refine SS.cons (ST.forEnum (by decide +kernel) gv_enum ?_)
    repeat walk_at "ev"
    refine ⟨_, _, rfl, pre_get hH hq, fun j l h' => ∃ o3 o4, l = [some (.ref p), some (.ref q), some (.ref f), some (.int i), some (.int (a.getD i 0)), o3, o4] ∧ H <+: h' ∧ h'[f]? = some (IL (addAt acc i (a.getD i 0) (b.take j))), ?_, ?_, ?_, ?_⟩
    · exact ⟨_, _, rfl, hH, by rw [List.take_zero, addAt_nil]; exact hf⟩
    · rintro j l h' ⟨_, _, _, hH, _⟩
      exact pre_get hH hq
    · rintro j l h' hj ⟨o3, o4, rfl, hH, hf⟩
      rw [List.length_map] at hj
      rw [getD_ints hj]
      have hal := addAt_len acc i (a.getD i 0) (b.take j)
      refine ⟨_, by walk_at "wrs", ?_⟩
      refine SS.cons (ST.setI ?_)
      have eij : (i : Int) + (j : Int) = ((i + j : Nat) : Int) := by omega
      repeat walk_at "ev"
      refine BO.at hf (by omega) (by omega) (by omega) ?_
      repeat walk_at "ev"
      refine BO.mul (hm _ ?_ _ ?_) ?_
      · simp [List.getElem?_eq_getElem hi]
      · simp [List.getElem?_eq_getElem hj]
      repeat walk_at "ev"
      refine SI.ints hf (by omega) (by omega) (by omega) ?_
      rw [eij, show ((i + j : Nat) : Int).toNat = i + j from rfl, addAt_step hj (by omega)]
      repeat walk_at "ev"
      exact ⟨_, _, rfl, pre_set hH hf1, get_set hf⟩
    · rintro l h' ⟨o3, o4, rfl, hH, hf⟩
      repeat walk_at "ev"
      rw [List.length_map, List.take_length] at hf
      refine ⟨_, _, _, _, _, rfl, by rw [addAt_len]; exact hlen, ?_, hH, hf⟩
      rw [← hinv, drop_getD hi, lmulK]
  · rintro l h' ⟨acc, o1, o2, o3, o4, rfl, hlen, hinv, hH, hf⟩
    repeat walk_at "ev"
    rw [List.length_map, List.drop_length, lmulK] at hinv
    rw [hinv] at hf
    exact h _ _ hH hf1 hf
noncomputable def quad (x : Int) : List Int := [x * x + 1, -2 * x, 1]
noncomputable def madeL (c : Int) (rs : List (Int × Int)) : List Int := rs.foldl (fun f r => lmul f [-r.1, r.2]) [c]
noncomputable def madeP (c : Int) (rs : List (Int × Int)) : Option Int → List Int
  | none => madeL c rs
  | some x => lmul (madeL c rs) (quad x)
noncomputable def RootOk (r : Int × Int) : Prop := (r.2 = 1 ∨ (r.2 = 2 ∧ r.1 % 2 = 1)) ∧ -4 ≤ r.1 ∧ r.1 ≤ 4
structure Made (c : Int) (rs : List (Int × Int)) (ax : Option Int) : Prop where
  hc : c = 1 ∨ c = 2 ∨ c = -3
  len : rs.length = 1 ∨ rs.length = 2
  root : ∀ r ∈ rs, RootOk r
  axis : ∀ x, ax = some x → -2 ≤ x ∧ x ≤ 2

inductive RAt (H : MH) : List MV → List (Int × Int) → Prop
  | nil : RAt H [] []
  | cons {i : Nat} {t b : Int} {vs : List MV} {rs : List (Int × Int)} : H[i]? = some (.tup [.int t, .int b]) → RAt H vs rs → RAt H (.ref i :: vs) ((t, b) :: rs)
theorem RAt.mono {H H' : MH} {vs : List MV} {rs : List (Int × Int)} (h : RAt H vs rs) (hk : ∀ (i : Nat) (t b : Int), H[i]? = some (Cel.tup [.int t, .int b]) → H'[i]? = some (Cel.tup [.int t, .int b])) : RAt H' vs rs := by
  induction h with
  | nil => exact .nil
  | cons h1 _ ih => exact .cons (hk _ _ _ h1) ih
theorem RAt.app {H : MH} {vs vs' : List MV} {rs rs' : List (Int × Int)} (h : RAt H vs rs) (h' : RAt H vs' rs') : RAt H (vs ++ vs') (rs ++ rs') := by
  induction h with
  | nil => exact h'
  | cons h1 _ ih => exact .cons h1 ih
theorem RAt.len {H : MH} {vs : List MV} {rs : List (Int × Int)} (h : RAt H vs rs) : vs.length = rs.length := by
  induction h with
  | nil => rfl
  | cons _ _ ih => simp [ih]

noncomputable def Nd (c : Cel) : Prop := ∀ g m, c ≠ .draws g m
theorem Nd.list {vs : List MV} : Nd (.list vs) := fun _ _ e => nomatch e
theorem Nd.il {vs : List Int} : Nd (IL vs) := fun _ _ e => nomatch e
theorem Nd.tup {vs : List MV} : Nd (.tup vs) := fun _ _ e => nomatch e
theorem Kd.fetch {p : Nat} {H₀ H₁ H₂ : MH} (a : Kd p H₀ H₁) (b : Kd p H₁ H₂) {q : Nat} {c : Cel} (hq : H₁[q]? = some c) (hc : Nd c) : H₂[q]? = some c := by
  refine b.keep q c ?_ hq
  rintro rfl
  obtain ⟨g, m, _, _, _, e⟩ := a.dr
  rw [e] at hq
  exact hc g m (Option.some.inj hq).symm
theorem Kd.roots {p : Nat} {H₀ H₁ H₂ : MH} (a : Kd p H₀ H₁) (b : Kd p H₁ H₂) {vs : List MV} {rs : List (Int × Int)} (h : RAt H₁ vs rs) : RAt H₂ vs rs := h.mono fun _ _ _ e => a.fetch b e .tup
theorem Kd.refl {p : Nat} {H₀ H₁ : MH} (a : Kd p H₀ H₁) : Kd p H₁ H₁ := ⟨Nat.le_refl _, fun _ _ _ e => e, a.dr⟩

theorem smallR {a b : Int} (h : b.natAbs < 2 ^ 62) : IntMulOk a b := by
  refine IntMulOk.of_right (Nat.le_trans (intBits_le (k := 62) h) (by decide))
theorem lmul_len (a b : List Int) : (lmul a b).length = a.length + b.length - 1 := by
  have h : ∀ (xs : List Int) (k : Nat) (acc : List Int), (lmulK b xs k acc).length = acc.length := by
    intro xs
    induction xs with
    | nil => intro k acc; rfl
    | cons x xs ih => intro k acc; rw [lmulK, ih, addAt_len]
  rw [lmul, h, List.length_replicate]
theorem madeL_len (c : Int) (rs : List (Int × Int)) : (madeL c rs).length = rs.length + 1 := by
  have h : ∀ (rs : List (Int × Int)) (f : List Int), 1 ≤ f.length → (rs.foldl (fun f r => lmul f [-r.1, r.2]) f).length = rs.length + f.length := by
    intro rs
    induction rs with
    | nil => intro f _; simp
    | cons r rs ih =>
      intro f hf
      have e : (lmul f [-r.1, r.2]).length = f.length + 1 := by rw [lmul_len]; simp
      rw [List.foldl_cons, ih _ (by rw [e]; omega), e, List.length_cons]
      omega
  rw [madeL, h rs [c] (by simp)]; rfl

theorem ST.swap3 {C : Cx} {V : Ev} {D : Dn} {n : Nat} {loc : Locs} {H : MH} {Q : Fl → Locs → MH → Prop} {elts : List Expr} {e1 e2 e3 : Expr} {k k' : Nat} {tpos pos vpos : Pos} {x y z : Str} (hloc : ∀ u ∈ [x, y, z], u ∈ D.ns ∧ u ∉ D.cs)
    (h : EV C V D n e1 loc H fun v1 H₁ => EV C V D n e2 loc H₁ fun v2 H₂ => EV C V D n e3 loc H₂ fun v3 H₃ => ∃ loc', Wrs D.ns loc [z, y, x] [v3, v2, v1] loc' ∧ Q .next loc' (H₃ ++ [.tup [v1, v2, v3]]))
    (hw : ∀ env : Env, env.scope.kind = .function → (∀ u ∈ [x, y, z], env.kindOf u = some .local) → swappedStores [.Tuple elts k tpos] (.Tuple [e1, e2, e3] k' vpos) env = pure (some [x, y, z]))
    (hs : ∀ env, swapsWithSole [.Tuple elts k tpos] (.Tuple [e1, e2, e3] k' vpos) pos.line env = pure false := by intro _; rfl)
    (he1 : ∀ env, starEach [e1, e2, e3] env = (false, eval e1 env) :: starEach [e2, e3] env := by intro _; rfl) (he2 : ∀ env, starEach [e2, e3] env = (false, eval e2 env) :: starEach [e3] env := by intro _; rfl) (he3 : ∀ env, starEach [e3] env = (false, eval e3 env) :: starEach [] env := by intro _; rfl) :
    ST C V D n (.Assign [.Tuple elts k tpos] (.Tuple [e1, e2, e3] k' vpos) pos) loc H Q :=
  ST.swapT (xs := [x, y, z]) hloc (EVs.cons (h.mono fun v1 H₁ h₁ => EVs.cons (h₁.mono fun v2 H₂ h₂ => EVs.cons (h₂.mono fun v3 H₃ h₃ => EVs.nil ⟨rfl, (show 3 ≤ sizeLine from by decide), h₃⟩) he3) he2) he1) hw hs

theorem law_made_ok {n : Nat} {p : Nat} {H₀ H : MH} {Q : MV → MH → Prop} (hd : Kd p H₀ H)
    (h : ∀ H' r f sr vs c rs ax, Kd p H₀ H' → Kd p H H' → Made c rs ax → H'[r]? = some (.tup [.ref f, .ref sr, match ax with | none => .none | some x => .int x]) → H'[f]? = some (IL (madeP c rs ax)) → H'[sr]? = some (.list vs) → RAt H' vs rs → Q (.ref r) H') :
    FN (CX w sa sn) (.ref 198) (n + 2) [.ref p] H Q := by
  have hL : (2 : Nat) ^ 24 = sizeLine := by decide
  refine FN.enter (D := ⟨["draws", "found", "some_roots", "axis", "turn", "top", "bottom"], [], ["range", "_law_take", "_law_mul"]⟩) (ps := ["draws"]) (loc := [some (.ref p), none, none, none, none, none, none]) (by rfl) rfl rfl (by kernel_rfl) (by decide +kernel) (fun rvs h => by match rvs, h with | [x], _ => rfl) rfl (fun i v h => locOf_get (k := 6) h) (fun V => ?_)
  refine SS.cons ?_
  with_reducible refine ST.swap3 (x := "found") (y := "some_roots") (z := "axis") ?a ?b ?c ?d ?e ?f ?g
  case a => decide +kernel
  case d => intro _; rfl
  case e => intro _; rfl
  case f => intro _; rfl
  case g => intro _; rfl
  case c =>
    intro env hk hl
    refine sw_yes rfl rfl hk (by rfl) (fun f q => ?_) rfl (by decide +kernel) (by rfl) (by rfl)
    refine (List.filterMap_cons_some (q _ _ (hl _ (by simp)) (by rfl))).trans (congrArg (List.cons _) ?_)
    refine (List.filterMap_cons_some (q _ _ (hl _ (by simp)) (by rfl))).trans (congrArg (List.cons _) ?_)
    refine (List.filterMap_cons_some (q _ _ (hl _ (by simp)) (by rfl))).trans (congrArg (List.cons _) ?_)
    rfl
  repeat walk_at "ev"
  refine ⟨(show 3 ≤ sizeLine from by decide), ?_⟩
  repeat walk_at "ev"
  refine take_ok (H₀ := H) (hd.refl.pre (pre_new (List.prefix_refl _))) (by decide) (by decide) fun r H1 r0 r1 hd1 hk1 => ?_
  have hc : ∃ c : Int, (c = 1 ∨ c = 2 ∨ c = -3) ∧ ([MV.int 1, .int 2, .int (-3)] : List MV)[r.toNat]? = some (.int c) := by
    have : r = 0 ∨ r = 1 ∨ r = 2 := by omega
    rcases this with rfl | rfl | rfl
    · exact ⟨1, .inl rfl, rfl⟩
    · exact ⟨2, .inr (.inl rfl), rfl⟩
    · exact ⟨-3, .inr (.inr rfl), rfl⟩
  obtain ⟨c, hc, hc2⟩ := hc
  refine BO.item ((hd.refl.pre (pre_new (List.prefix_refl _))).fetch hk1 get_new .list) r0 (by omega) hc2 ?_
  repeat walk_at "ev"
  refine ⟨(show 1 ≤ sizeLine from by decide), ?_⟩
  repeat walk_at "ev"
  refine ⟨(show 0 ≤ sizeLine from by decide), ?_⟩
  have ec : Cel.list [.int c] = IL (madeL c []) := rfl
  rw [ec]
  repeat walk_at "ev"
  refine ST.for_ (by decide +kernel) ?_
  have hdp : p < H.length := by
    obtain ⟨g, m, _, _, _, e⟩ := hd.dr
    rcases Nat.lt_or_ge p H.length with q | q
    · exact q
    · rw [List.getElem?_eq_none q] at e; cases e
  have hl1 := hd1.len
  have hd2 := hd1.pre (pre_new (d := Cel.tup [.ref H1.length, .ref (H1 ++ [IL (madeL c [])]).length, .none]) (pre_new (d := .list []) (pre_new (d := IL (madeL c [])) (List.prefix_refl H1))))
  have hf2 : (H1 ++ [IL (madeL c [])] ++ [Cel.list []] ++ [Cel.tup [.ref H1.length, .ref (H1 ++ [IL (madeL c [])]).length, .none]])[H1.length]? = some (IL (madeL c [])) := get_old (get_old get_new)
  have hs2 : (H1 ++ [IL (madeL c [])] ++ [Cel.list []] ++ [Cel.tup [.ref H1.length, .ref (H1 ++ [IL (madeL c [])]).length, .none]])[(H1 ++ [IL (madeL c [])]).length]? = some (Cel.list []) := get_old get_new
  have hsr : H.length ≤ (H1 ++ [IL (madeL c [])]).length := by simp; omega
  generalize (H1 ++ [IL (madeL c [])] ++ [Cel.list []] ++ [Cel.tup [.ref H1.length, .ref (H1 ++ [IL (madeL c [])]).length, .none]]) = H2 at hd2 hf2 hs2 ⊢
  generalize (H1 ++ [IL (madeL c [])]).length = sr at hs2 hsr ⊢
  generalize H1.length = f at hf2 ⊢
  have hsp : sr ≠ p := by omega
  repeat walk_at "ev"
  refine take_ok (H₀ := H) hd2 (by decide) (by decide) fun r H3 r0 r1 hd3 hk3 => ?_
  repeat walk_at "ev"
  have er : 1 + r = ((1 + r.toNat : Nat) : Int) := by omega
  rw [er]
  refine ⟨_, _, _, Iter.upto (a := 1 + r.toNat) get_new (by omega), fun i l h' => ∃ f vs rs o1 o2 o3, l = [some (.ref p), some (.ref f), some (.ref sr), some .none, o1, o2, o3] ∧ h'[f]? = some (IL (madeL c rs)) ∧ h'[sr]? = some (.list vs) ∧ RAt h' vs rs ∧ rs.length = i ∧ (∀ r ∈ rs, RootOk r) ∧ Kd p H h', ?_, fun _ _ _ _ => trivial, ?_, ?_⟩
  · exact ⟨f, [], [], _, _, _, rfl, get_old (hd2.fetch hk3 hf2 .il), get_old (hd2.fetch hk3 hs2 .list), .nil, rfl, by simp, hd3.pre (pre_new (List.prefix_refl _))⟩
  · rintro i l h' hi ⟨f, vs, rs, o1, o2, o3, rfl, hf, hs, hra, hlen, hroot, hd4⟩
    refine ⟨_, by walk_at "wr", ?_⟩
    repeat walk_at "ev"
    refine take_ok (H₀ := H) hd4 (by decide) (by decide) fun t H5 t0 t1 hd5 hk5 => ?_
    repeat walk_at "ev"
    refine take_ok (H₀ := H) hd5 (by decide) (by decide) fun u H6 u0 u1 hd6 hk6 => ?_
    have hf6 := get_old (d := .tup [.int (t - 4), .int (1 + u)]) (hd5.fetch hk6 (hd4.fetch hk5 hf .il) .il)
    have hs6 := get_old (d := .tup [.int (t - 4), .int (1 + u)]) (hd5.fetch hk6 (hd4.fetch hk5 hs .list) .list)
    have hk6' := hk6.pre (pre_new (d := .tup [.int (t - 4), .int (1 + u)]) (List.prefix_refl _))
    have hra6 := hd5.roots hk6' (hd4.roots hk5 hra)
    have hd6' := hd6.pre (pre_new (d := .tup [.int (t - 4), .int (1 + u)]) (List.prefix_refl _))
    walk_at "ev"
    walk_at "ev"
    walk_at "ev"
    generalize H6 ++ [Cel.tup [.int (t - 4), .int (1 + u)]] = H7 at hf6 hs6 hra6 hd6' ⊢
    refine SS.cons (ST.mono (Q' := fun f' l h'' => ∃ tt bb, f' = .next ∧ l = [some (.ref p), some (.ref f), some (.ref sr), some .none, some (.int i), some (.int tt), some (.int bb)] ∧ H7 <+: h'' ∧ RootOk (tt, bb)) ?_ ?_)
    · refine ST.ite (TT.and ?_)
      repeat walk_at "ev"
      have hu : u = 0 ∨ u = 1 := by omega
      rcases hu with rfl | rfl
      · rw [if_neg (by decide), if_neg (by decide)]
        repeat walk_at "ev"
        exact ⟨_, _, rfl, rfl, List.prefix_refl _, .inl rfl, show -4 ≤ t - 4 by omega, show t - 4 ≤ 4 by omega⟩
      · rw [if_pos (by decide)]
        refine TT.and ?_
        repeat walk_at "ev"
        refine BO.modP (by decide) ?_
        repeat walk_at "ev"
        have em : (t - 4).fmod 2 = (t - 4) % 2 := Int.fmod_eq_emod_of_nonneg _ (by decide)
        by_cases hq : (t - 4).fmod 2 = 0
        · rw [if_pos (by rw [hq]; rfl)]
          refine TT.and0 ?_
          rw [if_pos rfl]
          repeat walk_at "ev"
          refine BO.fdiv (by decide) (by decide) ?_
          repeat walk_at "ev"
          have ed : (t - 4).fdiv 2 = (t - 4) / 2 := Int.fdiv_eq_ediv_of_nonneg _ (by decide)
          rw [em] at hq
          refine ⟨_, _, rfl, rfl, pre_new (List.prefix_refl _), .inl rfl, ?_, ?_⟩
          · show -4 ≤ (t - 4).fdiv 2
            omega
          · show (t - 4).fdiv 2 ≤ 4
            omega
        · rw [if_neg (by simpa using hq), if_neg (by decide)]
          repeat walk_at "ev"
          rw [em] at hq
          refine ⟨_, _, rfl, rfl, List.prefix_refl _, .inr ⟨rfl, ?_⟩, show -4 ≤ t - 4 by omega, show t - 4 ≤ 4 by omega⟩
          show (t - 4) % 2 = 1
          omega
    · rintro f' l h'' ⟨tt, bb, rfl, rfl, hH, hro⟩
      repeat walk_at "ev"
      refine ⟨(show 2 ≤ sizeLine from by decide), ?_⟩
      have hbb : bb = 1 ∨ bb = 2 := by
        rcases hro.1 with q | q
        · exact .inl q
        · exact .inr q.1
      have ht1 : -4 ≤ tt := hro.2.1
      have ht2 : tt ≤ 4 := hro.2.2
      have hil : i ≤ 2 := by omega
      have hml := madeL_len c rs
      have el : Cel.list [.int (-tt), .int bb] = IL [-tt, bb] := rfl
      rw [el]
      repeat walk_at "ev"
      refine law_mul_ok (get_old (pre_get hH hf6)) get_new (by omega) (show 2 ≤ 2 ^ 10 by decide) (by omega) (show 1 ≤ 2 by decide) (fun x _ y hy => smallR ?_) fun H8 r8 g1 g2 g3 => ?_
      · simp at hy
        rcases hy with rfl | rfl
        · omega
        · omega
      have hall : H7 <+: H8 := hH.trans ((pre_new (List.prefix_refl _)).trans g1)
      have hs8 := pre_get hall hs6
      have hd8 := hd6'.pre hall
      have hra8 : RAt H8 vs rs := hra6.mono fun _ _ _ e => pre_get hall e
      repeat walk_at "ev"
      refine ST.expr (EV.append (by walk_at "rd") ?_ hs8)
      repeat walk_at "ev"
      refine ⟨(show 2 ≤ sizeLine from by decide), vs, get_old hs8, by rw [hra.len]; omega, rfl, ?_⟩
      have hsp8 : sr ≠ H8.length := by
        rintro rfl; simp at hs8
      have hnf : r8 ≠ sr := by
        have := hall.length_le
        have : sr < H7.length := by
          rcases Nat.lt_or_ge sr H7.length with q | q
          · exact q
          · rw [List.getElem?_eq_none q] at hs6; cases hs6
        have := hH.length_le
        simp at g2
        omega
      repeat walk_at "ev"
      refine ⟨r8, vs ++ [.ref H8.length], rs ++ [(tt, bb)], _, _, _, rfl, ?_, get_set (get_old hs8), ?_, by simp; omega, ?_, (hd8.pre (pre_new (List.prefix_refl _))).upd hsr hsp⟩
      · have e : madeL c (rs ++ [(tt, bb)]) = lmul (madeL c rs) [-tt, bb] := by rw [madeL, List.foldl_append]; rfl
        rw [e]
        exact get_set_ne (get_old g3) (Ne.symm hnf)
      · refine RAt.app (hra8.mono fun j t' b' e => ?_) (.cons ?_ .nil)
        · refine get_set_ne (get_old e) ?_
          rintro rfl; rw [hs8] at e; cases e
        · exact get_set_ne get_new hsp8
      · intro q hq
        rcases List.mem_append.mp hq with q1 | q1
        · exact hroot q q1
        · rw [List.mem_singleton.mp q1]; exact hro
  · rintro l h' ⟨f, vs, rs, o1, o2, o3, rfl, hf, hs, hra, hlen, hroot, hd4⟩
    have hrl : rs.length = 1 ∨ rs.length = 2 := by omega
    have hml := madeL_len c rs
    repeat walk_at "ev"
    refine take_ok (H₀ := H) hd4 (by decide) (by decide) fun t H5 t0 t1 hd5 hk5 => ?_
    have hf5 := hd4.fetch hk5 hf .il
    have hs5 := hd4.fetch hk5 hs .list
    have hra5 := hd4.roots hk5 hra
    have comb : ∀ {H9 : MH}, Kd p H H9 → Kd p H₀ H9 := fun k => hd.trans k
    repeat walk_at "ev"
    by_cases ht : t = 0
    · rw [if_pos (by rw [ht]; rfl)]
      repeat walk_at "ev"
      refine take_ok (H₀ := H) hd5 (by decide) (by decide) fun x H6 x0 x1 hd6 hk6 => ?_
      have hf6 := hd5.fetch hk6 hf5 .il
      have hs6 := hd5.fetch hk6 hs5 .list
      have hra6 := hd5.roots hk6 hra5
      repeat walk_at "ev"
      refine BO.mul (mul_small (by omega)) ?_
      repeat walk_at "ev"
      refine BO.mul (mul_small (by decide)) ?_
      repeat walk_at "ev"
      refine ⟨(show 3 ≤ sizeLine from by decide), ?_⟩
      have el : Cel.list [.int ((x - 2) * (x - 2) + 1), .int (-2 * (x - 2)), .int 1] = IL (quad (x - 2)) := rfl
      rw [el]
      repeat walk_at "ev"
      have hqd : ∀ y ∈ quad (x - 2), y.natAbs < 2 ^ 62 := by
        have hx : x = 0 ∨ x = 1 ∨ x = 2 ∨ x = 3 ∨ x = 4 := by omega
        rcases hx with rfl | rfl | rfl | rfl | rfl <;> decide
      refine law_mul_ok (get_old hf6) get_new (by omega) (show 3 ≤ 2 ^ 10 by decide) (by omega) (show 1 ≤ 3 by decide) (fun x _ y hy => smallR (hqd y hy)) fun H8 r8 g1 g2 g3 => ?_
      have hall : H6 <+: H8 := (pre_new (List.prefix_refl _)).trans g1
      have hd8 := hd6.pre hall
      repeat walk_at "ev"
      refine ⟨(show 3 ≤ sizeLine from by decide), ?_⟩
      exact h _ _ _ _ _ c rs (some (x - 2)) ((comb hd8).pre (pre_new (List.prefix_refl _))) (hd8.pre (pre_new (List.prefix_refl _))) ⟨hc, hrl, hroot, fun y e => by cases e; omega⟩ get_new (get_old g3) (get_old (pre_get hall hs6)) (hra6.mono fun _ _ _ e => get_old (pre_get hall e))
    · rw [if_neg (by simpa using ht)]
      repeat walk_at "ev"
      refine ⟨(show 3 ≤ sizeLine from by decide), ?_⟩
      exact h _ _ _ _ _ c rs none ((comb hd5).pre (pre_new (List.prefix_refl _))) (hd5.pre (pre_new (List.prefix_refl _))) ⟨hc, hrl, hroot, fun y e => by cases e⟩ get_new (get_old hf5) (get_old hs5) (hra5.mono fun _ _ _ e => get_old e)
noncomputable def gapsOf (rs1 rs2 : List (Int × Int)) : List (Int × Int) := rs1.flatMap fun one => rs2.map fun other => (other.1 * one.2 - one.1 * other.2, one.2 * other.2)
noncomputable def dueOf (gs : List (Int × Int)) : List Int := (gs.filter fun g => g.1.fmod g.2 == 0 && decide (g.1 ≥ 0)).map fun g => g.1.fdiv g.2
noncomputable def axDue : Option Int → Option Int → List Int
  | some x, some y => if y - x ≥ 0 then [y - x] else []
  | _, _ => []
noncomputable def pick (k : Nat) (xs : List Int) : List Int := ((List.range k).filter fun (h : Nat) => xs.any (· == (h : Int))).map fun (h : Nat) => (h : Int)
noncomputable def prodAt (ps : List Int) (n : Nat) : Int := ps.foldl (fun v p => v * ((n : Int) - p)) 1

noncomputable def MathA : Prop := ∀ (c1 : Int) (rs1 : List (Int × Int)) (ax1 : Option Int) (c2 : Int) (rs2 : List (Int × Int)) (ax2 : Option Int), Made c1 rs1 ax1 → Made c2 rs2 ax2 →
  ∃ F : Nat → Int, Ok (madeP c1 rs1 ax1) ∧ Ok (madeP c2 rs2 ax2) ∧ 2 ≤ (madeP c1 rs1 ax1).length ∧ 2 ≤ (madeP c2 rs2 ax2).length ∧ lead (madeP c1 rs1 ax1) ≠ 0 ∧ lead (madeP c2 rs2 ax2) ≠ 0 ∧
    ((madeP c1 rs1 ax1).length - 1) * ((madeP c2 rs2 ax2).length - 1) ≤ 1000 ∧ rootB (madeP c1 rs1 ax1) + rootB (madeP c2 rs2 ax2) ≤ 2 ^ 20 ∧
    (∀ h, h ≤ ((madeP c1 rs1 ax1).length - 1) * ((madeP c2 rs2 ax2).length - 1) → Res (madeP c1 rs1 ax1) (shift h ((madeP c2 rs2 ax2).length - 1) (madeP c2 rs2 ax2)) (F h)) ∧
    zeros (firsts (((madeP c1 rs1 ax1).length - 1) * ((madeP c2 rs2 ax2).length - 1) + 1) ((List.range (((madeP c1 rs1 ax1).length - 1) * ((madeP c2 rs2 ax2).length - 1) + 1)).map F)) (rootB (madeP c1 rs1 ax1) + rootB (madeP c2 rs2 ax2) + 1) =
      pick 40 (dueOf (gapsOf rs1 rs2) ++ axDue ax1 ax2)
noncomputable def MathB : Prop := ∀ ps : List Int, 1 ≤ ps.length → ps.length ≤ 3 → (∀ p ∈ ps, 0 ≤ p ∧ p < 9) →
  lead (firsts (ps.length + 2) ((List.range (ps.length + 2)).map (prodAt ps))) = 0 ∧
  (firsts (ps.length + 2) ((List.range (ps.length + 2)).map (prodAt ps))).getD 0 0 = ((List.range (ps.length + 2)).map (prodAt ps)).getD 0 0 ∧
  (firsts (ps.length + 2) ((List.range (ps.length + 2)).map (prodAt ps))).getD 1 0 = ((List.range (ps.length + 2)).map (prodAt ps)).getD 1 0 - ((List.range (ps.length + 2)).map (prodAt ps)).getD 0 0 ∧
  zeros (firsts (ps.length + 2) ((List.range (ps.length + 2)).map (prodAt ps))) 13 = pick 13 ps

theorem RAt.get {H : MH} {vs : List MV} {rs : List (Int × Int)} (h : RAt H vs rs) : ∀ {i : Nat}, i < rs.length → ∃ j : Nat, vs.getD i .none = .ref j ∧ H[j]? = some (.tup [.int (rs.getD i (0, 0)).1, .int (rs.getD i (0, 0)).2]) := by
  induction h with
  | nil => intro i hi; simp at hi
  | @cons j t b vs rs h1 _ ih =>
    intro i hi
    cases i with
    | zero => exact ⟨j, rfl, h1⟩
    | succ i => exact ih (by simpa using hi)
theorem getD_mem {rs : List (Int × Int)} {i : Nat} (h : i < rs.length) : rs.getD i (0, 0) ∈ rs := by
  rw [List.getD_eq_getElem?_getD, List.getElem?_eq_getElem h]; exact List.getElem_mem h
theorem take_getP {xs : List (Int × Int)} {i : Nat} (h : i < xs.length) : xs.take (i + 1) = xs.take i ++ [xs.getD i (0, 0)] := by
  rw [List.take_add_one]; simp [List.getElem?_eq_getElem h]
theorem RootOk.small {r : Int × Int} (h : RootOk r) : r.1.natAbs ≤ 4 ∧ r.2.natAbs ≤ 2 ∧ 1 ≤ r.2 := by
  obtain ⟨h1, h2, h3⟩ := h
  rcases h1 with q | q
  · omega
  · omega

theorem gaps_pos {rs1 rs2 : List (Int × Int)} (h1 : ∀ r ∈ rs1, RootOk r) (h2 : ∀ r ∈ rs2, RootOk r) : ∀ g ∈ gapsOf rs1 rs2, 1 ≤ g.2 ∧ g.2 ≤ 4 := by
  intro g hg
  obtain ⟨a, ha, hg⟩ := List.mem_flatMap.mp hg
  obtain ⟨b, hb, rfl⟩ := List.mem_map.mp hg
  have h1 := h1 a ha
  have h2 := h2 b hb
  have p1 : a.2 = 1 ∨ a.2 = 2 := by rcases h1.1 with q | q; exact .inl q; exact .inr q.1
  have p2 : b.2 = 1 ∨ b.2 = 2 := by rcases h2.1 with q | q; exact .inl q; exact .inr q.1
  show 1 ≤ a.2 * b.2 ∧ a.2 * b.2 ≤ 4
  rcases p1 with p1 | p1 <;> rcases p2 with p2 | p2 <;> rw [p1, p2] <;> decide
theorem dueOf_take {gs : List (Int × Int)} {i : Nat} (h : i < gs.length) : dueOf (gs.take (i + 1)) = if (gs.getD i (0, 0)).1.fmod (gs.getD i (0, 0)).2 = 0 ∧ (gs.getD i (0, 0)).1 ≥ 0 then dueOf (gs.take i) ++ [(gs.getD i (0, 0)).1.fdiv (gs.getD i (0, 0)).2] else dueOf (gs.take i) := by
  rw [take_getP h, dueOf, List.filter_append, List.map_append]
  by_cases q : (gs.getD i (0, 0)).1.fmod (gs.getD i (0, 0)).2 = 0 ∧ (gs.getD i (0, 0)).1 ≥ 0
  · rw [if_pos q, List.filter_cons, if_pos (by simp only [Bool.and_eq_true, beq_iff_eq, decide_eq_true_eq]; exact q)]; rfl
  · rw [if_neg q, List.filter_cons, if_neg (by simp only [Bool.and_eq_true, beq_iff_eq, decide_eq_true_eq]; exact q)]
    simp [dueOf]
theorem pick_succ (k : Nat) (xs : List Int) : pick (k + 1) xs = if xs.any (· == (k : Int)) = true then pick k xs ++ [(k : Int)] else pick k xs := by
  rw [pick, List.range_succ, List.filter_append, List.map_append]
  by_cases q : xs.any (· == (k : Int)) = true
  · rw [if_pos q, List.filter_cons, if_pos q]; rfl
  · rw [if_neg q, List.filter_cons, if_neg q]; simp [pick]
theorem pick_len (k : Nat) (xs : List Int) : (pick k xs).length ≤ k := by
  rw [pick, List.length_map]
  have := List.length_filter_le (fun (h : Nat) => xs.any (· == (h : Int))) (List.range k)
  rw [List.length_range] at this
  exact this
noncomputable def axV : Option Int → MV
  | none => .none
  | some x => .int x

theorem law_ok (MA : MathA) (MB : MathB) (hsn : sn.length ≤ sizeLine) {n : Nat} : FN (CX w sa sn) (.ref 203) (n + 10) [.ext sa] [] (fun v _ => v = .bool true) := by
  have hL : (2 : Nat) ^ 24 = sizeLine := by decide
  refine FN.enter (D := ⟨["script", "draws", "a", "ours", "here", "b", "theirs", "there", "gaps", "due", "places", "numbers", "n", "value", "place", "row"], ["draws", "theirs", "due", "places"], ["_law_draws", "_law_made", "_law_take", "dispersions", "first_differences", "zeros_on", "range", "len"]⟩) (ps := ["script"])
    (loc := [some (.ext sa), none, none, none, none, none, none, none, none, none, none, none, none, none, none, none]) (by rfl) rfl rfl (by kernel_rfl) (by decide +kernel) (fun rvs h => by match rvs, h with | [x], _ => rfl) rfl (fun i v h => locOf_get (k := 15) h) (fun V => ?_)
  repeat walk_at "ev"
  refine law_draws_ok hsn fun H1 p g m e1 e2 e3 e4 e5 e6 => ?_
  have hd1 : Kd p H1 H1 := ⟨Nat.le_refl _, fun _ _ _ e => e, g, m, e3, e4, e5, e6⟩
  repeat walk_at "ev"
  refine ST.tup (xs := ["a", "ours", "here"]) (by walk_at "an") ?_ (by intro _; rfl)
  repeat walk_at "ev"
  refine law_made_ok (H₀ := H1) hd1 fun H2 r2 f2 sr2 vs2 c2 rs2 ax2 k2 k2' m2 t2 l2 s2 ra2 => ⟨r2, _, _, rfl, t2, rfl, by walk_at "wrs", ?_⟩
  repeat walk_at "ev"
  refine ST.tup (xs := ["b", "theirs", "there"]) (by walk_at "an") ?_ (by intro _; rfl)
  repeat walk_at "ev"
  refine law_made_ok (H₀ := H1) k2 fun H3 r3 f3 sr3 vs3 c3 rs3 ax3 k3 k3' m3 t3 l3 s3 ra3 => ⟨r3, _, _, rfl, t3, rfl, by walk_at "wrs", ?_⟩
  have l2 := k2.fetch k3' l2 .il
  have s2 := k2.fetch k3' s2 .list
  have ra2 := k2.roots k3' ra2
  repeat walk_at "ev"
  refine ST.asgComp2 ⟨["one", "other", "theirs"], ["theirs"], []⟩ [none, none, some (.ref sr3)] (by decide +kernel) (by decide +kernel) (by decide +kernel) (cap_of (by walk_at "cap")) (by decide +kernel) ?_ (fun env hk hc => swapC hk hc rfl (by decide +kernel))
  repeat walk_at "ev"
  have hv2 := ra2.len
  have hv3 := ra3.len
  have hr2 := m2.len
  have hr3 := m3.len
  refine ⟨_, _, _, Iter.list s2, fun i acc h' => RAt h' acc (gapsOf (rs2.take i) rs3) ∧ acc.length ≤ 2 * i ∧ H3 <+: h', ⟨.nil, Nat.zero_le _, List.prefix_refl _⟩, fun i acc h' q => pre_get q.2.2 s2, ?_, ?_⟩
  · rintro V' i acc H' hi ⟨hra, hal, hH⟩
    rw [hv2] at hi
    obtain ⟨j1, ej1, hj1⟩ := ra2.get hi
    rw [ej1]
    refine ⟨_, by walk_at "wr", ?_, ?_⟩
    · intro q hq
      match q, hq with
      | 0, hq => exact absurd hq (by decide)
      | 1, _ => rfl
      | 2, hq => exact absurd hq (by decide)
      | q + 3, hq => simp at hq
    show EV _ V' _ _ _ _ _ _
    repeat walk_at "ev"
    obtain ⟨o1, o2, o3⟩ := (m2.root _ (getD_mem hi)).small
    refine ⟨_, _, _, Iter.list (pre_get hH s3), fun j acc h' => RAt h' acc (gapsOf (rs2.take i) rs3 ++ (rs3.take j).map fun other => (other.1 * (rs2.getD i (0, 0)).2 - (rs2.getD i (0, 0)).1 * other.2, (rs2.getD i (0, 0)).2 * other.2)) ∧ acc.length ≤ 2 * i + j ∧ j ≤ 2 ∧ H3 <+: h', ⟨by simpa using hra, by omega, by omega, hH⟩, fun j acc h' q => pre_get q.2.2.2 s3, fun j acc h' q => by omega, ?_, ?_⟩
    · rintro j acc h' hj ⟨hra, hal, hj2, hH⟩
      rw [hv3] at hj
      obtain ⟨j2, ej2, hj2'⟩ := ra3.get hj
      rw [ej2]
      obtain ⟨p1, p2, p3⟩ := (m3.root _ (getD_mem hj)).small
      have g1 := pre_get hH hj1
      have g2 := pre_get hH hj2'
      refine ⟨_, by walk_at "wr", ?_⟩
      show EV _ V' _ _ _ _ _ _
      repeat walk_at "ev"
      refine BO.itemT (k := 0) g2 (by decide) rfl ?_
      repeat walk_at "ev"
      refine BO.itemT (k := 1) g1 (by decide) rfl ?_
      refine BO.mul (mul_small (by omega)) ?_
      repeat walk_at "ev"
      refine BO.itemT (k := 0) g1 (by decide) rfl ?_
      repeat walk_at "ev"
      refine BO.itemT (k := 1) g2 (by decide) rfl ?_
      refine BO.mul (mul_small (by omega)) ?_
      repeat walk_at "ev"
      refine BO.itemT (k := 1) g1 (by decide) rfl ?_
      repeat walk_at "ev"
      refine BO.itemT (k := 1) g2 (by decide) rfl ?_
      refine BO.mul (mul_small (by omega)) ?_
      repeat walk_at "ev"
      refine ⟨(show 2 ≤ sizeLine from by decide), ?_, by simp; omega, by omega, pre_new hH⟩
      rw [take_getP hj, List.map_append, ← List.append_assoc]
      exact RAt.app (hra.mono fun _ _ _ e => get_old e) (.cons get_new .nil)
    · rintro acc h' ⟨hra, hal, hj2, hH⟩
      refine ⟨?_, by omega, hH⟩
      rw [hv3, List.take_length] at hra
      rw [take_getP hi, gapsOf, List.flatMap_append]
      simpa [gapsOf] using hra
  rintro acc h' ⟨rag, hal, hH⟩
  rw [hv2, List.take_length] at rag
  refine ⟨_, by walk_at "wr", ?_⟩
  have hd4 := (k3.pre hH).pre (pre_new (d := .list acc) (List.prefix_refl _))
  have sg4 : (h' ++ [Cel.list acc])[h'.length]? = some (.list acc) := get_new
  have rag4 : RAt (h' ++ [Cel.list acc]) acc (gapsOf rs2 rs3) := rag.mono fun _ _ _ e => get_old e
  have l2 := get_old (d := .list acc) (pre_get hH l2)
  have l3 := get_old (d := .list acc) (pre_get hH l3)
  show Then _ _ _ _ _ _ _ _ (h' ++ [Cel.list acc])
  have hal4 : acc.length ≤ 4 := by omega
  generalize h' ++ [Cel.list acc] = H4 at hd4 sg4 rag4 l2 l3 ⊢
  generalize h'.length = sg at sg4 ⊢
  clear hH hal rag s2 s3 ra2 ra3
  refine Then.go (SS.cons (ST.asgC (by decide +kernel) ?_ fun env _ hc => noSwapC hc))
  refine EV.comp ⟨["gap"], [], []⟩ [none] (by decide +kernel) (by decide +kernel) (cap_of (by walk_at "cap")) ?_
  repeat walk_at "ev"
  have hgp := gaps_pos m2.root m3.root
  have hgl := rag4.len
  have hdl : ∀ i, (dueOf ((gapsOf rs2 rs3).take i)).length ≤ i := fun i => by
    rw [dueOf, List.length_map]
    refine Nat.le_trans (List.length_filter_le _ _) ?_
    rw [List.length_take]; exact Nat.min_le_left _ _
  refine ⟨_, _, _, Iter.list sg4, fun i acc h' => acc = (dueOf ((gapsOf rs2 rs3).take i)).map .int ∧ i ≤ 4 ∧ H4 <+: h', ⟨rfl, Nat.zero_le _, List.prefix_refl _⟩, fun i acc h' q => pre_get q.2.2 sg4, fun i acc h' q => ?_, ?_, ?_⟩
  · have := hdl i
    rw [q.1, List.length_map]; omega
  · rintro V' i acc' H' hi ⟨rfl, hi4, hH⟩
    rw [hgl] at hi
    obtain ⟨j, ej, hj⟩ := rag4.get hi
    rw [ej]
    have hj' := pre_get hH hj
    have hgi := hgp _ (getD_mem hi)
    have hdt := dueOf_take hi
    generalize (gapsOf rs2 rs3).getD i (0, 0) = gp at hj' hgi hdt
    refine ⟨_, by walk_at "wr", ?_⟩
    refine TT.and (V := V') ?_
    repeat walk_at "ev"
    refine BO.itemT (k := 0) hj' (by decide) rfl ?_
    repeat walk_at "ev"
    refine BO.itemT (k := 1) hj' (by decide) rfl ?_
    refine BO.modP (by omega) ?_
    repeat walk_at "ev"
    by_cases q1 : gp.1.fmod gp.2 = 0
    · rw [if_pos (by rw [q1]; rfl)]
      refine TT.and ?_
      repeat walk_at "ev"
      refine BO.itemT (k := 0) hj' (by decide) rfl ?_
      repeat walk_at "ev"
      by_cases q2 : gp.1 ≥ 0
      · rw [if_pos (decide_eq_true q2)]
        refine TT.and0 ?_
        rw [if_pos rfl]
        repeat walk_at "ev"
        refine BO.itemT (k := 0) hj' (by decide) rfl ?_
        repeat walk_at "ev"
        refine BO.itemT (k := 1) hj' (by decide) rfl ?_
        refine BO.fdiv (by omega) (log2_ok (Nat.lt_trans (show gp.2.natAbs < 2 ^ 60 by omega) (by decide))) ?_
        refine ⟨?_, by omega, hH⟩
        rw [hdt, if_pos ⟨q1, q2⟩, List.map_append]; rfl
      · rw [if_neg (by simpa using q2), if_neg (by decide)]
        exact ⟨by rw [hdt, if_neg fun q => q2 q.2], by omega, hH⟩
    · rw [if_neg (by simpa using q1), if_neg (by decide)]
      exact ⟨by rw [hdt, if_neg fun q => q1 q.1], by omega, hH⟩
  rintro acc' h' ⟨rfl, _, hH⟩
  rw [hgl, List.take_length]
  have hdl4 : (dueOf (gapsOf rs2 rs3)).length ≤ 4 := by
    have := hdl 4
    rw [List.take_of_length_le (by omega)] at this
    exact this
  have hd5 := hd4.pre (hH.trans (pre_new (d := IL (dueOf (gapsOf rs2 rs3))) (List.prefix_refl _)))
  have l2' := l2
  have l3' := l3
  have l2 := get_old (d := IL (dueOf (gapsOf rs2 rs3))) (pre_get hH l2)
  have l3 := get_old (d := IL (dueOf (gapsOf rs2 rs3))) (pre_get hH l3)
  have sd5 : (h' ++ [IL (dueOf (gapsOf rs2 rs3))])[h'.length]? = some (IL (dueOf (gapsOf rs2 rs3))) := get_new
  have hH14 := hd4.len
  have hHl := hH.length_le
  have hpl : p < H1.length := by
    rcases Nat.lt_or_ge p H1.length with q | q
    · exact q
    · rw [List.getElem?_eq_none q] at e6; cases e6
  have hsd : H1.length ≤ h'.length := by omega
  have hf2d : f2 ≠ h'.length := ne_len (pre_get hH l2')
  have hf3d : f3 ≠ h'.length := ne_len (pre_get hH l3')
  refine ⟨_, by walk_at "wr", ?_⟩
  show Then _ _ _ _ _ _ _ _ (h' ++ [IL (dueOf (gapsOf rs2 rs3))])
  generalize h' ++ [IL (dueOf (gapsOf rs2 rs3))] = H5 at hd5 l2 l3 sd5 ⊢
  generalize h'.length = sd at sd5 hf2d hf3d hsd ⊢
  have hax : ∀ x, ax2 = some x → -2 ≤ x ∧ x ≤ 2 := m2.axis
  have hay : ∀ x, ax3 = some x → -2 ≤ x ∧ x ≤ 2 := m3.axis
  refine Then.go (SS.cons (ST.mono (Q' := fun f l h'' => f = .next ∧ l = [some (.ext sa), some (.ref p), some (.ref f2), some (.ref sr2), some (axV ax2), some (.ref f3), some (.ref sr3), some (axV ax3), some (.ref sg), some (.ref sd), none, none, none, none, none, none] ∧ Kd p H1 h'' ∧ h''[sd]? = some (IL (dueOf (gapsOf rs2 rs3) ++ axDue ax2 ax3)) ∧
    h''[f2]? = some (IL (madeP c2 rs2 ax2)) ∧ h''[f3]? = some (IL (madeP c3 rs3 ax3))) ?_ ?_))
  · refine ST.ite (TT.and ?_)
    repeat walk_at "ev"
    cases ax2 with
    | none =>
      refine BO.isNotN ?_
      repeat walk_at "ev"
      rw [if_neg (by decide), if_neg (by decide)]
      repeat walk_at "ev"
      exact ⟨rfl, by cases ax3 <;> rfl, hd5, by simpa [axDue] using sd5, l2, l3⟩
    | some x =>
      refine BO.isNotI ?_
      repeat walk_at "ev"
      rw [if_pos rfl]
      refine TT.and ?_
      repeat walk_at "ev"
      cases ax3 with
      | none =>
        refine BO.isNotN ?_
        repeat walk_at "ev"
        rw [if_neg (by decide), if_neg (by decide)]
        repeat walk_at "ev"
        exact ⟨rfl, rfl, hd5, by simpa [axDue] using sd5, l2, l3⟩
      | some y =>
        refine BO.isNotI ?_
        repeat walk_at "ev"
        rw [if_pos rfl]
        refine TT.and ?_
        repeat walk_at "ev"
        by_cases q : y - x ≥ 0
        · rw [if_pos (decide_eq_true q)]
          refine TT.and0 ?_
          rw [if_pos rfl]
          repeat walk_at "ev"
          refine ST.expr (EV.append (by walk_at "rd") ?_ sd5)
          repeat walk_at "ev"
          refine ⟨_, sd5, by simp; omega, rfl, ?_⟩
          have ea : axDue (some x) (some y) = [y - x] := by
            show (if y - x ≥ 0 then [y - x] else []) = _
            rw [if_pos q]
          have ei : Cel.list ((dueOf (gapsOf rs2 rs3)).map .int ++ [.int (y - x)]) = IL (dueOf (gapsOf rs2 rs3) ++ axDue (some x) (some y)) := by rw [ea]; simp [IL]
          rw [ei]
          repeat walk_at "ev"
          exact ⟨rfl, rfl, hd5.upd hsd (by omega), get_set sd5, get_set_ne l2 (Ne.symm hf2d), get_set_ne l3 (Ne.symm hf3d)⟩
        · rw [if_neg (by simpa using q), if_neg (by decide)]
          repeat walk_at "ev"
          have ea : axDue (some x) (some y) = [] := by
            show (if y - x ≥ 0 then [y - x] else []) = _
            rw [if_neg q]
          exact ⟨rfl, rfl, hd5, by rw [ea, List.append_nil]; exact sd5, l2, l3⟩
  rintro f l h'' ⟨rfl, rfl, hd6, sd6, l2, l3⟩
  obtain ⟨F, oA, oB, lA, lB, nA, nB, hsz, hrb, hF, hZ⟩ := MA c2 rs2 ax2 c3 rs3 ax3 m2 m3
  repeat walk_at "ev"
  refine dispersions_ok l2 l3 lA lB oA oB nA nB hsz hrb hF fun H7 r7 i1 i2 i3 => ?_
  rw [hZ] at i3
  have sd7 := pre_get i1 sd6
  have hd7 := hd6.pre i1
  have l2 := pre_get i1 l2
  have l3 := pre_get i1 l3
  generalize dueOf (gapsOf rs2 rs3) ++ axDue ax2 ax3 = ds at sd7 i3
  refine EV.comp ⟨["h", "due"], ["due"], []⟩ [none, some (.ref sd)] (by decide +kernel) (by decide +kernel) (cap_of (by walk_at "cap")) ?_
  repeat walk_at "ev"
  refine ⟨_, _, _, Iter.upto (a := 40) get_new (by decide), fun i acc h' => acc = (pick i ds).map .int ∧ i ≤ 40 ∧ H7 <+: h', ⟨rfl, Nat.zero_le _, by walk_at "pre"⟩, fun _ _ _ _ => trivial, fun i acc h' q => ?_, ?_, ?_⟩
  · have := pick_len i ds
    rw [q.1, List.length_map]; omega
  · rintro V' i acc h' hi ⟨rfl, hi4, hH⟩
    refine ⟨_, by walk_at "wr", ?_⟩
    show TT _ V' _ _ _ _ _ _
    repeat walk_at "ev"
    refine BO.inl (pre_get hH sd7) ?_
    repeat walk_at "ev"
    have hp := pick_succ i ds
    by_cases q : ds.any (· == (i : Int)) = true
    · rw [if_pos q]
      rw [if_pos q] at hp
      repeat walk_at "ev"
      exact ⟨by rw [hp, List.map_append]; rfl, hi, hH⟩
    · rw [if_neg q]
      rw [if_neg q] at hp
      exact ⟨by rw [hp], hi, hH⟩
  rintro acc h' ⟨rfl, _, hH⟩
  have l2 := get_old (d := IL (pick 40 ds)) (pre_get hH l2)
  have l3 := get_old (d := IL (pick 40 ds)) (pre_get hH l3)
  have i3 := get_old (d := IL (pick 40 ds)) (pre_get hH i3)
  have i4 : (h' ++ [IL (pick 40 ds)])[h'.length]? = some (IL (pick 40 ds)) := get_new
  have hd8 := hd7.pre (hH.trans (pre_new (d := IL (pick 40 ds)) (List.prefix_refl _)))
  show BO _ _ _ _ _ (h' ++ [IL (pick 40 ds)]) _
  generalize h' ++ [IL (pick 40 ds)] = H8 at hd8 l2 l3 i3 i4 ⊢
  generalize h'.length = r8 at i4 ⊢
  refine BO.lne i3 i4 ?_
  repeat walk_at "ev"
  rw [if_neg (by simp)]
  repeat walk_at "ev"
  clear hd7 sd7 hd6 sd6 hF hZ
  refine ST.asgC (by decide +kernel) ?_ fun env _ hc => noSwapC hc
  refine EV.comp ⟨["turn", "draws"], ["draws"], ["_law_take"]⟩ [none, some (.ref p)] (by decide +kernel) (by decide +kernel) (cap_of (by walk_at "cap")) ?_
  repeat walk_at "ev"
  refine take_ok (H₀ := H1) hd8 (by decide) (by decide) fun t H9 t0 t1 hd9 hk9 => ?_
  have l2 := hd8.fetch hk9 l2 .il
  have l3 := hd8.fetch hk9 l3 .il
  repeat walk_at "ev"
  have er : 1 + t = ((1 + t.toNat : Nat) : Int) := by omega
  rw [er]
  have hK : 1 ≤ 1 + t.toNat ∧ 1 + t.toNat ≤ 3 := by omega
  generalize 1 + t.toNat = K at hK
  refine ⟨_, _, _, Iter.upto (a := K) get_new (by omega), fun i acc h' => ∃ ps : List Int, acc = ps.map .int ∧ ps.length = i ∧ i ≤ K ∧ (∀ q ∈ ps, 0 ≤ q ∧ q < 9) ∧ Kd p H1 h' ∧ Kd p H9 h', ⟨[], rfl, rfl, Nat.zero_le _, by simp, hd9.pre (pre_new (List.prefix_refl _)), hd9.refl.pre (pre_new (List.prefix_refl _))⟩, fun _ _ _ _ => trivial, fun i acc h' q => ?_, ?_, ?_⟩
  · obtain ⟨ps, rfl, h1, h2, _⟩ := q
    rw [List.length_map]; omega
  · rintro V' i acc h' hi ⟨ps, rfl, hl, _, hb, hd, hk⟩
    refine ⟨_, by walk_at "wr", ?_⟩
    show EV _ V' _ _ _ _ _ _
    repeat walk_at "ev"
    refine take_ok (H₀ := H1) hd (by decide) (by decide) fun u H10 u0 u1 hd10 hk10 => ?_
    refine ⟨ps ++ [u], by simp, by simp [hl], hi, fun q hq => ?_, hd10, hk.trans hk10⟩
    rcases List.mem_append.mp hq with z | z
    · exact hb q z
    · rw [List.mem_singleton.mp z]; exact ⟨u0, u1⟩
  rintro acc h' ⟨ps, rfl, hpl2, _, hpb, hd10, hk10⟩
  have l2 := get_old (d := IL ps) (hd9.fetch hk10 l2 .il)
  have l3 := get_old (d := IL ps) (hd9.fetch hk10 l3 .il)
  have sp : (h' ++ [IL ps])[h'.length]? = some (IL ps) := get_new
  have hd11 := hd10.pre (pre_new (d := IL ps) (List.prefix_refl _))
  refine ⟨_, by walk_at "wr", ?_⟩
  show Then _ _ _ _ _ _ _ _ (h' ++ [IL ps])
  generalize h' ++ [IL ps] = H11 at hd11 l2 l3 sp ⊢
  generalize h'.length = ip at sp ⊢
  clear hd8 hk9 hd9 hk10 hd10
  repeat walk_at "ev"
  refine ⟨by decide, ?_⟩
  have hln := hd11.len
  have l2 := get_old (d := Cel.list []) l2
  have l3 := get_old (d := Cel.list []) l3
  have sp := get_old (d := Cel.list []) sp
  have sn0 : (H11 ++ [Cel.list []])[H11.length]? = some (IL []) := get_new
  have hd12 := hd11.pre (pre_new (d := Cel.list []) (List.prefix_refl _))
  have hnp : H11.length ≠ p := by omega
  have hn1 : H1.length ≤ H11.length := hln
  have hn2 : f2 ≠ H11.length := ne_len (by assumption)
  have hn3 : f3 ≠ H11.length := ne_len (by assumption)
  have hn4 : ip ≠ H11.length := ne_len (by assumption)
  generalize H11 ++ [Cel.list []] = H12 at hd12 l2 l3 sp sn0 ⊢
  generalize H11.length = inm at hnp hn1 hn2 hn3 hn4 sn0 ⊢
  clear hd11
  repeat walk_at "ev"
  refine ST.for_ (by decide +kernel) ?_
  repeat walk_at "ev"
  have ek : (ps.length : Int) + 2 = ((ps.length + 2 : Nat) : Int) := by omega
  rw [ek]
  have hps : ps.length ≤ 3 := by omega
  refine ⟨_, _, _, Iter.upto (a := ps.length + 2) get_new (by omega), fun i l h' => ∃ o1 o2 o3, l = [some (.ext sa), some (.ref p), some (.ref f2), some (.ref sr2), some (axV ax2), some (.ref f3), some (.ref sr3), some (axV ax3), some (.ref sg), some (.ref sd), some (.ref ip), some (.ref inm), o1, o2, o3, none] ∧
    Kd p H1 h' ∧ h'[inm]? = some (IL ((List.range i).map (prodAt ps))) ∧ h'[ip]? = some (IL ps) ∧ h'[f2]? = some (IL (madeP c2 rs2 ax2)) ∧ h'[f3]? = some (IL (madeP c3 rs3 ax3)), ?_, fun _ _ _ _ => trivial, ?_, ?_⟩
  · exact ⟨_, _, _, rfl, hd12.pre (pre_new (List.prefix_refl _)), get_old sn0, get_old sp, get_old l2, get_old l3⟩
  · rintro i l h' hi ⟨o1, o2, o3, rfl, hd, sn0, sp, l2, l3⟩
    refine ⟨_, by walk_at "wr", ?_⟩
    repeat walk_at "ev"
    refine take_ok (H₀ := H1) hd (by decide) (by decide) fun u H13 u0 u1 hd13 hk13 => ?_
    have hu : u = 0 := by omega
    subst hu
    have sn0 := hd.fetch hk13 sn0 .il
    have sp := hd.fetch hk13 sp .il
    have l2 := hd.fetch hk13 l2 .il
    have l3 := hd.fetch hk13 l3 .il
    repeat walk_at "ev"
    refine ST.for_ (by decide +kernel) ?_
    repeat walk_at "ev"
    refine ⟨_, _, _, Iter.ints sp, fun j l h' => (∃ o3, l = [some (.ext sa), some (.ref p), some (.ref f2), some (.ref sr2), some (axV ax2), some (.ref f3), some (.ref sr3), some (axV ax3), some (.ref sg), some (.ref sd), some (.ref ip), some (.ref inm), some (.int i), some (.int (prodAt (ps.take j) i)), o3, none]) ∧ H13 = h', ⟨⟨_, rfl⟩, rfl⟩, fun j l h' q => q.2 ▸ sp, ?_, ?_⟩
    · rintro j l h' hj ⟨⟨o3, rfl⟩, rfl⟩
      refine ⟨_, by walk_at "wr", ?_⟩
      repeat walk_at "ev"
      have hpj := hpb (ps.getD j 0) (by simp [List.getElem?_eq_getElem hj])
      refine BO.mul (smallR (by omega)) ?_
      repeat walk_at "ev"
      refine ⟨⟨some (.int (ps.getD j 0)), ?_⟩, rfl⟩
      have e : prodAt (ps.take (j + 1)) i = prodAt (ps.take j) i * ((i : Int) - ps.getD j 0) := by
        rw [take_getD hj, prodAt, List.foldl_append]; rfl
      rw [e]
    · rintro l h' ⟨⟨o3, rfl⟩, rfl⟩
      repeat walk_at "ev"
      rw [List.take_length]
      refine ST.expr (EV.append (by walk_at "rd") ?_ sn0)
      repeat walk_at "ev"
      refine ⟨_, sn0, by simp; omega, rfl, ?_⟩
      have ei : Cel.list (((List.range i).map (prodAt ps)).map .int ++ [.int (prodAt ps i)]) = IL ((List.range (i + 1)).map (prodAt ps)) := by rw [List.range_succ]; simp [IL]
      rw [ei]
      repeat walk_at "ev"
      exact ⟨_, _, _, rfl, hd13.upd hn1 hnp, get_set sn0, get_set_ne sp (Ne.symm hn4), get_set_ne l2 (Ne.symm hn2), get_set_ne l3 (Ne.symm hn3)⟩
  rintro l h' ⟨o1, o2, o3, rfl, hd, sn0, sp, l2, l3⟩
  obtain ⟨b1, b2, b3, b4⟩ := MB ps (by omega) hps hpb
  have hxl : ((List.range (ps.length + 2)).map (prodAt ps)).length = ps.length + 2 := by simp
  generalize (List.range (ps.length + 2)).map (prodAt ps) = xs at sn0 b1 b2 b3 b4 hxl
  have hfl : ∀ k xs, (firsts k xs).length = k := by
    intro k
    induction k with
    | zero => intro xs; rfl
    | succ k ih => intro xs; simp [firsts, ih]
  have hrl := hfl (ps.length + 2) xs
  repeat walk_at "ev"
  refine first_differences_ok sn0 (by omega) fun H14 r14 g1 g2 g3 => ?_
  rw [hxl] at g3
  generalize firsts (ps.length + 2) xs = ys at g3 b1 b2 b3 b4 hrl
  have sn0 := pre_get g1 sn0
  have sp := pre_get g1 sp
  have l2 := pre_get g1 l2
  have l3 := pre_get g1 l3
  have hyl : ys.length ≤ sizeLine := by omega
  have hxl2 : xs.length ≤ sizeLine := by omega
  walk_at "ev"
  walk_at "ev"
  walk_at "ev"
  refine ST.ite (TT.or ?_)
  repeat walk_at "ev"
  rw [hrl, hxl, if_neg (by simp)]
  refine TT.or ?_
  repeat walk_at "ev"
  refine BO.last g3 (by omega) ?_
  repeat walk_at "ev"
  rw [b1, if_neg (by decide)]
  refine TT.or ?_
  repeat walk_at "ev"
  refine BO.at g3 hyl (by decide) (by omega) ?_
  repeat walk_at "ev"
  refine BO.at sn0 hxl2 (by decide) (by omega) ?_
  repeat walk_at "ev"
  have eb2 : ys.getD (0 : Int).toNat 0 = xs.getD (0 : Int).toNat 0 := b2
  rw [eb2, if_neg (by simp)]
  refine TT.or ?_
  repeat walk_at "ev"
  refine BO.at g3 hyl (by decide) (by omega) ?_
  repeat walk_at "ev"
  refine BO.at sn0 hxl2 (by decide) (by omega) ?_
  repeat walk_at "ev"
  refine BO.at sn0 hxl2 (by decide) (by omega) ?_
  repeat walk_at "ev"
  have eb3 : ys.getD (1 : Int).toNat 0 = xs.getD (1 : Int).toNat 0 - xs.getD (0 : Int).toNat 0 := b3
  rw [eb3, if_neg (by simp)]
  refine TT.or0 ?_
  rw [if_neg (by decide)]
  repeat walk_at "ev"
  refine zeros_on_ok (last := 12) g3 (by omega) (by omega) (by decide) fun H15 r15 j1 j2 j3 => ?_
  have j3 : H15[r15]? = some (IL (zeros ys 13)) := j3
  rw [b4] at j3
  have sp := pre_get j1 sp
  have l2 := pre_get j1 l2
  have l3 := pre_get j1 l3
  refine EV.comp ⟨["n", "places"], ["places"], []⟩ [none, some (.ref ip)] (by decide +kernel) (by decide +kernel) (cap_of (by walk_at "cap")) ?_
  repeat walk_at "ev"
  refine ⟨_, _, _, Iter.upto (a := 13) get_new (by decide), fun i acc h' => acc = (pick i ps).map .int ∧ i ≤ 13 ∧ H15 <+: h', ⟨rfl, Nat.zero_le _, by walk_at "pre"⟩, fun _ _ _ _ => trivial, fun i acc h' q => ?_, ?_, ?_⟩
  · have := pick_len i ps
    rw [q.1, List.length_map]; omega
  · rintro V' i acc h' hi ⟨rfl, hi4, hH⟩
    refine ⟨_, by walk_at "wr", ?_⟩
    show TT _ V' _ _ _ _ _ _
    repeat walk_at "ev"
    refine BO.inl (pre_get hH sp) ?_
    repeat walk_at "ev"
    have hp := pick_succ i ps
    by_cases q : ps.any (· == (i : Int)) = true
    · rw [if_pos q]
      rw [if_pos q] at hp
      repeat walk_at "ev"
      exact ⟨by rw [hp, List.map_append]; rfl, hi, hH⟩
    · rw [if_neg q]
      rw [if_neg q] at hp
      exact ⟨by rw [hp], hi, hH⟩
  rintro acc h' ⟨rfl, _, hH⟩
  have l2 := get_old (d := IL (pick 13 ps)) (pre_get hH l2)
  have l3 := get_old (d := IL (pick 13 ps)) (pre_get hH l3)
  have j3 := get_old (d := IL (pick 13 ps)) (pre_get hH j3)
  have j4 : (h' ++ [IL (pick 13 ps)])[h'.length]? = some (IL (pick 13 ps)) := get_new
  show BO _ _ _ _ _ (h' ++ [IL (pick 13 ps)]) _
  generalize h' ++ [IL (pick 13 ps)] = H16 at l2 l3 j3 j4 ⊢
  generalize h'.length = r16 at j4 ⊢
  refine BO.lne j3 j4 ?_
  repeat walk_at "ev"
  rw [if_neg (by simp)]
  repeat walk_at "ev"
  have hA := oA.1
  have hB := oB.1
  refine EV.and ?_
  repeat walk_at "ev"
  refine ⟨(show 1 ≤ sizeLine from by decide), ?_⟩
  have e5 : Cel.list [.int 5] = IL [5] := rfl
  rw [e5]
  repeat walk_at "ev"
  refine dispersions_nil get_new (get_old l3) (show 1 ≤ sizeLine from by decide) (by omega) (.inl (show 1 < 2 by decide)) fun H17 r17 k1 k2 k3 => ?_
  have l2 := pre_get k1 (get_old (d := IL [5]) l2)
  repeat walk_at "ev"
  refine ⟨by decide, ?_⟩
  refine BO.leq (ys := []) (get_old k3) get_new ?_
  repeat walk_at "ev"
  rw [if_pos (by decide)]
  refine EV.and1 ?_
  repeat walk_at "ev"
  refine ⟨(show 1 ≤ sizeLine from by decide), ?_⟩
  have e2 : Cel.list [.int 2] = IL [2] := rfl
  rw [e2]
  repeat walk_at "ev"
  refine dispersions_nil (get_old (get_old l2)) get_new (by omega) (show 1 ≤ sizeLine from by decide) (.inr (show 1 < 2 by decide)) fun H18 r18 q1 q2 q3 => ?_
  repeat walk_at "ev"
  refine ⟨by decide, ?_⟩
  exact BO.leq (ys := []) (get_old q3) get_new rfl
end walk
/-! ## Determinants: pairs of lists, expanded along the first of the one -/
section det
variable {α β : Type}
noncomputable def pk (f : β → List β → Int) : List β → List β → Int
  | _, [] => 0
  | p, r :: rest => f r (p ++ rest) - pk f (p ++ [r]) rest
noncomputable def Dt (e : α → β → Int) : List α → List β → Int
  | [], [] => 1
  | [], _ :: _ => 0
  | a :: as, bs => pk (fun b o => e a b * Dt e as o) [] bs

theorem pk_smul (c : Int) (f : β → List β → Int) : ∀ (xs p : List β), pk (fun r o => c * f r o) p xs = c * pk f p xs
  | [], p => by simp [pk]
  | x :: xs, p => by rw [pk, pk, pk_smul c f xs, Int.mul_sub]
theorem pk_sub (f g : β → List β → Int) : ∀ (xs p : List β), pk (fun r o => f r o - g r o) p xs = pk f p xs - pk g p xs
  | [], p => by simp [pk]
  | x :: xs, p => by rw [pk, pk, pk, pk_sub f g xs]; omega
theorem pk_pre (f : β → List β → Int) (b : β) : ∀ (xs p : List β), pk f (b :: p) xs = pk (fun r o => f r (b :: o)) p xs
  | [], p => by simp [pk]
  | x :: xs, p => by
    have h := pk_pre f b xs (p ++ [x])
    rw [pk, pk, ← h]; rfl
theorem pk_zero {f : β → List β → Int} : ∀ {xs p : List β}, (∀ r ∈ xs, ∀ o, f r o = 0) → pk f p xs = 0
  | [], p, _ => by simp [pk]
  | x :: xs, p, h => by
    rw [pk, h x (.head _), pk_zero fun r hr o => h r (.tail _ hr) o]; rfl
theorem Dt_nil {e : α → β → Int} {x y : List β} {u : β} : Dt e [] (x ++ u :: y) = 0 := by cases x <;> rfl

theorem pk_swap0 {f : β → List β → Int} {u v : β} (hf : ∀ r x y, f r (x ++ u :: v :: y) = - f r (x ++ v :: u :: y)) (p : List β) : ∀ (xs q : List β), pk f (p ++ u :: v :: q) xs = - pk f (p ++ v :: u :: q) xs
  | [], q => by simp [pk]
  | x :: xs, q => by
    rw [pk, pk]
    have h1 := hf x p (q ++ xs)
    have h2 := pk_swap0 hf p xs (q ++ [x])
    simp only [List.append_assoc, List.cons_append] at h1 h2 ⊢
    omega
theorem pk_swap {f : β → List β → Int} {u v : β} (hf : ∀ r x y, f r (x ++ u :: v :: y) = - f r (x ++ v :: u :: y)) (y : List β) : ∀ (x p : List β), pk f p (x ++ u :: v :: y) = - pk f p (x ++ v :: u :: y)
  | [], p => by
    simp only [List.nil_append, pk]
    have h2 := pk_swap0 hf p y []
    simp only [List.append_assoc, List.cons_append, List.nil_append] at h2 ⊢
    omega
  | c :: x, p => by
    simp only [List.cons_append, pk]
    have h1 := hf c (p ++ x) y
    have h2 := pk_swap hf y x (p ++ [c])
    simp only [List.append_assoc] at h1
    omega
theorem Dt_swap (e : α → β → Int) {u v : β} : ∀ (as : List α) (x y : List β), Dt e as (x ++ u :: v :: y) = - Dt e as (x ++ v :: u :: y)
  | [], x, y => by rw [Dt_nil, Dt_nil]; rfl
  | a :: as, x, y => by
    rw [Dt, Dt]
    refine pk_swap (fun r x y => ?_) y x []
    rw [Dt_swap e as x y, Int.mul_neg]

theorem pk_lin0 {f : β → List β → Int} {u v w : β} {s t : Int} (hf : ∀ r x y, f r (x ++ w :: y) = s * f r (x ++ u :: y) + t * f r (x ++ v :: y)) (p : List β) : ∀ (xs q : List β), pk f (p ++ w :: q) xs = s * pk f (p ++ u :: q) xs + t * pk f (p ++ v :: q) xs
  | [], q => by simp [pk]
  | x :: xs, q => by
    rw [pk, pk, pk]
    have h1 := hf x p (q ++ xs)
    have h2 := pk_lin0 hf p xs (q ++ [x])
    simp only [List.append_assoc, List.cons_append] at h1 h2 ⊢
    rw [h1, h2, Int.mul_sub, Int.mul_sub]; omega
theorem pk_lin {f : β → List β → Int} {u v w : β} {s t : Int} (hf : ∀ r x y, f r (x ++ w :: y) = s * f r (x ++ u :: y) + t * f r (x ++ v :: y)) (hw : ∀ o, f w o = s * f u o + t * f v o) (y : List β) :
    ∀ (x p : List β), pk f p (x ++ w :: y) = s * pk f p (x ++ u :: y) + t * pk f p (x ++ v :: y)
  | [], p => by
    simp only [List.nil_append, pk]
    rw [hw, pk_lin0 hf p y [], Int.mul_sub, Int.mul_sub]; omega
  | c :: x, p => by
    simp only [List.cons_append, pk]
    have h1 := hf c (p ++ x) y
    have h2 := pk_lin hf hw y x (p ++ [c])
    simp only [List.append_assoc] at h1
    rw [h1, h2, Int.mul_sub, Int.mul_sub]; omega
theorem Dt_lin {e : α → β → Int} {u v w : β} {s t : Int} (h : ∀ a, e a w = s * e a u + t * e a v) : ∀ (as : List α) (x y : List β), Dt e as (x ++ w :: y) = s * Dt e as (x ++ u :: y) + t * Dt e as (x ++ v :: y)
  | [], x, y => by rw [Dt_nil, Dt_nil, Dt_nil]; simp
  | a :: as, x, y => by
    rw [Dt, Dt, Dt]
    refine pk_lin (fun r x y => ?_) (fun o => ?_) y x []
    · rw [Dt_lin h as x y, Int.mul_add, Int.mul_left_comm, Int.mul_left_comm _ t]
    · rw [h, Int.add_mul, Int.mul_assoc, Int.mul_assoc]

theorem Dt_dup0 (e : α → β → Int) (as : List α) (x y : List β) (u : β) : Dt e as (x ++ u :: u :: y) = 0 := by
  have := Dt_swap e (u := u) (v := u) as x y
  omega
theorem Dt_dup (e : α → β → Int) (as : List α) (u : β) (z : List β) : ∀ (m x : List β), Dt e as (x ++ u :: (m ++ u :: z)) = 0
  | [], x => Dt_dup0 e as x z u
  | c :: m, x => by
    rw [List.cons_append, Dt_swap]
    have := Dt_dup e as u z m (x ++ [c])
    simp only [List.append_assoc, List.cons_append, List.nil_append] at this
    rw [this]; rfl
/-- a row that stands once more elsewhere -/
theorem Dt_mem_r {e : α → β → Int} {as : List α} {u : β} {x y : List β} (h : u ∈ y) : Dt e as (x ++ u :: y) = 0 := by
  obtain ⟨m, z, rfl⟩ := List.append_of_mem h
  exact Dt_dup e as u z m x
theorem Dt_mem_l {e : α → β → Int} {as : List α} {u : β} {x y : List β} (h : u ∈ x) : Dt e as (x ++ u :: y) = 0 := by
  obtain ⟨m, z, rfl⟩ := List.append_of_mem h
  have := Dt_dup e as u y z m
  simpa using this

theorem Dt_zero {e : α → β → Int} {as : List α} {u : β} {x y : List β} (h : ∀ a, e a u = 0) : Dt e as (x ++ u :: y) = 0 := by
  have := Dt_lin (e := e) (u := u) (v := u) (w := u) (s := 0) (t := 0) (fun a => by rw [h a]; rfl) as x y
  simpa using this
theorem Dt_scale {e : α → β → Int} {as : List α} {u w : β} {x y : List β} {s : Int} (h : ∀ a, e a w = s * e a u) : Dt e as (x ++ w :: y) = s * Dt e as (x ++ u :: y) := by
  have := Dt_lin (e := e) (u := u) (v := u) (w := w) (s := s) (t := 0) (fun a => by rw [h a]; simp) as x y
  simpa using this

/-- one row goes past a block -/
theorem Dt_past (e : α → β → Int) (as : List α) (u : β) (z : List β) : ∀ (ys x : List β), Dt e as (x ++ u :: (ys ++ z)) = (-1) ^ ys.length * Dt e as (x ++ ys ++ u :: z)
  | [], x => by simp
  | c :: ys, x => by
    rw [List.cons_append, Dt_swap]
    have := Dt_past e as u z ys (x ++ [c])
    simp only [List.append_assoc, List.cons_append, List.nil_append] at this ⊢
    rw [this, List.length_cons, Int.pow_succ, Int.mul_neg_one, Int.neg_mul]
theorem neg1_sq (n : Nat) : ((-1 : Int) ^ n) * ((-1) ^ n) = 1 := by
  induction n with
  | zero => rfl
  | succ n ih => rw [Int.pow_succ]; grind
theorem neg1_or (n : Nat) : ((-1 : Int) ^ n) = 1 ∨ ((-1 : Int) ^ n) = -1 := by
  induction n with
  | zero => exact .inl rfl
  | succ n ih => rw [Int.pow_succ]; omega
theorem Dt_blocks (e : α → β → Int) (as : List α) (ys z : List β) : ∀ (us x : List β), Dt e as (x ++ us ++ ys ++ z) = (-1) ^ (us.length * ys.length) * Dt e as (x ++ ys ++ us ++ z)
  | [], x => by simp
  | u :: us, x => by
    have h1 := Dt_blocks e as ys z us (x ++ [u])
    have h2 := Dt_past e as u (us ++ z) ys x
    simp only [List.append_assoc, List.cons_append, List.nil_append] at h1 h2 ⊢
    rw [h1, h2, ← Int.mul_assoc, ← Int.pow_add, List.length_cons]
    congr 2
    rw [Nat.succ_mul]
theorem Dt_blocks2 (e : α → β → Int) (as : List α) (us ys : List β) : Dt e as (us ++ ys) = (-1) ^ (us.length * ys.length) * Dt e as (ys ++ us) := by
  have := Dt_blocks e as ys [] us []
  simpa using this

theorem Dt_pivot {e : α → β → Int} {a : α} {as : List α} {b : β} {bs : List β} (h : ∀ b' ∈ bs, e a b' = 0) : Dt e (a :: as) (b :: bs) = e a b * Dt e as bs := by
  rw [Dt, pk, pk_zero fun r hr o => by rw [h r hr, Int.zero_mul]]
  simp

/-! rows and columns change places -/
theorem pk_comm {γ : Type} (g : β → List β → γ → List γ → Int) : ∀ (xs p : List β) (ys q : List γ),
    pk (fun r o => pk (fun c o' => g r o c o') q ys) p xs = pk (fun c o' => pk (fun r o => g r o c o') p xs) q ys
  | [], p, ys, q => by
    rw [pk, pk_zero]; intro r _ o; rfl
  | x :: xs, p, ys, q => by
    rw [pk, pk_comm g xs (p ++ [x]) ys q]
    have h : (fun c o' => pk (fun r o => g r o c o') p (x :: xs)) = fun c o' => g x (p ++ xs) c o' - pk (fun r o => g r o c o') (p ++ [x]) xs := by
      funext c o'; rw [pk]
    rw [h, pk_sub]
theorem Dt_row (e : α → β → Int) : ∀ (as : List α) (b : β) (bs : List β), Dt e as (b :: bs) = pk (fun a o => e a b * Dt e o bs) [] as
  | [], b, bs => rfl
  | c :: cs, b, bs => by
    rw [Dt, pk, pk]
    simp only [List.nil_append]
    rw [pk_pre, pk_pre]
    have h1 : (fun r o => e c r * Dt e cs (b :: o)) = fun r o => pk (fun a o' => e c r * (e a b * Dt e o' o)) [] cs := by
      funext r o; rw [Dt_row e cs b o, ← pk_smul]
    have h2 : (fun a o => e a b * Dt e (c :: o) bs) = fun a o' => pk (fun r o => e c r * (e a b * Dt e o' o)) [] bs := by
      funext a o; rw [Dt, ← pk_smul]; congr 1; funext r o'; rw [Int.mul_left_comm]
    rw [h1, h2, pk_comm (fun r o a o' => e c r * (e a b * Dt e o' o))]
theorem Dt_tr (e : α → β → Int) : ∀ (bs : List β) (as : List α), Dt e as bs = Dt (fun b a => e a b) bs as
  | [], [] => rfl
  | [], a :: as => rfl
  | b :: bs, as => by
    rw [Dt_row, Dt]
    congr 1; funext a o; rw [Dt_tr e bs o]
end det
/-! ## Subresultants -/
noncomputable def sh (i : Nat) (f : Nat → Int) : Nat → Int := fun t => if t < i then 0 else f (t - i)
noncomputable def blk (f : Nat → Int) : Nat → List (Nat → Int)
  | 0 => []
  | n + 1 => sh n f :: blk f n
noncomputable def dn (j : Nat) : Nat → List Nat
  | 0 => []
  | n + 1 => (j + n) :: dn j n
noncomputable def co (t : Nat) (f : Nat → Int) : Int := f t
noncomputable def SR (f g : Nat → Int) (l k j t : Nat) : Int := Dt co (dn (j + 1) (l + k - 2 * j - 1) ++ [t]) (blk f (k - j) ++ blk g (l - j))

theorem sh_zero (f : Nat → Int) : sh 0 f = f := by funext t; simp [sh]
theorem sh_sh (i j : Nat) (f : Nat → Int) : sh i (sh j f) = sh (j + i) f := by
  funext t; unfold sh
  by_cases h : t < i
  · rw [if_pos h, if_pos (by omega)]
  · rw [if_neg h]
    by_cases h2 : t - i < j
    · rw [if_pos h2, if_pos (by omega)]
    · rw [if_neg h2, if_neg (by omega)]; congr 1; omega
theorem blk_len (f : Nat → Int) : ∀ n, (blk f n).length = n
  | 0 => rfl
  | n + 1 => by rw [blk, List.length_cons, blk_len f n]
theorem blk_mem {f w : Nat → Int} : ∀ {n : Nat}, w ∈ blk f n → ∃ i, i < n ∧ w = sh i f
  | 0, h => nomatch h
  | n + 1, h => by
    rcases List.mem_cons.mp h with rfl | h
    · exact ⟨n, Nat.lt_succ_self n, rfl⟩
    · obtain ⟨i, hi, e⟩ := blk_mem h
      exact ⟨i, Nat.lt_succ_of_lt hi, e⟩
theorem mem_blk {f : Nat → Int} {i : Nat} : ∀ {n : Nat}, i < n → sh i f ∈ blk f n
  | n + 1, h => by
    by_cases e : i = n
    · subst e; exact .head _
    · exact .tail _ (mem_blk (by omega))
theorem dn_app (j x : Nat) : ∀ e, dn j (x + e) = dn (j + x) e ++ dn j x
  | 0 => rfl
  | e + 1 => by
    show (j + (x + e)) :: dn j (x + e) = (j + x + e) :: (dn (j + x) e ++ dn j x)
    rw [dn_app j x e, Nat.add_assoc]
theorem dn_last (j : Nat) : ∀ n, dn (j + 1) n ++ [j] = dn j (n + 1)
  | 0 => rfl
  | n + 1 => by
    show (j + 1 + n) :: (dn (j + 1) n ++ [j]) = (j + (n + 1)) :: dn j (n + 1)
    rw [dn_last j n]; congr 1; omega

/-- sums of multiples of the first d shifts of g -/
inductive Sp (g : Nat → Int) (d : Nat) : (Nat → Int) → Prop
  | zero : Sp g d fun _ => 0
  | add {w : Nat → Int} {i : Nat} {c : Int} : i < d → Sp g d w → Sp g d fun t => w t + c * sh i g t
theorem Sp.mono {g w : Nat → Int} {d d' : Nat} (h : Sp g d w) (hd : d ≤ d') : Sp g d' w := by
  induction h with
  | zero => exact .zero
  | add hi _ ih => exact .add (Nat.lt_of_lt_of_le hi hd) ih
theorem Sp.shift {g w : Nat → Int} {d : Nat} (i0 : Nat) (h : Sp g d w) : Sp g (d + i0) (sh i0 w) := by
  induction h with
  | zero =>
    have e : sh i0 (fun _ => (0 : Int)) = fun _ => 0 := by funext t; simp [sh]
    rw [e]; exact .zero
  | @add w i c hi _ ih =>
    have e : sh i0 (fun t => w t + c * sh i g t) = fun t => sh i0 w t + c * sh (i + i0) g t := by
      rw [← sh_sh]
      funext t; unfold sh
      by_cases q : t < i0
      · simp [q]
      · simp [q]
    rw [e]; exact .add (by omega) ih

theorem Dt_span {g : Nat → Int} {d : Nat} {cs : List Nat} {x y : List (Nat → Int)} {r w : Nat → Int} (h : Sp g d w) (hg : ∀ i, i < d → sh i g ∈ y) : ∀ {u : Nat → Int}, (∀ t, u t = r t + w t) →
    Dt co cs (x ++ u :: y) = Dt co cs (x ++ r :: y) := by
  induction h with
  | zero =>
    intro u hu
    have e : u = r := by funext t; rw [hu]; simp
    rw [e]
  | @add w i c hi _ ih =>
    intro u hu
    have h1 := Dt_lin (e := co) (u := fun t => r t + w t) (v := sh i g) (w := u) (s := 1) (t := c) (fun a => by show u a = 1 * (r a + w a) + c * sh i g a; have q : u a = r a + (w a + c * sh i g a) := hu a; rw [q]; omega) cs x y
    rw [h1, Dt_mem_r (hg i hi), ih (u := fun t => r t + w t) fun t => rfl]
    omega

theorem SR_ops {f g r w : Nat → Int} {s : Int} {d q : Nat} {cs : List Nat} (hw : ∀ t, s * f t = r t + w t) (hs : Sp g d w) : ∀ (p : Nat) (X : List (Nat → Int)), p + d ≤ q + 1 →
    s ^ p * Dt co cs (X ++ (blk f p ++ blk g q)) = Dt co cs (X ++ (blk r p ++ blk g q))
  | 0, X, _ => by simp [blk]
  | p + 1, X, h => by
    have h1 := SR_ops (q := q) (cs := cs) hw hs p (X ++ [sh p r]) (by omega)
    simp only [List.append_assoc, List.cons_append, List.nil_append] at h1
    have h2 := Dt_scale (e := co) (as := cs) (u := sh p f) (w := fun t => s * sh p f t) (x := X) (y := blk f p ++ blk g q) (s := s) (fun a => rfl)
    have hm : ∀ i, i < d + p → sh i g ∈ blk f p ++ blk g q := fun i hi => List.mem_append_right _ (mem_blk (Nat.lt_of_lt_of_le hi (show d + p ≤ q by omega)))
    have hu : ∀ t, s * sh p f t = sh p r t + sh p w t := fun t => by
      unfold sh; split
      · simp
      · exact hw _
    have h3 := Dt_span (cs := cs) (x := X) (r := sh p r) (hs.shift p) hm (u := fun t => s * sh p f t) hu
    show s ^ (p + 1) * Dt co cs (X ++ sh p f :: (blk f p ++ blk g q)) = Dt co cs (X ++ sh p r :: (blk r p ++ blk g q))
    rw [← h1, ← h3, h2, Int.pow_succ, Int.mul_assoc]

theorem SR_pivot {g : Nat → Int} {k q : Nat} {cs : List Nat} {rest : List (Nat → Int)} (hg : ∀ t, k < t → g t = 0) (hr : ∀ w ∈ rest, ∀ t, q + k ≤ t → w t = 0) : ∀ e : Nat,
    Dt co (dn (q + k) e ++ cs) (blk g (q + e) ++ rest) = g k ^ e * Dt co cs (blk g q ++ rest)
  | 0 => by simp [dn]
  | e + 1 => by
    show Dt co ((q + k + e) :: (dn (q + k) e ++ cs)) (sh (q + e) g :: (blk g (q + e) ++ rest)) = _
    have e1 : co (q + k + e) (sh (q + e) g) = g k := by
      unfold co sh
      rw [if_neg (by omega)]; congr 1; omega
    have e2 : ∀ b ∈ blk g (q + e) ++ rest, co (q + k + e) b = 0 := by
      intro b hb
      rcases List.mem_append.mp hb with hb | hb
      · obtain ⟨i, hi, rfl⟩ := blk_mem hb
        unfold co sh
        rw [if_neg (by omega)]
        exact hg _ (by omega)
      · exact hr b hb _ (by omega)
    rw [Dt_pivot e2, SR_pivot hg hr e, e1, Int.pow_succ, Int.mul_left_comm, Int.mul_assoc]

theorem SR_step {f g R w : Nat → Int} {s : Int} {l k r j : Nat} (hlk : k ≤ l) (hr : r < k) (hj : j ≤ r) (hg : ∀ t, k < t → g t = 0) (hR : ∀ t, r < t → R t = 0) (hw : ∀ t, s * f t = R t + w t) (hs : Sp g (l - k + 1) w) (t : Nat) :
    s ^ (k - j) * SR f g l k j t = (-1) ^ ((k - j) * (l - j)) * (g k ^ (l - r) * SR g R k r j t) := by
  unfold SR
  have h1 := SR_ops (cs := dn (j + 1) (l + k - 2 * j - 1) ++ [t]) (q := l - j) hw hs (k - j) [] (by omega)
  simp only [List.nil_append] at h1
  rw [h1, Dt_blocks2, blk_len, blk_len]
  congr 1
  have e1 : l + k - 2 * j - 1 = (k + r - 2 * j - 1) + (l - r) := by omega
  have e2 : l - j = (r - j) + (l - r) := by omega
  have e3 : j + 1 + (k + r - 2 * j - 1) = (r - j) + k := by omega
  rw [e1, dn_app, e3, e2, List.append_assoc, SR_pivot hg]
  intro b hb t ht
  obtain ⟨i, hi, rfl⟩ := blk_mem hb
  unfold sh
  rw [if_neg (by omega)]
  exact hR _ (by omega)

theorem SR_rest (g R : Nat → Int) (r t : Nat) : SR g R (r + 1) r r t = R t := by
  unfold SR
  have e1 : r + 1 + r - 2 * r - 1 = 0 := by omega
  have e2 : r + 1 - r = 1 := by omega
  rw [e1, Nat.sub_self, e2]
  simp [dn, blk, sh_zero, Dt, pk, co]
theorem SR_none {g R : Nat → Int} {k r t : Nat} (hk : 1 ≤ k) (hR : ∀ t, R t = 0) : SR g R k r 0 t = 0 := by
  unfold SR
  obtain ⟨k, rfl⟩ : ∃ k', k = k' + 1 := ⟨k - 1, by omega⟩
  exact Dt_zero fun a => by unfold co sh; split; rfl; exact hR _
theorem SR_lead {f g : Nat → Int} {l k : Nat} (hl : k < l) (hg : ∀ t, k < t → g t = 0) : SR f g l k k k = g k ^ (l - k) := by
  unfold SR
  have e1 : l + k - 2 * k - 1 + 1 = l - k := by omega
  rw [dn_last, e1, Nat.sub_self]
  have := SR_pivot (q := 0) (cs := []) (rest := []) hg (by simp) (l - k)
  simpa [blk, Dt] using this
/-! ## What the rows of remainders keep -/
theorem ipow_ne {a : Int} (h : a ≠ 0) (k : Nat) : a ^ k ≠ 0 := by
  induction k with
  | zero => simp
  | succ k ih => rw [Int.pow_succ]; exact Int.mul_ne_zero ih h

theorem blk_scale {f g : Nat → Int} {c : Int} (h : ∀ t, f t = c * g t) {cs : List Nat} {Y : List (Nat → Int)} : ∀ (p : Nat) (X : List (Nat → Int)), Dt co cs (X ++ (blk f p ++ Y)) = c ^ p * Dt co cs (X ++ (blk g p ++ Y))
  | 0, X => by simp [blk]
  | p + 1, X => by
    have h1 := blk_scale h (cs := cs) (Y := Y) p (X ++ [sh p g])
    simp only [List.append_assoc, List.cons_append, List.nil_append] at h1
    show Dt co cs (X ++ sh p f :: (blk f p ++ Y)) = c ^ (p + 1) * Dt co cs (X ++ sh p g :: (blk g p ++ Y))
    rw [Dt_scale (u := sh p g) (s := c) (fun a => by unfold co sh; split; simp; exact h _), h1, Int.pow_succ, ← Int.mul_assoc, Int.mul_comm c]
theorem SR_scale2 {f g g' : Nat → Int} {c : Int} (h : ∀ t, g t = c * g' t) (l k j t : Nat) : SR f g l k j t = c ^ (l - j) * SR f g' l k j t := by
  unfold SR
  have := blk_scale h (cs := dn (j + 1) (l + k - 2 * j - 1) ++ [t]) (Y := []) (l - j) (blk f (k - j))
  simpa using this
theorem SR_scale1 {f f' g : Nat → Int} {c : Int} (h : ∀ t, f t = c * f' t) (l k j t : Nat) : SR f g l k j t = c ^ (k - j) * SR f' g l k j t := by
  unfold SR
  have := blk_scale h (cs := dn (j + 1) (l + k - 2 * j - 1) ++ [t]) (Y := blk g (l - j)) (k - j) []
  simpa using this
theorem SR_swap (f g : Nat → Int) (l k j t : Nat) : SR f g l k j t = (-1) ^ ((k - j) * (l - j)) * SR g f k l j t := by
  unfold SR
  rw [Dt_blocks2, blk_len, blk_len, Nat.add_comm l k]

noncomputable def Sgn (e : Nat → Int) : Prop := ∀ j, e j = 1 ∨ e j = -1
theorem Sgn.sq {e : Nat → Int} (h : Sgn e) (j : Nat) : e j * e j = 1 := by rcases h j with q | q <;> rw [q] <;> rfl
noncomputable def Rel (A B f g : Nat → Int) (m n l k : Nat) (c h : Int) (e : Nat → Int) : Prop := ∀ j, j ≤ k → ∀ t, SR f g l k j t = e j * (c ^ (k - j) * h ^ (l - j - 1) * SR A B m n j t)

section
variable {A B f g R w : Nat → Int} {m n d r : Nat} {c h : Int} {e : Nat → Int}

/-- the remainder is the product of the divisor and a subresultant -/
theorem rest_eq (hE : Rel A B f g m n (r + 1 + d) (r + 1) c h e) (hG : g (r + 1) ≠ 0) (hg : ∀ t, r + 1 < t → g t = 0) (hR : ∀ t, r < t → R t = 0) (hw : ∀ t, g (r + 1) ^ (d + 1) * f t = R t + w t) (hs : Sp g (d + 1) w) (t : Nat) :
    R t = c * h ^ d * ((-1) ^ (d + 1) * e r * SR A B m n r t) := by
  have h1 := SR_step (l := r + 1 + d) (k := r + 1) (r := r) (j := r) (by omega) (by omega) (by omega) hg hR hw (by rw [show r + 1 + d - (r + 1) + 1 = d + 1 by omega]; exact hs) t
  rw [SR_rest, hE r (by omega) t, show r + 1 - r = 1 by omega, show r + 1 + d - r = d + 1 by omega, show d + 1 - 1 = d by omega, Nat.one_mul, Int.pow_one, Int.pow_one] at h1
  have h2 : e r * (c * h ^ d * SR A B m n r t) = (-1) ^ (d + 1) * R t := by
    apply Int.eq_of_mul_eq_mul_left (ipow_ne hG (d + 1))
    rw [h1, Int.mul_left_comm]
  have h3 := neg1_sq (d + 1)
  have h4 : R t = (-1) ^ (d + 1) * ((-1) ^ (d + 1) * R t) := by rw [← Int.mul_assoc, h3, Int.one_mul]
  rw [h4, ← h2]
  generalize (-1 : Int) ^ (d + 1) = x
  generalize h ^ d = y
  grind

theorem lead_eq {k : Nat} (hE : Rel A B f g m n (k + (d + 1)) k c h e) (hg : ∀ t, k < t → g t = 0) : g k ^ (d + 1) = e k * (h ^ d * SR A B m n k k) := by
  have h1 := SR_lead (f := f) (g := g) (l := k + (d + 1)) (k := k) (by omega) hg
  rw [hE k (Nat.le_refl k) k, Nat.sub_self, show k + (d + 1) - k = d + 1 by omega, show d + 1 - 1 = d by omega, Int.pow_zero, Int.one_mul] at h1
  exact h1.symm

/-- the powers of the old and of the new number fit -/
theorem pow_fit {G h h' : Int} {d p : Nat} (hh : (d = 0 ∧ h' = h) ∨ (∃ x, d = x + 1 ∧ h' * h ^ x = G ^ d)) : G ^ ((d + 1) * (p + 1)) * h ^ (d + p) = G ^ (d + (p + 1)) * h ^ (d * (p + 1)) * h' ^ p := by
  rcases hh with ⟨rfl, rfl⟩ | ⟨x, rfl, hx⟩
  · simp
  · have e1 : (x + 1) * (p + 1) = x * p + (x + 1 + p) := by rw [Nat.succ_mul, Nat.mul_succ]; omega
    have e2 : (x + 1 + 1) * (p + 1) = x + 1 + (p + 1) + (x + 1) * p := by rw [Nat.succ_mul, Nat.mul_succ]; omega
    have e3 : h ^ (x * p) * h' ^ p = G ^ ((x + 1) * p) := by
      rw [Int.pow_mul, ← Int.mul_pow, Int.mul_comm, hx, ← Int.pow_mul]
    have q1 : h ^ ((x + 1) * (p + 1)) = h ^ (x * p) * h ^ (x + 1 + p) := by rw [e1, Int.pow_add]
    have q2 : G ^ ((x + 1 + 1) * (p + 1)) = G ^ (x + 1 + (p + 1)) * G ^ ((x + 1) * p) := by rw [e2, Int.pow_add]
    rw [q1, q2, ← e3]
    ac_rfl

theorem zero_eq {k : Nat} (hE : Rel A B f g m n (k + 1 + d) (k + 1) c h e) (he : Sgn e) (hc : c ≠ 0) (hh : h ≠ 0) (hG : g (k + 1) ≠ 0) (hg : ∀ t, k + 1 < t → g t = 0) (hR : ∀ t, R t = 0) (hw : ∀ t, g (k + 1) ^ (d + 1) * f t = R t + w t) (hs : Sp g (d + 1) w) (t : Nat) : SR A B m n 0 t = 0 := by
  have h1 := SR_step (l := k + 1 + d) (k := k + 1) (r := k) (j := 0) (by omega) (by omega) (by omega) hg (fun t _ => hR t) hw (by rw [show k + 1 + d - (k + 1) + 1 = d + 1 by omega]; exact hs) t
  rw [SR_none (by omega) hR, hE 0 (by omega) t, Int.mul_zero, Int.mul_zero] at h1
  have n1 := ipow_ne (ipow_ne hG (d + 1)) (k + 1 - 0)
  have n2 := ipow_ne hc (k + 1 - 0)
  have n3 := ipow_ne hh (k + 1 + d - 0 - 1)
  have n4 : e 0 ≠ 0 := by rcases he 0 with q | q <;> rw [q] <;> decide
  rcases Int.mul_eq_zero.mp h1 with q | q
  · exact absurd q n1
  rcases Int.mul_eq_zero.mp q with q | q
  · exact absurd q n4
  rcases Int.mul_eq_zero.mp q with q | q
  · exact absurd q (Int.mul_ne_zero n2 n3)
  · exact q

theorem rel_next {k r : Nat} {b' : Nat → Int} {h' : Int} (hE : Rel A B f g m n (k + d) k c h e) (he : Sgn e) (hc : c ≠ 0) (hh0 : h ≠ 0) (hr : r < k) (hG : g k ≠ 0) (hg : ∀ t, k < t → g t = 0) (hb : ∀ t, r < t → b' t = 0)
    (hR : ∀ t, R t = c * h ^ d * b' t) (hw : ∀ t, g k ^ (d + 1) * f t = R t + w t) (hs : Sp g (d + 1) w) (hh : (d = 0 ∧ h' = h) ∨ (∃ x, d = x + 1 ∧ h' * h ^ x = g k ^ d)) :
    Rel A B g b' m n k r (g k) h' (fun j => (-1) ^ ((k - j) * (k + d - j)) * e j) := by
  intro j hj t
  have h1 := SR_step (l := k + d) (k := k) (r := r) (j := j) (by omega) hr hj hg (fun t ht => by rw [hR, hb t ht, Int.mul_zero]) hw (by rw [show k + d - k + 1 = d + 1 by omega]; exact hs) t
  rw [hE j (by omega) t, SR_scale2 hR] at h1
  show SR g b' k r j t = (-1) ^ ((k - j) * (k + d - j)) * e j * _
  generalize hS : SR g b' k r j t = S' at h1 ⊢
  generalize SR A B m n j t = S at h1 ⊢
  generalize hσ : (-1 : Int) ^ ((k - j) * (k + d - j)) = x at h1 ⊢
  have hx : x * x = 1 := by rw [← hσ]; exact neg1_sq _
  have hee := he.sq j
  obtain ⟨p, hp⟩ : ∃ p, k - j = p + 1 := ⟨k - j - 1, by omega⟩
  have e1 : k + d - j - 1 = d + p := by omega
  have e2 : k - j - 1 = p := by omega
  have e3 : k + d - r + (r - j) = d + (p + 1) := by omega
  rw [e1, hp, ← Int.pow_mul, Int.mul_pow, ← Int.pow_mul] at h1
  rw [e2]
  have hpf := pow_fit (G := g k) (h := h) (h' := h') (d := d) (p := p) hh
  rw [← e3, Int.pow_add (g k)] at hpf
  generalize g k ^ ((d + 1) * (p + 1)) = a1 at h1 hpf
  have n1 := ipow_ne hc (p + 1)
  have n2 := ipow_ne hG (k + d - r)
  have n3 := ipow_ne hh0 (d * (p + 1))
  generalize g k ^ (k + d - r) = a2 at h1 hpf n2
  generalize g k ^ (r - j) = a3 at hpf ⊢
  generalize h ^ (d + p) = a4 at h1 hpf
  generalize h ^ (d * (p + 1)) = a5 at h1 hpf n3
  generalize h' ^ p = a6 at hpf ⊢
  generalize c ^ (p + 1) = a7 at h1 n1
  generalize e j = y at *
  apply Int.eq_of_mul_eq_mul_left n1
  apply Int.eq_of_mul_eq_mul_left n2
  apply Int.eq_of_mul_eq_mul_left n3
  -- h1 : a1 * (y * (a7 * a4 * S)) = x * (a2 * (a7 * a5 * S'))
  have h2 : a5 * (a2 * (a7 * S')) = x * (a1 * (y * (a7 * a4 * S))) := by
    rw [h1]
    have : x * (x * (a2 * (a7 * a5 * S'))) = (x * x) * (a2 * (a7 * a5 * S')) := by grind
    rw [this, hx]; grind
  rw [h2]
  have h3 : x * (a1 * (y * (a7 * a4 * S))) = x * y * a7 * S * (a1 * a4) := by grind
  rw [h3, hpf]; grind
end
theorem Sgn.next {e : Nat → Int} (he : Sgn e) (F : Nat → Nat) : Sgn fun j => (-1) ^ F j * e j := fun j => by
  show (-1) ^ F j * e j = 1 ∨ (-1) ^ F j * e j = -1
  rcases neg1_or (F j) with q | q <;> rcases he j with z | z <;> rw [q, z] <;> decide
/-! ## Sizes -/
noncomputable def Bl (k : Nat) (x : Int) : Prop := x.natAbs ≤ 2 ^ k
theorem Bl.mono {i j : Nat} {x : Int} (h : Bl i x) (hij : i ≤ j) : Bl j x := Nat.le_trans h (Nat.pow_le_pow_right (by decide) hij)
theorem Bl.mul {i j : Nat} {x y : Int} (h : Bl i x) (h' : Bl j y) : Bl (i + j) (x * y) := by
  unfold Bl; rw [Int.natAbs_mul, Nat.pow_add]; exact Nat.mul_le_mul h h'
theorem Bl.pow {i : Nat} {x : Int} (h : Bl i x) : ∀ n : Nat, Bl (i * n) (x ^ n)
  | 0 => by unfold Bl; simp
  | n + 1 => by rw [Int.pow_succ, Nat.mul_succ]; exact (Bl.pow h n).mul h
theorem Bl.zero (k : Nat) : Bl k 0 := Nat.zero_le _
theorem Bl.neg {i : Nat} {x : Int} (h : Bl i x) : Bl i (-x) := by unfold Bl; rw [Int.natAbs_neg]; exact h
theorem Bl.add {i : Nat} {x y : Int} (h : Bl i x) (h' : Bl i y) : Bl (i + 1) (x + y) := by
  unfold Bl at *; rw [Nat.pow_succ]; have := Int.natAbs_add_le x y; omega
theorem Bl.sub {i : Nat} {x y : Int} (h : Bl i x) (h' : Bl i y) : Bl (i + 1) (x - y) := by
  rw [Int.sub_eq_add_neg]; exact h.add h'.neg
theorem Bl.fit {i : Nat} {x : Int} (h : Bl i x) (hi : i < 8000) : Fit x := Nat.lt_of_le_of_lt h (Nat.pow_lt_pow_right (by decide) hi)

/-! ## Lists as numbers at places -/
noncomputable def cf (a : List Int) : Nat → Int := fun i => a.getD i 0
noncomputable def Tr (a : List Int) : Prop := a = [] ∨ lead a ≠ 0
theorem cf_big {a : List Int} {t : Nat} (h : a.length ≤ t) : cf a t = 0 := by
  unfold cf; rw [List.getD_eq_getElem?_getD, List.getElem?_eq_none h]; rfl
theorem cf_lead (a : List Int) : lead a = cf a (a.length - 1) := rfl
theorem cf_lt {a : List Int} {t : Nat} (h : t < a.length) : cf a t = a[t] := by
  unfold cf; rw [List.getD_eq_getElem?_getD, List.getElem?_eq_getElem h]; rfl
theorem cf_mem {a : List Int} {x : Int} (h : x ∈ a) : ∃ t, cf a t = x := by
  obtain ⟨i, hi, rfl⟩ := List.getElem_of_mem h
  exact ⟨i, cf_lt hi⟩
theorem cf_map {a : List Int} {f : Int → Int} (h0 : f 0 = 0) (t : Nat) : cf (a.map f) t = f (cf a t) := by
  rcases Nat.lt_or_ge t a.length with q | q
  · rw [cf_lt (by simpa using q), cf_lt q, List.getElem_map]
  · rw [cf_big (by simpa using q), cf_big q, h0]
theorem tsz_zero (xs : List Int) : ∀ (s t : Nat), tsz xs s ≤ t → t < s → xs.getD t 0 = 0
  | 0, t, _, h => by omega
  | s + 1, t, h, h' => by
    unfold tsz at h
    split at h
    · rename_i q
      rcases Nat.lt_or_ge t s with z | z
      · exact tsz_zero xs s t h z
      · obtain rfl : t = s := by omega
        exact q
    · omega
theorem tsz_top (xs : List Int) : ∀ s, tsz xs s = 0 ∨ xs.getD (tsz xs s - 1) 0 ≠ 0
  | 0 => .inl rfl
  | s + 1 => by
    unfold tsz
    split
    · exact tsz_top xs s
    · rename_i q; exact .inr (by simpa using q)
theorem cf_trim (xs : List Int) (t : Nat) : cf (trim xs) t = cf xs t := by
  have hl := tsz_le xs xs.length
  have e : (trim xs).length = tsz xs xs.length := by unfold trim; rw [List.length_take]; omega
  rcases Nat.lt_or_ge t (tsz xs xs.length) with q | q
  · rw [cf_lt (by omega), cf_lt (by omega)]; unfold trim; rw [List.getElem_take]
  · rw [cf_big (by omega)]
    rcases Nat.lt_or_ge t xs.length with z | z
    · exact (tsz_zero xs _ t q z).symm
    · rw [cf_big z]
theorem trim_tr (xs : List Int) : Tr (trim xs) := by
  have hl := tsz_le xs xs.length
  have e : (trim xs).length = tsz xs xs.length := by unfold trim; rw [List.length_take]; omega
  rcases tsz_top xs xs.length with q | q
  · exact .inl (List.length_eq_zero_iff.mp (by omega))
  · exact .inr (by rw [cf_lead, cf_trim, e]; exact q)
theorem Tr.len {a : List Int} (h : Tr a) {k : Nat} (hz : ∀ t, k ≤ t → cf a t = 0) : a.length ≤ k := by
  rcases h with rfl | h
  · exact Nat.zero_le _
  · rcases Nat.lt_or_ge k a.length with q | q
    · exact absurd (by rw [cf_lead]; exact hz _ (by omega)) h
    · exact q
theorem Tr.ne {a : List Int} (h : Tr a) (h1 : 1 ≤ a.length) : lead a ≠ 0 := by
  rcases h with rfl | h
  · simp at h1
  · exact h

theorem cf_zadd (a b : List Int) (t : Nat) : cf (zadd a b) t = cf a t + cf b t := by
  unfold zadd
  rw [cf_trim]
  rcases Nat.lt_or_ge t (max a.length b.length) with q | q
  · rw [cf_lt (by simpa using q)]; simp [cf]
  · rw [cf_big (by simpa using q), cf_big (by omega), cf_big (by omega)]; rfl
theorem cf_zsub (a b : List Int) (t : Nat) : cf (zsub a b) t = cf a t - cf b t := by
  unfold zsub
  rw [cf_zadd, cf_map (by rfl)]; omega
theorem cf_zscale (a : List Int) (k : Int) (t : Nat) : cf (zscale a k) t = cf a t * k := by
  unfold zscale
  split
  · rename_i h; rw [h, Int.mul_zero]; rfl
  · rw [cf_map (by simp)]
theorem cf_zraise (a : List Int) (m t : Nat) : cf (zraise a m) t = sh m (cf a) t := by
  unfold zraise sh
  by_cases h : a = []
  · rw [if_pos h, h]; unfold cf; simp
  · rw [if_neg h]
    split
    · rename_i q
      rw [cf_lt (by simp; omega), List.getElem_append_left (by simpa using q)]; simp
    · rename_i q
      unfold cf
      rw [List.getD_eq_getElem?_getD, List.getElem?_append_right (by simp; omega)]
      simp
theorem zadd_tr (a b : List Int) : Tr (zadd a b) := trim_tr _
theorem zadd_len (a b : List Int) : (zadd a b).length ≤ max a.length b.length := by
  unfold zadd; exact Nat.le_trans (trim_len _) (by simp)
theorem zsub_len (a b : List Int) : (zsub a b).length ≤ max a.length b.length := by
  unfold zsub; exact Nat.le_trans (zadd_len _ _) (by simp)
theorem zscale_tr {a : List Int} {k : Int} (h : Tr a) (hk : k ≠ 0) : Tr (zscale a k) ∧ (zscale a k).length = a.length := by
  have e : (zscale a k).length = a.length := by unfold zscale; rw [if_neg hk]; simp
  refine ⟨?_, e⟩
  rcases h with rfl | h
  · exact .inl (List.length_eq_zero_iff.mp (by rw [e]; rfl))
  · refine .inr ?_
    rw [cf_lead, cf_zscale, e]
    exact Int.mul_ne_zero h hk

theorem cf_stepP (b rest : List Int) (x y : Int) (p t : Nat) : cf (stepP b rest x y p) t = x * cf rest t - y * sh p (cf b) t := by
  unfold stepP
  rw [cf_zsub, cf_zscale, cf_zraise, Int.mul_comm]
  congr 1
  unfold sh
  split
  · simp
  · rw [cf_zscale, Int.mul_comm]
theorem cf_stepF (found : List Int) (x y : Int) (p t : Nat) : cf (stepF found x y p) t = cf found t * x - sh p (cf [-y]) t := by
  unfold stepF
  rw [cf_zsub, cf_zscale, cf_zraise]
theorem stepP_len {b rest : List Int} (h1 : 1 ≤ b.length) (h : b.length ≤ rest.length) : (stepP b rest (lead b) (lead rest) (rest.length - b.length)).length ≤ rest.length - 1 := by
  refine Tr.len (zadd_tr _ _) fun t ht => ?_
  have := cf_stepP b rest (lead b) (lead rest) (rest.length - b.length) t
  refine this.trans ?_
  unfold sh
  rw [if_neg (by omega)]
  rcases Nat.lt_or_ge t rest.length with q | q
  · have e1 : t = rest.length - 1 := by omega
    have e2 : t - (rest.length - b.length) = b.length - 1 := by omega
    rw [e2, ← cf_lead, e1, ← cf_lead, Int.mul_comm]; omega
  · rw [cf_big q, cf_big (a := b) (by omega)]; simp

noncomputable def Fine (k : Nat) (a : List Int) : Prop := a.length ≤ 8 ∧ ∀ t, Bl k (cf a t)
theorem Fine.ok {k : Nat} {a : List Int} (h : Fine k a) (hk : k < 8000) : Ok a :=
  ⟨Nat.le_trans h.1 (by decide), fun x hx => by obtain ⟨t, rfl⟩ := cf_mem hx; exact (h.2 t).fit hk⟩
theorem Fine.mono {k j : Nat} {a : List Int} (h : Fine k a) (hk : k ≤ j) : Fine j a := ⟨h.1, fun t => (h.2 t).mono hk⟩

theorem prun {b : List Int} {X : Nat} (hb : Fine X b) (h1 : 1 ≤ b.length) : ∀ (left Y : Nat) (rest found : List Int), Tr rest → Fine Y rest → Fine Y found → rest.length + 1 ≤ b.length + left → Y + left * (X + 1) < 8000 →
    ∃ k re fe le, PRun b k rest found left re fe le ∧ re.length < b.length ∧ Tr re ∧ le ≤ left ∧ Fine (Y + left * (X + 1)) re ∧ Fine (Y + left * (X + 1)) fe ∧
      ∃ w, Sp (cf b) left w ∧ ∀ t, lead b ^ left * cf rest t = lead b ^ le * cf re t + w t := by
  intro left
  induction left with
  | zero =>
    intro Y rest found ht hr hf hl hs
    refine ⟨0, rest, found, 0, .done (by omega), by omega, ht, Nat.le_refl _, hr.mono (by omega), hf.mono (by omega), _, .zero, fun t => by simp⟩
  | succ left ih =>
    intro Y rest found ht hr hf hl hs
    have em : (left + 1) * (X + 1) = (X + 1) + left * (X + 1) := by rw [Nat.succ_mul, Nat.add_comm]
    rcases Nat.lt_or_ge rest.length b.length with q | q
    · exact ⟨0, rest, found, left + 1, .done q, q, ht, Nat.le_refl _, hr.mono (by omega), hf.mono (by omega), _, .zero, fun t => by simp⟩
    · have hlb : Bl X (lead b) := by rw [cf_lead]; exact hb.2 _
      have hlr : Bl Y (lead rest) := by rw [cf_lead]; exact hr.2 _
      have hln := stepP_len h1 q
      have hY : Y < 8000 := by omega
      have f1 : Fine (X + Y + 1) (stepP b rest (lead b) (lead rest) (rest.length - b.length)) := by
        refine ⟨by have := hr.1; omega, fun t => ?_⟩
        rw [cf_stepP]
        refine Bl.sub (hlb.mul (hr.2 t)) ?_
        unfold sh
        split
        · rw [Int.mul_zero]; exact .zero _
        · rw [Nat.add_comm]; exact hlr.mul (hb.2 _)
      have f2 : Fine (X + Y + 1) (stepF found (lead b) (lead rest) (rest.length - b.length)) := by
        refine ⟨?_, fun t => ?_⟩
        · unfold stepF
          refine Nat.le_trans (zsub_len _ _) ?_
          have a1 := zscale_len found (lead b)
          have a2 := zraise_len [-lead rest] (rest.length - b.length)
          have a3 := hf.1
          have a4 := hr.1
          simp only [List.length_cons, List.length_nil] at a2
          omega
        · rw [cf_stepF]
          refine Bl.sub (by rw [Nat.add_comm]; exact (hf.2 t).mul hlb) ?_
          unfold sh
          split
          · exact .zero _
          · refine Bl.mono (i := Y) ?_ (by omega)
            generalize t - (rest.length - b.length) = u
            cases u with
            | zero => exact hlr.neg
            | succ u => exact .zero _
      obtain ⟨k, re, fe, le, r1, r2, r3, r4, r5, r6, w, r7, r8⟩ := ih (X + Y + 1) (stepP b rest (lead b) (lead rest) (rest.length - b.length)) (stepF found (lead b) (lead rest) (rest.length - b.length)) (show Tr (stepP _ _ _ _ _) from zadd_tr _ _) f1 f2 (by omega) (by omega)
      refine ⟨k + 1, re, fe, le, .step q (hr.ok hY) (hf.ok hY) r1, r2, r3, by omega, r5.mono (by omega), r6.mono (by omega), _, .add (i := rest.length - b.length) (c := lead b ^ left * lead rest) (by omega) (r7.mono (Nat.le_succ _)), fun t => ?_⟩
      have e := r8 t
      have e2 := cf_stepP b rest (lead b) (lead rest) (rest.length - b.length) t
      rw [e2] at e
      rw [← Int.add_assoc, ← e, Int.pow_succ, Int.mul_sub]
      generalize lead b ^ left = u
      generalize sh (rest.length - b.length) (cf b) t = v
      have : u * (lead rest * v) = u * lead rest * v := (Int.mul_assoc _ _ _).symm
      rw [this, Int.mul_assoc]; omega

theorem frest {a b : List Int} {X : Nat} (ha : Fine X a) (hb : Fine X b) (hX : X ≤ 350) (hta : Tr a) (htb : lead b ≠ 0) (h1 : 1 ≤ b.length) (h2 : b.length ≤ a.length) :
    ∃ R, FRest a b R ∧ R.length < b.length ∧ Tr R ∧ Fine 8 [] ∧ ∃ w, Sp (cf b) (a.length - b.length + 1) w ∧ ∀ t, lead b ^ (a.length - b.length + 1) * cf a t = cf R t + w t := by
  have h8 := ha.1
  have el : a.length + 1 - b.length = a.length - b.length + 1 := by omega
  have hm : (a.length + 1 - b.length) * (X + 1) ≤ 8 * 351 := Nat.mul_le_mul (by omega) (by omega)
  obtain ⟨k, re, fe, le, r1, r2, r3, r4, r5, r6, w, r7, r8⟩ := prun hb h1 (a.length + 1 - b.length) X a [] hta ha ⟨by simp, fun t => .zero _⟩ (by omega) (by omega)
  have hlb : Bl X (lead b) := by rw [cf_lead]; exact hb.2 _
  have hm2 : X * le ≤ 350 * 8 := Nat.mul_le_mul hX (by omega)
  have hf1 : Fit (lead b ^ le) := (hlb.pow le).fit (by omega)
  obtain ⟨z1, z2⟩ := zscale_tr r3 (ipow_ne htb le)
  refine ⟨zscale re (lead b ^ le), ⟨k, re, fe, le, r1, r5.ok (by omega), r6.ok (by omega), hf1, by omega, rfl⟩, by omega, z1, ⟨by simp, fun t => .zero _⟩, w, el ▸ r7, fun t => ?_⟩
  rw [← el, r8, cf_zscale, Int.mul_comm (cf re t)]
/-! ## The row of remainders ends in the resultant -/
theorem neg1_even (n : Nat) : (-1 : Int) ^ (2 * n) = 1 := by rw [Int.pow_mul]; exact Int.one_pow
theorem neg1_par (k l : Nat) : (-1 : Int) ^ (k * l) = if l % 2 = 1 ∧ k % 2 = 1 then -1 else 1 := by
  have hk := Nat.div_add_mod k 2
  have hl := Nat.div_add_mod l 2
  generalize k / 2 = x at hk
  generalize l / 2 = y at hl
  split
  · rename_i h
    rw [h.2] at hk; rw [h.1] at hl
    have e : k * l = 2 * (2 * (x * y) + x + y) + 1 := by rw [← hk, ← hl]; simp only [Nat.add_mul, Nat.mul_add]; have : 2 * x * (2 * y) = 2 * (2 * (x * y)) := by ac_rfl
                                                         omega
    rw [e, Int.pow_succ, neg1_even]; rfl
  · rename_i h
    rcases Nat.mod_two_eq_zero_or_one k with q | q
    · rw [q] at hk
      have e : k * l = 2 * (x * l) := by rw [← hk]; simp only [Nat.add_zero]; ac_rfl
      rw [e, neg1_even]
    · rcases Nat.mod_two_eq_zero_or_one l with z | z
      · rw [z] at hl
        have e : k * l = 2 * (k * y) := by rw [← hl]; simp only [Nat.add_zero]; ac_rfl
        rw [e, neg1_even]
      · exact absurd ⟨z, q⟩ h

theorem cf_divided {R : List Int} {k : Int} {S : Nat → Int} (hk : k ≠ 0) (h : ∀ t, cf R t = k * S t) (t : Nat) : cf (divided R k) t = S t := by
  unfold divided
  rw [cf_map (by simp), h, Int.mul_fdiv_cancel_left _ hk]
theorem divided_len (R : List Int) (k : Int) : (divided R k).length = R.length := by simp [divided]

theorem rrun {A B : Nat → Int} {m n : Nat} (hS : ∀ j t, Bl 344 (SR A B m n j t)) : ∀ (N : Nat) (a b : List Int) (c h s : Int) (e : Nat → Int), b.length ≤ N → b.length ≤ a.length → 2 ≤ a.length → a.length ≤ 5 → 1 ≤ b.length → Tr a → lead b ≠ 0 →
    Fine 344 a → Fine 344 b → c ≠ 0 → Bl 344 c → h ≠ 0 → Bl 344 h → Bl 1 s → Sgn e → Rel A B (cf a) (cf b) m n (a.length - 1) (b.length - 1) c h e →
    ∃ k res, RRun k a b c h s res ∧ res = s * e 0 * SR A B m n 0 0 := by
  intro N
  induction N with
  | zero => intro a b c h s e h1 _ _ _ h2; omega
  | succ N ih =>
    intro a b c h s e hN hba ha2 ha5 hb1 hta htb hfa hfb hc hcB hh hhB hs he hE
    have hG : cf b (b.length - 1) ≠ 0 := htb
    have hgz : ∀ t, b.length - 1 < t → cf b t = 0 := fun t ht => cf_big (by omega)
    have hlb : Bl 344 (lead b) := by rw [cf_lead]; exact hfb.2 _
    rcases Nat.lt_or_ge 1 b.length with hb2 | hb2
    · -- a step
      have hgap : a.length - b.length ≤ 4 := by omega
      obtain ⟨R, fR, lR, tR, _, w, hw, hR⟩ := frest hfa hfb (by decide) hta htb hb1 hba
      obtain ⟨r, er⟩ : ∃ r, b.length = r + 2 := ⟨b.length - 2, by omega⟩
      obtain ⟨d, ed⟩ : ∃ d, a.length = b.length + d := ⟨a.length - b.length, by omega⟩
      have e1 : b.length - 1 = r + 1 := by omega
      have e2 : a.length - 1 = r + 1 + d := by omega
      have e3 : a.length - b.length = d := by omega
      rw [e1] at hG hgz
      have hR' : ∀ t, cf b (r + 1) ^ (d + 1) * cf a t = cf R t + w t := by
        intro t
        have := hR t
        rw [e3, cf_lead, e1] at this
        exact this
      rw [e3] at hw
      have hE1 := hE
      rw [e1, e2] at hE1
      have hq := rest_eq hE1 hG hgz (fun t ht => cf_big (by omega)) hR' hw
      have hb0 : c * h ^ d ≠ 0 := Int.mul_ne_zero hc (ipow_ne hh d)
      have hm1 : 344 * d ≤ 344 * 4 := Nat.mul_le_mul_left _ (by omega)
      have hm2 : 344 * (d - 1) ≤ 344 * 4 := Nat.mul_le_mul_left _ (by omega)
      have hcd := cf_divided hb0 hq
      have hpow : Fit (h ^ d) := (hhB.pow d).fit (by omega)
      have hpow1 : Fit (h ^ (d - 1)) := (hhB.pow (d - 1)).fit (by omega)
      have hprod : Fit (c * h ^ d) := (hcB.mul (hhB.pow d)).fit (by omega)
      have hfit := fun {x : Int} (q : Bl 344 x) => q.fit (show 344 < 8000 by decide)
      rcases Nat.eq_zero_or_pos R.length with z | z
      · -- the remainder is 0
        have hz : R = [] := List.length_eq_zero_iff.mp z
        subst hz
        refine ⟨1, 0, .step hb2 hba (hfa.ok (by decide)) (hfb.ok (by decide)) fR (hfit hcB) (hfit hhB) hh (by rw [e3]; exact hpow) hc (by rw [e3]; exact hprod) (by rw [e3]; exact hpow1) (.zero (by omega)), ?_⟩
        rw [zero_eq hE1 he hc hh hG hgz (fun t => cf_big (Nat.zero_le _)) hR' hw 0, Int.mul_zero]
      · have hRl : R.length ≤ b.length - 1 := by omega
        -- the new number h'
        have hh' : ∃ h', (if a.length - b.length = 0 then h else (lead b ^ (a.length - b.length)).fdiv (h ^ (a.length - b.length - 1))) = h' ∧ Bl 344 h' ∧ h' ≠ 0 ∧ ((d = 0 ∧ h' = h) ∨ (∃ x, d = x + 1 ∧ h' * h ^ x = cf b (r + 1) ^ d)) := by
          rw [e3]
          rcases Nat.eq_zero_or_pos d with y | y
          · rw [if_pos y]; exact ⟨h, rfl, hhB, hh, .inl ⟨y, rfl⟩⟩
          · obtain ⟨x, rfl⟩ : ∃ x, d = x + 1 := ⟨d - 1, by omega⟩
            rw [if_neg (by omega), cf_lead, e1]
            have hl := lead_eq hE1 hgz
            have e4 : cf b (r + 1) ^ (x + 1) = h ^ x * (e (r + 1) * SR A B m n (r + 1) (r + 1)) := by rw [hl]; ac_rfl
            rw [e4, show x + 1 - 1 = x by omega, Int.mul_fdiv_cancel_left _ (ipow_ne hh x)]
            refine ⟨_, rfl, ?_, ?_, .inr ⟨x, rfl, Int.mul_comm _ _⟩⟩
            · rcases he (r + 1) with q | q <;> rw [q]
              · rw [Int.one_mul]; exact hS _ _
              · rw [Int.neg_one_mul]; exact (hS _ _).neg
            · intro q
              rw [q, Int.mul_zero] at e4
              exact ipow_ne hG _ e4
        obtain ⟨h', eh, hB', hn', hh'⟩ := hh'
        have hld : lead (divided R (c * h ^ d)) ≠ 0 := by
          rw [cf_lead, divided_len, hcd]
          intro q
          have := hq (R.length - 1)
          rw [q, Int.mul_zero] at this
          exact tR.ne z (by rw [cf_lead]; exact this)
        have hBd : ∀ t, Bl 344 (cf (divided R (c * h ^ d)) t) := fun t => by
          rw [hcd]
          rcases neg1_or (d + 1) with q | q <;> rcases he r with y | y <;> rw [q, y]
          · exact (by simpa using hS r t)
          · have := (hS r t).neg; simpa using this
          · have := (hS r t).neg; simpa using this
          · exact (by simpa using hS r t)
        have hE2 : Rel A B (cf a) (cf b) m n (r + 1 + d) (r + 1) c h e := hE1
        have hnx := rel_next (b' := cf (divided R (c * h ^ d))) (r := R.length - 1) hE2 he hc hh (by omega) hG hgz (fun t ht => cf_big (by rw [divided_len]; omega)) (fun t => by rw [hcd]; exact hq t) hR' hw hh'
        have hs' : Bl 1 (if (a.length - 1) % 2 = 1 ∧ (b.length - 1) % 2 = 1 then -s else s) := by split; exact hs.neg; exact hs
        obtain ⟨k, res, rr, hres⟩ := ih b (divided R (c * h ^ d)) (lead b) h' _ _ (by rw [divided_len]; omega) (by rw [divided_len]; omega) (by omega) (by omega) (by rw [divided_len]; omega) (.inr htb) hld hfb ⟨by rw [divided_len]; have := hfb.1; omega, hBd⟩ htb hlb hn' hB' hs' (he.next _)
          (by rw [divided_len, e1]; rw [cf_lead, e1]; exact hnx)
        refine ⟨k + 1, res, .step hb2 hba (hfa.ok (by decide)) (hfb.ok (by decide)) fR (hfit hcB) (hfit hhB) hh (by rw [e3]; exact hpow) hc (by rw [e3]; exact hprod) (by rw [e3]; exact hpow1) (by rw [eh, e3]; exact rr), ?_⟩
        rw [hres]
        have hp := neg1_par (r + 1) (r + 1 + d)
        simp only [Nat.sub_zero]
        rw [hp, e1, e2]
        split
        · rw [Int.neg_one_mul, Int.neg_mul_neg]
        · rw [Int.one_mul]
    · -- a constant
      obtain ⟨y, rfl⟩ : ∃ y, b = [y] := by
        match b, hb1, hb2 with
        | [y], _, _ => exact ⟨y, rfl⟩
      obtain ⟨d, ed⟩ : ∃ d, a.length = d + 2 := ⟨a.length - 2, by omega⟩
      have e2 : a.length - 1 = 0 + (d + 1) := by omega
      rw [e2] at hE
      have hl := lead_eq (k := 0) hE hgz
      have e3 : cf [y] 0 = y := rfl
      have hyB : Bl 344 y := hlb
      rw [e3] at hl
      have hm1 : 344 * (d + 1) ≤ 344 * 4 := Nat.mul_le_mul_left _ (by omega)
      have e4 : y ^ (a.length - 1) = h ^ (a.length - 2) * (e 0 * SR A B m n 0 0) := by
        rw [show a.length - 1 = d + 1 by omega, show a.length - 2 = d by omega, hl]; ac_rfl
      have e5 : (y ^ (a.length - 1)).fdiv (h ^ (a.length - 2)) = e 0 * SR A B m n 0 0 := by
        rw [e4, Int.mul_fdiv_cancel_left _ (ipow_ne hh _)]
      have hB5 : Bl 344 (e 0 * SR A B m n 0 0) := by
        rcases he 0 with q | q <;> rw [q]
        · rw [Int.one_mul]; exact hS _ _
        · rw [Int.neg_one_mul]; exact (hS _ _).neg
      have hm2 : 344 * (a.length - 2) ≤ 344 * 4 := Nat.mul_le_mul_left _ (by omega)
      refine ⟨0, _, .const ha2 (by omega) (hyB.fit (by decide)) (hhB.fit (by decide)) ((hhB.pow _).fit (by omega)) hh (hs.fit (by decide)) (by rw [e5]; exact hB5.fit (by decide)), ?_⟩
      rw [e5, Int.mul_assoc]
/-! ## How great a determinant can be; what a call of «resultant» answers -/
section bound
variable {α β : Type}
theorem pk_bl {P : β → Prop} {K : Nat} {f : β → List β → Int} (h : ∀ r o, P r → (∀ b ∈ o, P b) → o.length ≤ 8 → Bl K (f r o)) : ∀ xs p : List β, (∀ b ∈ p ++ xs, P b) → (p ++ xs).length ≤ 9 → (pk f p xs).natAbs ≤ xs.length * 2 ^ K
  | [], p, _, _ => by simp [pk]
  | x :: xs, p, hp, hl => by
    rw [pk]
    have e : p ++ [x] ++ xs = p ++ x :: xs := by simp
    have h1 := pk_bl h xs (p ++ [x]) (by rw [e]; exact hp) (by rw [e]; exact hl)
    have h2 := h x (p ++ xs) (hp x (by simp)) (fun b hb => hp b (by rcases List.mem_append.mp hb with q | q; exact List.mem_append_left _ q; exact List.mem_append_right _ (.tail _ q))) (by simp at hl ⊢; omega)
    unfold Bl at h2
    have h3 := Int.natAbs_sub_le (f x (p ++ xs)) (pk f (p ++ [x]) xs)
    rw [List.length_cons, Nat.succ_mul]; omega
theorem Dt_bl {e : α → β → Int} {X : Nat} : ∀ (as : List α) (bs : List β), (∀ b ∈ bs, ∀ a, Bl X (e a b)) → bs.length ≤ 8 → Bl ((X + 3) * as.length) (Dt e as bs)
  | [], [], _, _ => by simp [Dt, Bl]
  | [], _ :: _, _, _ => by simp [Dt, Bl]
  | a :: as, bs, h, hl => by
    rw [Dt]
    have h1 := pk_bl (P := fun b => ∀ a, Bl X (e a b)) (K := X + (X + 3) * as.length) (f := fun b o => e a b * Dt e as o) (fun r o hr ho hl => (hr a).mul (Dt_bl as o ho hl)) bs [] h (by simp; omega)
    unfold Bl
    refine Nat.le_trans h1 ?_
    have e1 : (X + 3) * (a :: as).length = 3 + (X + (X + 3) * as.length) := by rw [List.length_cons, Nat.mul_succ]; omega
    rw [e1, Nat.pow_add 2 3]
    exact Nat.mul_le_mul_right _ hl
end bound
theorem dn_len (j : Nat) : ∀ n, (dn j n).length = n
  | 0 => rfl
  | n + 1 => by rw [dn, List.length_cons, dn_len j n]
theorem SR_bl {A B : Nat → Int} {m n : Nat} (hA : ∀ t, Bl 40 (A t)) (hB : ∀ t, Bl 40 (B t)) (hm : m ≤ 4) (hn : n ≤ 4) (j t : Nat) : Bl 344 (SR A B m n j t) := by
  unfold SR
  refine Bl.mono (Dt_bl (X := 40) _ _ ?_ ?_) ?_
  · intro b hb a
    rcases List.mem_append.mp hb with q | q
    · obtain ⟨i, _, rfl⟩ := blk_mem q
      unfold co sh; split; exact .zero _; exact hA _
    · obtain ⟨i, _, rfl⟩ := blk_mem q
      unfold co sh; split; exact .zero _; exact hB _
  · rw [List.length_append, blk_len, blk_len]; omega
  · rw [List.length_append, dn_len, List.length_singleton]; omega

theorem fold_gcd : ∀ (xs : List Int) (c : Int), xs.foldl (fun f x => (Int.gcd f x : Int)) c ∣ c ∧ ∀ x ∈ xs, xs.foldl (fun f x => (Int.gcd f x : Int)) c ∣ x
  | [], c => ⟨Int.dvd_refl _, fun _ h => nomatch h⟩
  | y :: ys, c => by
    obtain ⟨h1, h2⟩ := fold_gcd ys (Int.gcd c y)
    refine ⟨Int.dvd_trans h1 (Int.gcd_dvd_left ..), fun x hx => ?_⟩
    rcases List.mem_cons.mp hx with rfl | hx
    · exact Int.dvd_trans h1 (Int.gcd_dvd_right ..)
    · exact h2 x hx
theorem content_dvd {xs : List Int} {x : Int} (h : x ∈ xs) : content xs ∣ x := (fold_gcd xs 0).2 x h
theorem content_cf (xs : List Int) (t : Nat) : content xs ∣ cf xs t := by
  rcases Nat.lt_or_ge t xs.length with q | q
  · rw [cf_lt q]; exact content_dvd (List.getElem_mem q)
  · rw [cf_big q]; exact Int.dvd_zero _
theorem Bl.dvd {i : Nat} {x y : Int} (h : Bl i x) (h0 : x ≠ 0) (hd : y ∣ x) : Bl i y := by
  obtain ⟨z, rfl⟩ := hd
  unfold Bl at *
  rw [Int.natAbs_mul] at h
  have : z ≠ 0 := fun q => h0 (by rw [q, Int.mul_zero])
  exact Nat.le_trans (Nat.le_mul_of_pos_right _ (by omega)) h
theorem content_prim (xs : List Int) (h : lead xs ≠ 0) : content xs ≠ 0 ∧ ∀ t, cf xs t = content xs * cf (divided xs (content xs)) t := by
  have h0 : content xs ≠ 0 := fun q => by
    have := content_cf xs (xs.length - 1)
    rw [q] at this
    exact h (Int.zero_dvd.mp this)
  refine ⟨h0, fun t => ?_⟩
  unfold divided
  rw [cf_map (by simp)]
  obtain ⟨z, hz⟩ := content_cf xs t
  rw [hz, Int.mul_fdiv_cancel_left _ h0]

theorem bl_one : Bl 1 1 := by unfold Bl; decide
theorem bl_one' : Bl 1 (-1) := by unfold Bl; decide
theorem resO {a b : List Int} {s : Int} (hs : Bl 1 s) (hba : b.length ≤ a.length) (hb2 : 2 ≤ b.length) (ha5 : a.length ≤ 5) (hla : lead a ≠ 0) (hlb : lead b ≠ 0) (hA : ∀ t, Bl 40 (cf a t)) (hB : ∀ t, Bl 40 (cf b t)) :
    ResO a b s (s * SR (cf a) (cf b) (a.length - 1) (b.length - 1) 0 0) := by
  obtain ⟨ca, ea⟩ := content_prim a hla
  obtain ⟨cb, eb⟩ := content_prim b hlb
  have bla : Bl 40 (content a) := Bl.dvd (hA (a.length - 1)) hla (content_cf _ _)
  have blb : Bl 40 (content b) := Bl.dvd (hB (b.length - 1)) hlb (content_cf _ _)
  have small : ∀ {c x y : Int}, Bl 40 x → c ≠ 0 → x = c * y → Bl 40 y := fun {c x y} hx hc e => by
    by_cases hy : x = 0
    · have : y = 0 := by
        rcases Int.mul_eq_zero.mp (e.symm.trans hy) with q | q
        · exact absurd q hc
        · exact q
      rw [this]; exact .zero _
    · exact hx.dvd hy ⟨c, by rw [e, Int.mul_comm]⟩
  have hA' : ∀ t, Bl 40 (cf (divided a (content a)) t) := fun t => small (hA t) ca (ea t)
  have hB' : ∀ t, Bl 40 (cf (divided b (content b)) t) := fun t => small (hB t) cb (eb t)
  have la' : lead (divided a (content a)) ≠ 0 := by
    rw [cf_lead, divided_len]; intro q
    have := ea (a.length - 1)
    rw [q, Int.mul_zero] at this
    exact hla this
  have lb' : lead (divided b (content b)) ≠ 0 := by
    rw [cf_lead, divided_len]; intro q
    have := eb (b.length - 1)
    rw [q, Int.mul_zero] at this
    exact hlb this
  have hS := SR_bl hA' hB' (m := a.length - 1) (n := b.length - 1) (by omega) (by omega)
  obtain ⟨k, res, hr, he⟩ := rrun hS _ (divided a (content a)) (divided b (content b)) 1 1 s (fun _ => 1) (Nat.le_refl _) (by rw [divided_len, divided_len]; exact hba) (by rw [divided_len]; omega) (by rw [divided_len]; omega) (by rw [divided_len]; omega) (.inr la') lb'
    ⟨by rw [divided_len]; omega, fun t => (hA' t).mono (by decide)⟩ ⟨by rw [divided_len]; omega, fun t => (hB' t).mono (by decide)⟩ (by decide) (by unfold Bl; simp; exact Nat.one_le_two_pow) (by decide) (by unfold Bl; simp; exact Nat.one_le_two_pow) hs (fun _ => .inl rfl)
    (fun j hj t => by rw [divided_len, divided_len, Int.one_pow, Int.one_pow, Int.one_mul, Int.one_mul, Int.one_mul])
  rw [Int.mul_one] at he
  have m1 : 40 * (b.length - 1) ≤ 40 * 4 := Nat.mul_le_mul_left _ (by omega)
  have m2 : 40 * (a.length - 1) ≤ 40 * 4 := Nat.mul_le_mul_left _ (by omega)
  refine ⟨k, res, ca, cb, bla.fit (by decide), blb.fit (by decide), hr, ?_, (bla.pow _).fit (by omega), (blb.pow _).fit (by omega), ((bla.pow _).mul (blb.pow _)).fit (by omega), ?_⟩
  · rw [he]; exact (hs.mul (hS 0 0)).fit (by decide)
  · rw [he, SR_scale1 ea, SR_scale2 eb, Nat.sub_zero, Nat.sub_zero]; ac_rfl

theorem res_ok {a b : List Int} (ha2 : 2 ≤ a.length) (ha5 : a.length ≤ 5) (hb2 : 2 ≤ b.length) (hb5 : b.length ≤ 5) (hla : lead a ≠ 0) (hlb : lead b ≠ 0) (hA : ∀ t, Bl 40 (cf a t)) (hB : ∀ t, Bl 40 (cf b t)) :
    Res a b (SR (cf a) (cf b) (a.length - 1) (b.length - 1) 0 0) := by
  unfold Res
  split
  · rename_i h
    have hsg : Bl 1 (sgnOf b a) := by unfold sgnOf; split; exact bl_one'; exact bl_one
    have := resO hsg (Nat.le_of_lt h) ha2 hb5 hlb hla hB hA
    have e : sgnOf b a = (-1) ^ ((b.length - 1 - 0) * (a.length - 1 - 0)) := by
      rw [Nat.sub_zero, Nat.sub_zero, neg1_par]; unfold sgnOf
      split <;> rename_i q <;> split <;> rename_i z
      · rfl
      · exact absurd ⟨q.2, q.1⟩ z
      · exact absurd ⟨z.2, z.1⟩ q
      · rfl
    rw [SR_swap (cf a) (cf b)]
    rw [e] at this
    rw [e]
    exact this
  · rename_i h
    have := resO (s := 1) bl_one (Nat.le_of_not_lt h) hb2 ha5 hla hlb hA hB
    rw [Int.one_mul] at this
    exact this
/-! ## A linear factor comes out of the resultant -/
section pairs
variable {α β γ : Type}
theorem pk_map (h : γ → β) (f : β → List β → Int) : ∀ (xs p : List γ), pk f (p.map h) (xs.map h) = pk (fun r o => f (h r) (o.map h)) p xs
  | [], p => by simp [pk]
  | x :: xs, p => by
    have := pk_map h f xs (p ++ [x])
    rw [List.map_append] at this
    rw [List.map_cons, pk, pk, ← this, List.map_append]; rfl
theorem Dt_map_r (e : α → β → Int) (h : γ → β) : ∀ (as : List α) (bs : List γ), Dt e as (bs.map h) = Dt (fun a c => e a (h c)) as bs
  | [], [] => rfl
  | [], _ :: _ => rfl
  | a :: as, bs => by
    rw [Dt, Dt]
    have := pk_map h (fun b o => e a b * Dt e as o) bs []
    rw [List.map_nil] at this
    rw [this]
    congr 1; funext r o; rw [Dt_map_r e h as o]
theorem Dt_map_l (e : α → β → Int) (h : γ → α) : ∀ (as : List γ) (bs : List β), Dt e (as.map h) bs = Dt (fun c b => e (h c) b) as bs
  | [], bs => by cases bs <;> rfl
  | a :: as, bs => by
    rw [List.map_cons, Dt, Dt]; congr 1; funext r o; rw [Dt_map_l e h as o]
theorem pk_congr {f g : β → List β → Int} : ∀ {xs p : List β}, (∀ r o, r ∈ xs → (∀ b ∈ o, b ∈ p ++ xs) → f r o = g r o) → pk f p xs = pk g p xs
  | [], p, _ => by simp [pk]
  | x :: xs, p, h => by
    rw [pk, pk, h x (p ++ xs) (.head _) (fun b hb => by rcases List.mem_append.mp hb with q | q; exact List.mem_append_left _ q; exact List.mem_append_right _ (.tail _ q)),
      pk_congr (f := f) (g := g) (xs := xs) (p := p ++ [x]) fun r o hr ho => h r o (.tail _ hr) fun b hb => by have := ho b hb; simpa using this]
theorem Dt_congr {e e' : α → β → Int} : ∀ (as : List α) (bs : List β), (∀ a ∈ as, ∀ b ∈ bs, e a b = e' a b) → Dt e as bs = Dt e' as bs
  | [], bs, _ => by cases bs <;> rfl
  | a :: as, bs, h => by
    rw [Dt, Dt]
    refine pk_congr fun r o hr ho => ?_
    rw [h a (.head _) r hr, Dt_congr as o fun a' ha' b hb => h a' (.tail _ ha') b (ho b hb)]
noncomputable def pr (c : α → Int) : List α → Int
  | [] => 1
  | a :: as => c a * pr c as
theorem pr_app (c : α → Int) : ∀ as bs : List α, pr c (as ++ bs) = pr c as * pr c bs
  | [], bs => by simp [pr]
  | a :: as, bs => by rw [List.cons_append, pr, pr, pr_app c as bs, Int.mul_assoc]
theorem Dt_cols (c : α → Int) (e : α → β → Int) : ∀ (as : List α) (bs : List β), Dt (fun a b => c a * e a b) as bs = pr c as * Dt e as bs
  | [], bs => by cases bs <;> simp [Dt, pr]
  | a :: as, bs => by
    rw [Dt, Dt, pr, ← pk_smul]
    congr 1; funext r o
    rw [Dt_cols c e as o]; ac_rfl
end pairs

noncomputable def up : Nat → List Nat
  | 0 => []
  | n + 1 => up n ++ [n]
theorem up_len : ∀ n, (up n).length = n
  | 0 => rfl
  | n + 1 => by rw [up, List.length_append, up_len n]; rfl
theorem up_mem {i : Nat} : ∀ {n : Nat}, i ∈ up n ↔ i < n
  | 0 => by simp [up]
  | n + 1 => by rw [up, List.mem_append, up_mem, List.mem_singleton]; omega
theorem up_dn (M : Nat) : ∀ j, j ≤ M → (up j).map (fun i => M - 1 - i) = dn (M - j) j
  | 0, _ => rfl
  | j + 1, h => by
    rw [up, List.map_append, up_dn M j (by omega)]
    show _ ++ [M - 1 - j] = _
    have e1 : M - 1 - j = M - (j + 1) := by omega
    have e2 : M - j = M - (j + 1) + 1 := by omega
    rw [e1, e2, dn_last]

/-- «p x - t» times f -/
noncomputable def mL (p t : Int) (f : Nat → Int) : Nat → Int := fun i => p * sh 1 f i - t * f i
/-- the value at t/p, times powers of p -/
noncomputable def ps (p t : Int) (M : Nat) : Nat → (Nat → Int) → Int
  | 0, f => f M
  | j + 1, f => p ^ (j + 1) * f (M - (j + 1)) + t * ps p t M j f

theorem ps_mL {p t : Int} {M : Nat} {y : Nat → Int} (hy : ∀ i, M ≤ i → y i = 0) : ∀ j, j < M → ps p t M j (mL p t y) = p ^ (j + 1) * y (M - 1 - j)
  | 0, h => by
    unfold ps mL sh
    have e : p ^ (0 + 1) = p := Int.pow_one p
    rw [if_neg (by omega), hy M (Nat.le_refl _), e]; simp
  | j + 1, h => by
    unfold ps
    rw [ps_mL hy j (by omega)]
    unfold mL sh
    rw [if_neg (by omega), show M - (j + 1) - 1 = M - 1 - (j + 1) by omega, show M - (j + 1) = M - 1 - j by omega, Int.pow_succ p (j + 1)]
    generalize p ^ (j + 1) = x
    generalize y (M - 1 - (j + 1)) = u
    generalize y (M - 1 - j) = v
    grind
theorem ps_mL0 {p t : Int} {y : Nat → Int} : ∀ {M : Nat}, (∀ i, M ≤ i → y i = 0) → ps p t M M (mL p t y) = 0
  | 0, hy => by
    unfold ps mL sh
    rw [if_pos (by decide), hy 0 (Nat.le_refl _)]; simp
  | M + 1, hy => by
    unfold ps
    rw [ps_mL hy M (by omega)]
    unfold mL sh
    rw [if_pos (by omega), show M + 1 - 1 - M = M + 1 - (M + 1) by omega]
    generalize p ^ (M + 1) = x
    generalize y (M + 1 - (M + 1)) = v
    grind

noncomputable def ap (φ : (Nat → Int) → Int) (f : Nat → Int) : Int := φ f
theorem ps_cols {p t : Int} {M : Nat} (rows : List (Nat → Int)) : ∀ (j : Nat) (rest : List ((Nat → Int) → Int)), Dt ap ((up j).map (ps p t M) ++ rest) rows = pr (fun i => p ^ i) (up j) * Dt ap ((up j).map (fun i f => f (M - i)) ++ rest) rows
  | 0, rest => by simp [up, pr]
  | j + 1, rest => by
    have ih := ps_cols (p := p) (t := t) (M := M) rows j ((fun f => f (M - j)) :: rest)
    have key : Dt ap ((up j).map (ps p t M) ++ ps p t M j :: rest) rows = p ^ j * Dt ap ((up j).map (ps p t M) ++ (fun f => f (M - j)) :: rest) rows := by
      rw [Dt_tr, Dt_tr ap]
      cases j with
      | zero =>
        have := Dt_scale (e := fun (b : Nat → Int) (a : (Nat → Int) → Int) => ap a b) (as := rows) (u := fun f => f (M - 0)) (w := ps p t M 0) (x := (up 0).map (ps p t M)) (y := rest) (s := p ^ 0) (fun a => by show a M = p ^ 0 * a (M - 0); simp)
        exact this
      | succ j =>
        have h1 := Dt_lin (e := fun (b : Nat → Int) (a : (Nat → Int) → Int) => ap a b) (u := fun f => f (M - (j + 1))) (v := ps p t M j) (w := ps p t M (j + 1)) (s := p ^ (j + 1)) (t := t) (fun a => rfl) rows ((up (j + 1)).map (ps p t M)) rest
        have h2 := Dt_mem_l (e := fun (b : Nat → Int) (a : (Nat → Int) → Int) => ap a b) (as := rows) (u := ps p t M j) (x := (up (j + 1)).map (ps p t M)) (y := rest) (List.mem_map_of_mem (up_mem.mpr (Nat.lt_succ_self j)))
        rw [h1, h2, Int.mul_zero, Int.add_zero]
    have e : ∀ (F : Nat → (Nat → Int) → Int), (up (j + 1)).map F ++ rest = (up j).map F ++ F j :: rest := fun F => by rw [up, List.map_append]; simp
    rw [e, e, key, ih, up, pr_app]
    show p ^ j * (_ * _) = _ * (p ^ j * 1) * _
    rw [Int.mul_one]; ac_rfl
theorem pr_up (p : Int) : ∀ M, pr (fun j => p ^ (j + 1)) (up M) = pr (fun i => p ^ i) (up (M + 1))
  | 0 => by simp [up, pr]
  | M + 1 => by
    rw [up, pr_app, pr_up p M]
    show _ = pr (fun i => p ^ i) (up (M + 1) ++ [M + 1])
    rw [pr_app]; simp [pr]
theorem pr_ne {p : Int} (hp : p ≠ 0) : ∀ M, pr (fun i => p ^ i) (up M) ≠ 0
  | 0 => by simp [up, pr]
  | M + 1 => by
    rw [up, pr_app]
    refine Int.mul_ne_zero (pr_ne hp M) ?_
    simp only [pr, Int.mul_one]
    exact ipow_ne hp M

theorem Dt_fac {p t : Int} (hp : p ≠ 0) {M : Nat} {ys : List (Nat → Int)} {g : Nat → Int} (hl : ys.length = M) (hy : ∀ y ∈ ys, ∀ i, M ≤ i → y i = 0) :
    Dt co (dn 0 (M + 1)) (ys.map (mL p t) ++ [g]) = ps p t M M g * Dt co (dn 0 M) ys := by
  apply Int.eq_of_mul_eq_mul_left (pr_ne hp (M + 1))
  have h1 := ps_cols (p := p) (t := t) (M := M) (ys.map (mL p t) ++ [g]) (M + 1) []
  rw [List.append_nil, List.append_nil] at h1
  have h2 : Dt ap ((up (M + 1)).map (fun i f => f (M - i))) (ys.map (mL p t) ++ [g]) = Dt co (dn 0 (M + 1)) (ys.map (mL p t) ++ [g]) := by
    have := up_dn (M + 1) (M + 1) (Nat.le_refl _)
    rw [Nat.sub_self] at this
    rw [← this, Dt_map_l, Dt_map_l]; rfl
  rw [h2] at h1
  rw [← h1]
  have h3 : (up (M + 1)).map (ps p t M) = (up M).map (ps p t M) ++ [ps p t M M] := by rw [up, List.map_append]; rfl
  rw [h3, Dt_blocks2]
  rw [Dt_tr, Dt_blocks2, ← Dt_tr (fun (a : (Nat → Int) → Int) (b : Nat → Int) => ap a b)]
  show (-1) ^ _ * ((-1) ^ _ * Dt ap (ps p t M M :: (up M).map (ps p t M)) (g :: ys.map (mL p t))) = _
  rw [Dt_pivot (fun b hb => by
    obtain ⟨y, hy', rfl⟩ := List.mem_map.mp hb
    exact ps_mL0 (hy y hy'))]
  rw [← Int.mul_assoc, List.length_map, List.length_map, up_len, hl, List.length_singleton, List.length_singleton, neg1_sq, Int.one_mul]
  have h5 := Dt_congr (e := fun c b => ap (ps p t M c) (mL p t b)) (e' := fun j y => p ^ (j + 1) * y (M - 1 - j)) (up M) ys (fun j hj y hy' => ps_mL (hy y hy') j (up_mem.mp hj))
  rw [Dt_map_r, Dt_map_l, h5]
  rw [Dt_cols (fun j => p ^ (j + 1)) (fun j (y : Nat → Int) => y (M - 1 - j)), pr_up]
  have h4 : Dt (fun j (y : Nat → Int) => y (M - 1 - j)) (up M) ys = Dt co (dn 0 M) ys := by
    have := up_dn M M (Nat.le_refl _)
    rw [Nat.sub_self] at this
    rw [← this, Dt_map_l]; rfl
  rw [h4]
  show ps p t M M g * _ = _
  ac_rfl
/-! ## The resultant of products -/
noncomputable def Rs (f : Nat → Int) (m : Nat) (g : Nat → Int) (n : Nat) : Int := Dt co (dn 0 (m + n)) (blk f n ++ blk g m)
theorem Rs_SR {f g : Nat → Int} {m n : Nat} (h : 1 ≤ m + n) : SR f g m n 0 0 = Rs f m g n := by
  unfold SR Rs
  have e : m + n - 2 * 0 - 1 + 1 = m + n := by omega
  rw [dn_last, e]; rfl
theorem Rs_swap (f g : Nat → Int) (m n : Nat) : Rs f m g n = (-1) ^ (n * m) * Rs g n f m := by
  unfold Rs; rw [Dt_blocks2, blk_len, blk_len, Nat.add_comm m n]
theorem Rs_scale {f f' g : Nat → Int} {c : Int} (h : ∀ t, f t = c * f' t) (m n : Nat) : Rs f m g n = c ^ n * Rs f' m g n := by
  unfold Rs
  have := blk_scale h (cs := dn 0 (m + n)) (Y := blk g m) n []
  simpa using this

noncomputable def Vn (n : Nat) (f : Nat → Int) : Prop := ∀ i, n ≤ i → f i = 0
theorem sh_mL (i : Nat) (p t : Int) (f : Nat → Int) : sh i (mL p t f) = mL p t (sh i f) := by
  funext x
  show sh i (mL p t f) x = p * sh 1 (sh i f) x - t * sh i f x
  rw [sh_sh, Nat.add_comm i 1, ← sh_sh]
  unfold sh mL
  split
  · simp
  · rfl
theorem blk_mL (p t : Int) (f : Nat → Int) : ∀ n, blk (mL p t f) n = (blk f n).map (mL p t)
  | 0 => rfl
  | n + 1 => by rw [blk, blk, List.map_cons, blk_mL p t f n, sh_mL]
theorem blk_conv {p t : Int} {g : Nat → Int} {cs : List Nat} : ∀ (m : Nat) (X : List (Nat → Int)), p ^ m * Dt co cs (X ++ blk g (m + 1)) = Dt co cs (X ++ (blk (mL p t g) m ++ [g]))
  | 0, X => by simp [blk, sh_zero]
  | m + 1, X => by
    have ih := blk_conv (p := p) (t := t) (g := g) (cs := cs) m (X ++ [sh m (mL p t g)])
    simp only [List.append_assoc, List.cons_append, List.nil_append] at ih
    show p ^ (m + 1) * Dt co cs (X ++ sh (m + 1) g :: blk g (m + 1)) = Dt co cs (X ++ sh m (mL p t g) :: (blk (mL p t g) m ++ [g]))
    rw [← ih, Int.pow_succ, Int.mul_assoc]
    congr 1
    have h1 := Dt_lin (e := co) (u := sh (m + 1) g) (v := sh m g) (w := sh m (mL p t g)) (s := p) (t := -t) (fun a => by
      rw [sh_mL]; show p * sh 1 (sh m g) a - t * sh m g a = p * sh (m + 1) g a + -t * sh m g a
      rw [sh_sh, Int.neg_mul]; rfl) cs X (blk g (m + 1))
    rw [h1, Dt_mem_r (mem_blk (Nat.lt_succ_self m)), Int.mul_zero, Int.add_zero]

theorem ps_up {p t : Int} {M : Nat} {g : Nat → Int} (h : g (M + 1) = 0) : ∀ j, ps p t (M + 1) (j + 1) g = p * ps p t M j g
  | 0 => by
    unfold ps
    show p ^ (0 + 1) * g (M + 1 - (0 + 1)) + t * ps p t (M + 1) 0 g = p * g M
    have e : p ^ (0 + 1) = p := Int.pow_one p
    rw [e, show M + 1 - (0 + 1) = M by omega]; unfold ps; rw [h]; simp
  | j + 1 => by
    rw [ps, ps_up h j]
    show _ = p * (p ^ (j + 1) * g (M - (j + 1)) + t * ps p t M j g)
    rw [show M + 1 - (j + 1 + 1) = M - (j + 1) by omega, Int.pow_succ p (j + 1)]
    generalize p ^ (j + 1) = x
    grind
noncomputable def Ph (p t : Int) (n : Nat) (g : Nat → Int) : Int := ps p t n n g
theorem Ph_up {p t : Int} {n : Nat} {g : Nat → Int} (h : g (n + 1) = 0) : Ph p t (n + 1) g = p * Ph p t n g := ps_up h n
theorem Ph_ups {p t : Int} {n : Nat} {g : Nat → Int} (h : Vn (n + 1) g) : ∀ m, Ph p t (m + n) g = p ^ m * Ph p t n g
  | 0 => by simp
  | m + 1 => by
    rw [show m + 1 + n = m + n + 1 by omega, Ph_up (h _ (by omega)), Ph_ups h m, Int.pow_succ]; ac_rfl

theorem Rs_fac {p t : Int} (hp : p ≠ 0) {f g : Nat → Int} {m n : Nat} (hf : Vn (m + 1) f) (hg : Vn (n + 1) g) : Rs (mL p t f) (m + 1) g n = Ph p t n g * Rs f m g n := by
  apply Int.eq_of_mul_eq_mul_left (ipow_ne hp m)
  unfold Rs
  rw [blk_conv m (blk (mL p t f) n) (t := t), blk_mL, blk_mL, ← List.append_assoc, ← List.map_append, show m + 1 + n = m + n + 1 by omega]
  rw [Dt_fac hp (by rw [List.length_append, blk_len, blk_len]; omega)]
  · have := Ph_ups (p := p) (t := t) hg m
    unfold Ph at this
    rw [this]; unfold Ph; ac_rfl
  · intro y hy i hi
    rcases List.mem_append.mp hy with q | q
    · obtain ⟨k, hk, rfl⟩ := blk_mem q
      unfold sh; rw [if_neg (by omega)]; exact hf _ (by omega)
    · obtain ⟨k, hk, rfl⟩ := blk_mem q
      unfold sh; rw [if_neg (by omega)]; exact hg _ (by omega)

/-! constants, quadratic factors, and what they do at a root -/
noncomputable def Kc (c : Int) : Nat → Int := fun i => if i = 0 then c else 0
noncomputable def mQ (u : Int) (f : Nat → Int) : Nat → Int := fun i => sh 2 f i - 2 * u * sh 1 f i + (u * u + 1) * f i
theorem Vn.K (c : Int) : Vn 1 (Kc c) := fun i hi => by unfold Kc; rw [if_neg (by omega)]
theorem Vn.L {n : Nat} {f : Nat → Int} (h : Vn n f) (p t : Int) : Vn (n + 1) (mL p t f) := fun i hi => by
  unfold mL sh; rw [if_neg (by omega), h _ (by omega), h _ (by omega)]; simp
theorem Vn.Q {n : Nat} {f : Nat → Int} (h : Vn n f) (u : Int) : Vn (n + 2) (mQ u f) := fun i hi => by
  unfold mQ sh; rw [if_neg (by omega), if_neg (by omega), h _ (by omega), h _ (by omega), h _ (by omega)]; simp
theorem Vn.mono {n m : Nat} {f : Nat → Int} (h : Vn n f) (hm : n ≤ m) : Vn m f := fun i hi => h i (Nat.le_trans hm hi)
theorem Vn.S {n : Nat} {f : Nat → Int} (h : Vn n f) (k : Nat) : Vn (n + k) (sh k f) := fun i hi => by
  unfold sh; rw [if_neg (by omega)]; exact h _ (by omega)

theorem ps_lin {p t a b : Int} {f g w : Nat → Int} (h : ∀ i, w i = a * f i + b * g i) (M : Nat) : ∀ j, ps p t M j w = a * ps p t M j f + b * ps p t M j g
  | 0 => h M
  | j + 1 => by
    rw [ps, ps, ps, ps_lin h M j, h]
    generalize p ^ (j + 1) = x
    grind
theorem ps_sh {p t : Int} {f : Nat → Int} (M : Nat) : ∀ j, j ≤ M → ps p t (M + 1) j (sh 1 f) = ps p t M j f
  | 0, _ => by unfold ps sh; rw [if_neg (by omega)]; rfl
  | j + 1, h => by
    rw [ps, ps, ps_sh M j (by omega)]
    unfold sh; rw [if_neg (by omega), show M + 1 - (j + 1) - 1 = M - (j + 1) by omega]
theorem Ph_sh {p t : Int} {f : Nat → Int} (n : Nat) : Ph p t (n + 1) (sh 1 f) = t * Ph p t n f := by
  unfold Ph
  rw [ps, ps_sh n n (Nat.le_refl _)]
  unfold sh; rw [if_pos (by omega)]; simp
theorem Ph_L {p t q s : Int} {n : Nat} {f : Nat → Int} (h : Vn (n + 1) f) : Ph p t (n + 1) (mL q s f) = (q * t - s * p) * Ph p t n f := by
  have h1 := ps_lin (p := p) (t := t) (a := q) (b := -s) (f := sh 1 f) (g := f) (w := mL q s f) (fun i => by unfold mL; rw [Int.neg_mul]; rfl) (n + 1) (n + 1)
  have h2 := Ph_sh (p := p) (t := t) (f := f) n
  have h3 := Ph_up (p := p) (t := t) (h (n + 1) (Nat.le_refl _))
  unfold Ph at *
  rw [h1, h2, h3]; grind
theorem Ph_Q {p t u : Int} {n : Nat} {f : Nat → Int} (h : Vn (n + 1) f) : Ph p t (n + 2) (mQ u f) = ((t - u * p) * (t - u * p) + p * p) * Ph p t n f := by
  have h1 := ps_lin (p := p) (t := t) (a := 1) (b := -2 * u) (f := sh 2 f) (g := sh 1 f) (w := fun i => sh 2 f i - 2 * u * sh 1 f i) (fun i => by grind) (n + 2) (n + 2)
  have h2 := ps_lin (p := p) (t := t) (a := 1) (b := u * u + 1) (f := fun i => sh 2 f i - 2 * u * sh 1 f i) (g := f) (w := mQ u f) (fun i => by unfold mQ; grind) (n + 2) (n + 2)
  have h3 := Ph_sh (p := p) (t := t) (f := sh 1 f) (n + 1)
  have h4 := Ph_sh (p := p) (t := t) (f := f) n
  have h5 := Ph_up (p := p) (t := t) (n := n + 1) (g := sh 1 f) ((h.S 1) _ (by omega))
  have h6 := Ph_up (p := p) (t := t) (h (n + 1) (Nat.le_refl _))
  have h7 := Ph_up (p := p) (t := t) (n := n + 1) (h (n + 2) (by omega))
  rw [sh_sh] at h3
  unfold Ph at *
  rw [h2, h1, h3, h4, h7, h6, show n + 2 = n + 1 + 1 from rfl, h5, h4]; grind
theorem Ph_K (p t c : Int) : Ph p t 0 (Kc c) = c := rfl
theorem Rs_K (c : Int) (g : Nat → Int) (n : Nat) : Rs (Kc c) 0 g n = c ^ n := by
  unfold Rs
  have := SR_pivot (g := Kc c) (k := 0) (q := 0) (cs := []) (rest := []) (fun t ht => Vn.K c t ht) (by simp) n
  simp only [Nat.zero_add, List.append_nil] at this ⊢
  have e : Kc c 0 = c := rfl
  rw [e] at this
  simpa [blk, Dt] using this
theorem sh_smul {f f' : Nat → Int} {c : Int} (h : ∀ t, f t = c * f' t) (i t : Nat) : sh i f t = c * sh i f' t := by
  unfold sh; split
  · simp
  · exact h _
theorem mQ_smul {f f' : Nat → Int} {c : Int} (h : ∀ t, f t = c * f' t) (u : Int) (t : Nat) : mQ u f t = c * mQ u f' t := by
  unfold mQ; rw [sh_smul h, sh_smul h, h]; grind
theorem Kc_one (c : Int) (t : Nat) : Kc c t = c * Kc 1 t := by unfold Kc; split <;> simp
theorem Rs_QQ (u v c d : Int) : Rs (mQ u (Kc c)) 2 (mQ v (Kc d)) 2 = (c * d) * (c * d) * ((u - v) * (u - v) * ((u - v) * (u - v) + 4)) := by
  have e1 : Rs (mQ u (Kc c)) 2 (mQ v (Kc d)) 2 = c ^ 2 * Rs (mQ u (Kc 1)) 2 (mQ v (Kc d)) 2 := Rs_scale (mQ_smul (Kc_one _) _) 2 2
  have e2 := Rs_swap (mQ u (Kc 1)) (mQ v (Kc d)) 2 2
  have e3 : Rs (mQ v (Kc d)) 2 (mQ u (Kc 1)) 2 = d ^ 2 * Rs (mQ v (Kc 1)) 2 (mQ u (Kc 1)) 2 := Rs_scale (mQ_smul (Kc_one _) _) 2 2
  have e4 : Rs (mQ v (Kc 1)) 2 (mQ u (Kc 1)) 2 = (u - v) * (u - v) * ((u - v) * (u - v) + 4) := by
    simp [Rs, dn, blk, Dt, pk, co, mQ, sh, Kc]
    grind
  rw [e1, e2, e3, e4]
  grind
/-! ## The lists that the law builds, as products -/
theorem sh_cons (x : Int) (xs : List Int) (k i : Nat) : sh k (cf (x :: xs)) i = x * sh k (Kc 1) i + sh (k + 1) (cf xs) i := by
  unfold sh
  by_cases h : i < k
  · rw [if_pos h, if_pos h, if_pos (by omega)]; simp
  · rw [if_neg h, if_neg h]
    by_cases h2 : i < k + 1
    · have e : i - k = 0 := by omega
      rw [if_pos h2, e]; simp [cf, Kc]
    · obtain ⟨j, e⟩ : ∃ j, i - k = j + 1 := ⟨i - k - 1, by omega⟩
      have e2 : i - (k + 1) = j := by omega
      rw [if_neg h2, e, e2]; simp [cf, Kc]
theorem sh_nil (k i : Nat) : sh k (cf []) i = 0 := by unfold sh cf; simp
theorem cf_addAt {xs ys : List Int} {k : Nat} (l : Int) (h : k + ys.length ≤ xs.length) (t : Nat) : cf (addAt xs k l ys) t = cf xs t + l * sh k (cf ys) t := by
  rcases Nat.lt_or_ge t xs.length with q | q
  · have := addAt_get (xs := xs) (k := k) l ys q
    unfold cf sh
    rw [this]
    split <;> split
    · omega
    · rfl
    · simp
    · omega
  · rw [cf_big (by rw [addAt_len]; exact q), cf_big q]
    unfold sh
    split
    · simp
    · rw [cf_big (by omega)]; simp
noncomputable def mulF (b : List Int) : List Int → Nat → Nat → Int
  | [], _, _ => 0
  | x :: xs, k, t => x * sh k (cf b) t + mulF b xs (k + 1) t
theorem cf_lmulK {b : List Int} : ∀ (xs : List Int) (k : Nat) (acc : List Int), k + xs.length + b.length ≤ acc.length + 1 → ∀ t, cf (lmulK b xs k acc) t = cf acc t + mulF b xs k t
  | [], k, acc, _, t => by simp [lmulK, mulF]
  | x :: xs, k, acc, h, t => by
    simp only [List.length_cons] at h
    rw [lmulK, cf_lmulK xs (k + 1) _ (by rw [addAt_len]; omega), cf_addAt _ (by omega), mulF]; omega
theorem cf_rep (n t : Nat) : cf (List.replicate n 0) t = 0 := by
  rcases Nat.lt_or_ge t n with q | q
  · rw [cf_lt (by simpa using q)]; simp
  · exact cf_big (by simpa using q)
theorem cf_lmul {a b : List Int} (h : 1 ≤ a.length + b.length) (t : Nat) : cf (lmul a b) t = mulF b a 0 t := by
  unfold lmul
  rw [cf_lmulK _ _ _ (by simp; omega), cf_rep]; omega
theorem mulF_lin (p s : Int) (t : Nat) : ∀ (xs : List Int) (k : Nat), mulF [-s, p] xs k t = p * sh (k + 1) (cf xs) t - s * sh k (cf xs) t
  | [], k => by rw [mulF, sh_nil, sh_nil]; simp
  | x :: xs, k => by
    rw [mulF, mulF_lin p s t xs (k + 1), sh_cons x xs, sh_cons x xs, sh_cons, sh_cons, sh_nil]
    grind
theorem mulF_quad (u : Int) (t : Nat) : ∀ (xs : List Int) (k : Nat), mulF (quad u) xs k t = sh (k + 2) (cf xs) t - 2 * u * sh (k + 1) (cf xs) t + (u * u + 1) * sh k (cf xs) t
  | [], k => by rw [mulF, sh_nil, sh_nil, sh_nil]; simp
  | x :: xs, k => by
    unfold quad
    have ih := mulF_quad u t xs (k + 1)
    unfold quad at ih
    rw [mulF, ih, sh_cons x xs, sh_cons x xs, sh_cons x xs, sh_cons, sh_cons, sh_cons, sh_nil]
    grind
theorem cf_mulL (a : List Int) (r : Int × Int) : cf (lmul a [-r.1, r.2]) = mL r.2 r.1 (cf a) := by
  funext t
  rw [cf_lmul (by simp), mulF_lin, sh_zero]; rfl
theorem cf_mulQ (a : List Int) (u : Int) : cf (lmul a (quad u)) = mQ u (cf a) := by
  funext t
  rw [cf_lmul (by simp [quad]), mulF_quad, sh_zero]; rfl

noncomputable def dq : Option Int → Nat
  | none => 0
  | some _ => 2
noncomputable def bse (c : Int) : Option Int → Nat → Int
  | none => Kc c
  | some u => mQ u (Kc c)
noncomputable def fL (f : Nat → Int) (rs : List (Int × Int)) : Nat → Int := rs.foldl (fun f r => mL r.2 r.1 f) f
noncomputable def PB (c : Int) (rs : List (Int × Int)) (ax : Option Int) : Nat → Int := fL (bse c ax) rs
theorem cf_one (c : Int) : cf [c] = Kc c := by
  funext t; cases t <;> simp [cf, Kc]
theorem cf_madeL : ∀ (rs : List (Int × Int)) (a : List Int), cf (rs.foldl (fun f r => lmul f [-r.1, r.2]) a) = fL (cf a) rs
  | [], a => rfl
  | r :: rs, a => by rw [List.foldl_cons, cf_madeL rs, cf_mulL]; rfl
theorem sh_mQ (i : Nat) (u : Int) (f : Nat → Int) : sh i (mQ u f) = mQ u (sh i f) := by
  funext x
  show sh i (mQ u f) x = sh 2 (sh i f) x - 2 * u * sh 1 (sh i f) x + (u * u + 1) * sh i f x
  rw [sh_sh, sh_sh, Nat.add_comm i 1, Nat.add_comm i 2, ← sh_sh, ← sh_sh]
  unfold sh mQ
  split
  · simp
  · rfl
theorem mQ_mL (u p t : Int) (f : Nat → Int) : mQ u (mL p t f) = mL p t (mQ u f) := by
  funext x
  show sh 2 (mL p t f) x - 2 * u * sh 1 (mL p t f) x + (u * u + 1) * mL p t f x = p * sh 1 (mQ u f) x - t * mQ u f x
  rw [sh_mL, sh_mL, sh_mQ]
  unfold mL mQ
  rw [sh_sh, sh_sh 2 1]
  show p * sh 3 f x - t * sh 2 f x - 2 * u * (p * sh 1 (sh 1 f) x - t * sh 1 f x) + (u * u + 1) * (p * sh 1 f x - t * f x) = p * (sh 3 f x - 2 * u * sh 1 (sh 1 f) x + (u * u + 1) * sh 1 f x) - t * (sh 2 f x - 2 * u * sh 1 f x + (u * u + 1) * f x)
  generalize sh 3 f x = a
  generalize sh 2 f x = b
  generalize sh 1 (sh 1 f) x = c
  generalize sh 1 f x = d
  grind
theorem mQ_fL (u : Int) : ∀ (rs : List (Int × Int)) (f : Nat → Int), mQ u (fL f rs) = fL (mQ u f) rs
  | [], f => rfl
  | r :: rs, f => by
    show mQ u (fL (mL r.2 r.1 f) rs) = fL (mL r.2 r.1 (mQ u f)) rs
    rw [mQ_fL u rs, mQ_mL]
theorem cf_madeP (c : Int) (rs : List (Int × Int)) (ax : Option Int) : cf (madeP c rs ax) = PB c rs ax := by
  cases ax with
  | none => show cf (madeL c rs) = _; unfold madeL; rw [cf_madeL, cf_one]; rfl
  | some u => show cf (lmul (madeL c rs) (quad u)) = _; unfold madeL; rw [cf_mulQ, cf_madeL, cf_one, mQ_fL]; rfl
theorem madeP_len (c : Int) (rs : List (Int × Int)) (ax : Option Int) : (madeP c rs ax).length = rs.length + dq ax + 1 := by
  cases ax with
  | none => exact madeL_len c rs
  | some u => show (lmul (madeL c rs) (quad u)).length = _; rw [lmul_len, madeL_len]; simp [quad, dq]

theorem Vn.fL : ∀ {rs : List (Int × Int)} {n : Nat} {f : Nat → Int}, Vn n f → Vn (n + rs.length) (fL f rs)
  | [], n, f, h => h
  | r :: rs, n, f, h => by
    have := Vn.fL (rs := rs) (h.L r.2 r.1)
    rw [List.length_cons, show n + (rs.length + 1) = n + 1 + rs.length by omega]; exact this
theorem Vn.bse (c : Int) : ∀ ax, Vn (dq ax + 1) (bse c ax)
  | none => Vn.K c
  | some u => (Vn.K c).Q u
theorem Vn.PB (c : Int) (rs : List (Int × Int)) (ax : Option Int) : Vn (rs.length + dq ax + 1) (PB c rs ax) :=
  ((Vn.bse c ax).fL).mono (by omega)
theorem top_mL {f : Nat → Int} {m : Nat} (h : Vn (m + 1) f) (p t : Int) : mL p t f (m + 1) = p * f m := by
  unfold mL sh; rw [if_neg (by omega), h (m + 1) (Nat.le_refl _)]; simp
theorem top_fL : ∀ {rs : List (Int × Int)} {m : Nat} {f : Nat → Int}, Vn (m + 1) f → f m ≠ 0 → (∀ r ∈ rs, r.2 ≠ 0) → fL f rs (m + rs.length) ≠ 0
  | [], m, f, _, h, _ => h
  | r :: rs, m, f, hv, h, hr => by
    have := top_fL (rs := rs) (m := m + 1) (hv.L r.2 r.1) (by rw [top_mL hv]; exact Int.mul_ne_zero (hr r (.head _)) h) fun r' h' => hr r' (.tail _ h')
    rw [List.length_cons, show m + (rs.length + 1) = m + 1 + rs.length by omega]; exact this
theorem top_bse {c : Int} (h : c ≠ 0) : ∀ ax, bse c ax (dq ax) ≠ 0
  | none => h
  | some u => by
    have e : bse c (some u) (dq (some u)) = c := by
      show sh 2 (Kc c) 2 - 2 * u * sh 1 (Kc c) 2 + (u * u + 1) * Kc c 2 = c
      simp [sh, Kc]
    rw [e]; exact h
theorem top_PB {c : Int} {rs : List (Int × Int)} {ax : Option Int} (h : c ≠ 0) (hr : ∀ r ∈ rs, r.2 ≠ 0) : PB c rs ax (rs.length + dq ax) ≠ 0 := by
  rw [Nat.add_comm]; exact top_fL (Vn.bse c ax) (top_bse h ax) hr

/-! the place moved -/
noncomputable def Ts (h : Int) : Nat → (Nat → Int) → Nat → Int
  | 0, _ => fun _ => 0
  | n + 1, f => fun i => Kc (f 0) i + mL 1 (-h) (Ts h n fun j => f (j + 1)) i
theorem Ts_lin {h a b : Int} : ∀ {n : Nat} {f g w : Nat → Int}, (∀ i, w i = a * f i + b * g i) → ∀ i, Ts h n w i = a * Ts h n f i + b * Ts h n g i
  | 0, f, g, w, _, i => by simp [Ts]
  | n + 1, f, g, w, hw, i => by
    have ih := Ts_lin (h := h) (a := a) (b := b) (n := n) (f := fun j => f (j + 1)) (g := fun j => g (j + 1)) (w := fun j => w (j + 1)) (fun i => hw _)
    show Kc (w 0) i + (1 * sh 1 _ i - -h * _) = a * (Kc (f 0) i + (1 * sh 1 _ i - -h * _)) + b * (Kc (g 0) i + (1 * sh 1 _ i - -h * _))
    rw [ih i]
    have e : sh 1 (Ts h n fun j => w (j + 1)) i = a * sh 1 (Ts h n fun j => f (j + 1)) i + b * sh 1 (Ts h n fun j => g (j + 1)) i := by
      unfold sh; split
      · simp
      · exact ih _
    have e2 : Kc (w 0) i = a * Kc (f 0) i + b * Kc (g 0) i := by unfold Kc; split; exact hw 0; simp
    rw [e, e2]; grind
theorem Ts_sh {h : Int} (n : Nat) (f : Nat → Int) : Ts h (n + 1) (sh 1 f) = mL 1 (-h) (Ts h n f) := by
  funext i
  show Kc (sh 1 f 0) i + mL 1 (-h) (Ts h n fun j => sh 1 f (j + 1)) i = _
  have e : (fun j => sh 1 f (j + 1)) = f := by funext j; simp [sh]
  rw [e]; simp [sh, Kc]
theorem Ts_up {h : Int} : ∀ {n : Nat} {f : Nat → Int}, Vn n f → Ts h (n + 1) f = Ts h n f
  | 0, f, hf => by
    funext i
    show Kc (f 0) i + mL 1 (-h) (fun _ => 0) i = 0
    rw [hf 0 (Nat.le_refl _)]; simp [Kc, mL, sh]
  | n + 1, f, hf => by
    funext i
    have ih := Ts_up (h := h) (n := n) (f := fun j => f (j + 1)) fun i hi => hf _ (by omega)
    show Kc (f 0) i + mL 1 (-h) (Ts h (n + 1) fun j => f (j + 1)) i = Kc (f 0) i + mL 1 (-h) (Ts h n fun j => f (j + 1)) i
    rw [ih]
theorem Ts_K (h c : Int) : Ts h 1 (Kc c) = Kc c := by
  funext i
  show Kc (Kc c 0) i + mL 1 (-h) (fun _ => 0) i = Kc c i
  simp [Kc, mL, sh]
theorem Ts_L {h p t : Int} {n : Nat} {f : Nat → Int} (hf : Vn n f) : Ts h (n + 1) (mL p t f) = mL p (t - p * h) (Ts h n f) := by
  funext i
  rw [Ts_lin (f := sh 1 f) (g := f) (a := p) (b := -t) (fun i => by unfold mL; rw [Int.neg_mul]; rfl) i, Ts_sh, Ts_up hf]
  unfold mL
  generalize sh 1 (Ts h n f) i = a
  generalize Ts h n f i = b
  grind
theorem Ts_Q {h u : Int} {n : Nat} {f : Nat → Int} (hf : Vn n f) : Ts h (n + 2) (mQ u f) = mQ (u - h) (Ts h n f) := by
  funext i
  rw [Ts_lin (f := fun i => sh 2 f i - 2 * u * sh 1 f i) (g := f) (a := 1) (b := u * u + 1) (fun i => by unfold mQ; grind) i, Ts_lin (f := sh 2 f) (g := sh 1 f) (a := 1) (b := -2 * u) (fun i => by grind) i]
  have e : sh 2 f = sh 1 (sh 1 f) := by rw [sh_sh]
  rw [e, Ts_sh, Ts_sh, Ts_sh, Ts_up hf, Ts_up (n := n + 1) (hf.mono (by omega)), Ts_up hf]
  have e2 : sh 1 (mL 1 (-h) (Ts h n f)) i = sh 2 (Ts h n f) i + h * sh 1 (Ts h n f) i := by
    rw [sh_mL]; unfold mL; rw [sh_sh]; show 1 * sh 2 (Ts h n f) i - _ = _; grind
  show 1 * (1 * (1 * sh 1 (mL 1 (-h) (Ts h n f)) i - -h * mL 1 (-h) (Ts h n f) i) + -2 * u * mL 1 (-h) (Ts h n f) i) + (u * u + 1) * Ts h n f i = _
  rw [e2]
  unfold mL mQ
  generalize sh 2 (Ts h n f) i = a
  generalize sh 1 (Ts h n f) i = b
  generalize Ts h n f i = c
  grind
theorem cf_succ (x : Int) (xs : List Int) : (fun j => cf (x :: xs) (j + 1)) = cf xs := by funext j; simp [cf]
theorem cf_cons (x : Int) (xs : List Int) (i : Nat) : cf (x :: xs) i = Kc x i + sh 1 (cf xs) i := by
  have := sh_cons x xs 0 i
  rw [sh_zero, sh_zero] at this
  rw [this, Kc_one x]
theorem hor_Ts (h : Int) : ∀ (r : List Int) (x : Int) (i : Nat), Ts h (r.length + 1) (cf (x :: r)) i = Kc (x + h * (hor h r).headD 0) i + sh 1 (Ts h r.length (cf (hor h r))) i
  | [], x, i => by
    show Kc (cf [x] 0) i + mL 1 (-h) (fun _ => 0) i = Kc (x + h * 0) i + sh 1 (fun _ => 0) i
    simp [cf, mL, sh]
  | y :: r, x, i => by
    have ih := hor_Ts h r y
    have e1 : ∀ i, Ts h (r.length + 1) (cf (hor h (y :: r))) i = Kc (y + h * (hor h r).headD 0) i + mL 1 (-h) (Ts h r.length (cf (hor h r))) i := by
      intro i
      show Kc (cf (hor h (y :: r)) 0) i + mL 1 (-h) (Ts h r.length (fun j => cf (hor h (y :: r)) (j + 1))) i = _
      rw [hor, cf_succ]; rfl
    have e2 : (hor h (y :: r)).headD 0 = y + h * (hor h r).headD 0 := rfl
    rw [e2]
    show Kc (cf (x :: y :: r) 0) i + mL 1 (-h) (Ts h (r.length + 1) (fun j => cf (x :: y :: r) (j + 1))) i = _
    rw [cf_succ]
    have e3 : cf (x :: y :: r) 0 = x := rfl
    rw [e3]
    generalize y + h * (hor h r).headD 0 = z at *
    generalize hW : Ts h r.length (cf (hor h r)) = W at *
    have e4 : Ts h (r.length + 1) (cf (y :: r)) = fun i => Kc z i + sh 1 W i := funext ih
    have e5 : Ts h (r.length + 1) (cf (hor h (y :: r))) = fun i => Kc z i + mL 1 (-h) W i := funext e1
    show Kc x i + mL 1 (-h) (Ts h (r.length + 1) (cf (y :: r))) i = Kc (x + h * z) i + sh 1 (Ts h (r.length + 1) (cf (hor h (y :: r)))) i
    rw [e4, e5]
    unfold mL
    have s1 : ∀ (F G : Nat → Int), sh 1 (fun i => F i + G i) i = sh 1 F i + sh 1 G i := fun F G => by unfold sh; split <;> simp
    have s2 : sh 1 (fun i => 1 * sh 1 W i - -h * W i) i = sh 1 (sh 1 W) i + h * sh 1 W i := by
      unfold sh
      split
      · simp
      · grind
    have s3 : sh 1 (fun i => Kc z i + (1 * sh 1 W i - -h * W i)) i = sh 1 (Kc z) i + (sh 1 (sh 1 W) i + h * sh 1 W i) := by
      rw [s1 (Kc z) (fun i => 1 * sh 1 W i - -h * W i), s2]
    rw [s1 (Kc z) (sh 1 W), s3]
    have s4 : Kc (x + h * z) i = Kc x i + h * Kc z i := by unfold Kc; split <;> simp
    rw [s4]
    clear ih e1 e2 e3 e4 e5 s1 s2 s3 s4 hW
    show Kc x i + (1 * (sh 1 (Kc z) i + sh 1 (sh 1 W) i) - -h * (Kc z i + sh 1 W i)) = Kc x i + h * Kc z i + (sh 1 (Kc z) i + (sh 1 (sh 1 W) i + h * sh 1 W i))
    generalize sh 1 (Kc z) i = a
    generalize sh 1 (sh 1 W) i = b
    generalize sh 1 W i = c
    generalize Kc x i = d
    generalize Kc z i = e
    grind
theorem cf_shift (h : Int) : ∀ (k : Nat) (xs : List Int), xs.length ≤ k + 1 → cf (shift h k xs) = Ts h xs.length (cf xs)
  | 0, [], _ => by funext i; simp [shift, cf, Ts]
  | 0, [x], _ => by show cf [x] = Ts h 1 (cf [x]); rw [cf_one, Ts_K]
  | 0, _ :: _ :: _, hl => by simp at hl
  | k + 1, [], _ => by funext i; simp [shift, hor, cf, Ts]
  | k + 1, x :: r, hl => by
    simp only [List.length_cons] at hl
    have ih := cf_shift h k (hor h r) (by rw [hor_len]; omega)
    funext i
    rw [List.length_cons, hor_Ts]
    show cf ((x + h * (hor h r).headD 0) :: shift h k (hor h r)) i = _
    rw [cf_cons, ih, hor_len]
theorem Ts_fL (h : Int) : ∀ (rs : List (Int × Int)) (n : Nat) (f : Nat → Int), Vn n f → Ts h (n + rs.length) (fL f rs) = fL (Ts h n f) (rs.map fun r => (r.1 - r.2 * h, r.2))
  | [], n, f, _ => rfl
  | r :: rs, n, f, hf => by
    have ih := Ts_fL h rs (n + 1) (mL r.2 r.1 f) (hf.L _ _)
    rw [List.length_cons, show n + (rs.length + 1) = n + 1 + rs.length by omega]
    show Ts h (n + 1 + rs.length) (fL (mL r.2 r.1 f) rs) = fL (mL r.2 (r.1 - r.2 * h) (Ts h n f)) (rs.map fun r => (r.1 - r.2 * h, r.2))
    rw [ih, Ts_L hf]
theorem Ts_bse (h c : Int) : ∀ ax, Ts h (dq ax + 1) (bse c ax) = bse c (ax.map (· - h))
  | none => Ts_K h c
  | some u => by
    show Ts h (1 + 2) (mQ u (Kc c)) = mQ (u - h) (Kc c)
    rw [Ts_Q (Vn.K c), Ts_K]
noncomputable def mvR (h : Int) (rs : List (Int × Int)) : List (Int × Int) := rs.map fun r => (r.1 - r.2 * h, r.2)
theorem cf_moved (h : Int) (c : Int) (rs : List (Int × Int)) (ax : Option Int) : cf (shift h ((madeP c rs ax).length - 1) (madeP c rs ax)) = PB c (mvR h rs) (ax.map (· - h)) := by
  rw [cf_shift h _ _ (by omega), cf_madeP, madeP_len]
  have := Ts_fL h rs (dq ax + 1) (bse c ax) (Vn.bse c ax)
  rw [show dq ax + 1 + rs.length = rs.length + dq ax + 1 by omega, Ts_bse] at this
  exact this
/-! ## Differences -/
noncomputable def Pd : Nat → (Nat → Int) → Prop
  | 0, f => ∀ n, f (n + 1) = f n
  | d + 1, f => Pd d fun n => f (n + 1) - f n
theorem Pd.const (c : Int) : ∀ d, Pd d fun _ => c
  | 0 => fun _ => rfl
  | d + 1 => by
    show Pd d fun _ => c - c
    rw [Int.sub_self]; exact Pd.const 0 d
theorem Pd.zero_eq {f : Nat → Int} (h : Pd 0 f) : ∀ n, f n = f 0
  | 0 => rfl
  | n + 1 => (h n).trans (Pd.zero_eq h n)
theorem Pd.up : ∀ {d : Nat} {f : Nat → Int}, Pd d f → Pd (d + 1) f
  | 0, f, h => by
    show ∀ n, f (n + 1 + 1) - f (n + 1) = f (n + 1) - f n
    intro n; have h1 := h n; have h2 := h (n + 1); omega
  | d + 1, f, h => Pd.up (d := d) h
theorem Pd.add : ∀ {d : Nat} {f g : Nat → Int}, Pd d f → Pd d g → Pd d fun n => f n + g n
  | 0, f, g, hf, hg => fun n => by show f (n + 1) + g (n + 1) = f n + g n; rw [hf n, hg n]
  | d + 1, f, g, hf, hg => by
    have := Pd.add (d := d) hf hg
    have e : (fun n => f (n + 1) - f n + (g (n + 1) - g n)) = fun n => f (n + 1) + g (n + 1) - (f n + g n) := by funext n; omega
    rw [e] at this; exact this
theorem Pd.next : ∀ {d : Nat} {f : Nat → Int}, Pd d f → Pd d fun n => f (n + 1)
  | 0, f, h => fun n => h (n + 1)
  | d + 1, f, h => Pd.next (d := d) h
theorem Pd.smul (c : Int) : ∀ {d : Nat} {f : Nat → Int}, Pd d f → Pd d fun n => c * f n
  | 0, f, h => fun n => by show c * f (n + 1) = c * f n; rw [h n]
  | d + 1, f, h => by
    have := Pd.smul c (d := d) h
    have e : (fun n => c * (f (n + 1) - f n)) = fun n => c * f (n + 1) - c * f n := by funext n; rw [Int.mul_sub]
    rw [e] at this; exact this
theorem Pd.mul : ∀ {s a b : Nat} {f g : Nat → Int}, a + b = s → Pd a f → Pd b g → Pd s fun n => f n * g n
  | s, 0, b, f, g, h, hf, hg => by
    have e : (fun n => f n * g n) = fun n => f 0 * g n := by funext n; rw [hf.zero_eq n]
    rw [e, ← h, Nat.zero_add]; exact hg.smul _
  | s, a + 1, 0, f, g, h, hf, hg => by
    have e : (fun n => f n * g n) = fun n => g 0 * f n := by funext n; rw [hg.zero_eq n, Int.mul_comm]
    rw [e, ← h]; exact hf.smul _
  | 0, a + 1, b + 1, f, g, h, hf, hg => by omega
  | s + 1, a + 1, b + 1, f, g, h, hf, hg => by
    have h1 := Pd.mul (s := s) (a := a) (b := b + 1) (by omega) hf hg.next
    have h2 := Pd.mul (s := s) (a := a + 1) (b := b) (by omega) hf hg
    have h3 := h1.add h2
    have e : (fun n => (f (n + 1) - f n) * g (n + 1) + f n * (g (n + 1) - g n)) = fun n => f (n + 1) * g (n + 1) - f n * g n := by
      funext n; rw [Int.sub_mul, Int.mul_sub]; omega
    rw [e] at h3; exact h3
theorem Pd.lin (x y : Int) : Pd 1 fun n => x + y * (n : Int) := by
  show ∀ n : Nat, x + y * ((n + 1 + 1 : Nat) : Int) - (x + y * ((n + 1 : Nat) : Int)) = x + y * ((n + 1 : Nat) : Int) - (x + y * (n : Int))
  intro n
  have e1 : ((n + 1 + 1 : Nat) : Int) = (n : Int) + 2 := by omega
  have e2 : ((n + 1 : Nat) : Int) = (n : Int) + 1 := by omega
  rw [e1, e2, Int.mul_add, Int.mul_add]; omega
theorem Pd.of {d : Nat} {f g : Nat → Int} (h : Pd d f) (e : ∀ n, g n = f n) : Pd d g := by
  have : g = f := funext e
  rw [this]; exact h
theorem Pd.pr {γ : Type} {d : Nat} {φ : γ → Nat → Int} : ∀ {l : List γ}, (∀ s ∈ l, Pd d (φ s)) → Pd (d * l.length) fun n => pr (fun s => φ s n) l
  | [], _ => Pd.const 1 _
  | s :: l, h => by
    rw [List.length_cons]
    exact Pd.mul (by rw [Nat.mul_succ, Nat.add_comm]) (h s (.head _)) (Pd.pr fun s' hs => h s' (.tail _ hs))

noncomputable def tab : Nat → (Nat → Int) → Nat → List Int
  | 0, _, _ => []
  | k + 1, f, n => f n :: tab k (fun n => f (n + 1) - f n) n
theorem stepR_cons (x : Int) (xs : List Int) : stepR (x :: xs) = (x + xs.headD 0) :: stepR xs := by
  unfold stepR
  rw [List.length_cons, List.range_succ_eq_map, List.map_cons, List.map_map]
  congr 1
  cases xs <;> rfl
theorem stepR_tab : ∀ (d : Nat) (f : Nat → Int) (n : Nat), Pd d f → stepR (tab (d + 1) f n) = tab (d + 1) f (n + 1)
  | 0, f, n, h => by
    show stepR [f n] = [f (n + 1)]
    rw [stepR_cons, h n]; simp [stepR]
  | d + 1, f, n, h => by
    rw [tab, stepR_cons, stepR_tab d _ n h]
    show (f n + (f (n + 1) - f n)) :: _ = f (n + 1) :: _
    rw [show f n + (f (n + 1) - f n) = f (n + 1) by omega]
theorem rowAt_tab {d : Nat} {f : Nat → Int} (h : Pd d f) : ∀ k, rowAt (tab (d + 1) f 0) k = tab (d + 1) f k
  | 0 => rfl
  | k + 1 => by rw [rowAt, rowAt_tab h k, stepR_tab d f k h]
theorem firsts_tab : ∀ (k : Nat) (f : Nat → Int), firsts k ((List.range k).map f) = tab k f 0
  | 0, f => rfl
  | k + 1, f => by
    rw [firsts, tab]
    have e1 : ((List.range (k + 1)).map f).headD 0 = f 0 := by rw [List.range_succ_eq_map]; rfl
    have e2 : diffs ((List.range (k + 1)).map f) = (List.range k).map fun n => f (n + 1) - f n := by
      unfold diffs
      rw [List.length_map, List.length_range, Nat.add_sub_cancel]
      apply List.map_congr_left
      intro i hi
      have hi := List.mem_range.mp hi
      rw [List.getD_eq_getElem?_getD, List.getD_eq_getElem?_getD, List.getElem?_map, List.getElem?_map, List.getElem?_range (by omega), List.getElem?_range (by omega)]; rfl
    rw [e1, e2, firsts_tab k]
theorem zeros_tab {d : Nat} {f : Nat → Int} (h : Pd d f) (k : Nat) : zeros (firsts (d + 1) ((List.range (d + 1)).map f)) k = ((List.range k).filter fun i => f i == 0).map fun (i : Nat) => (i : Int) := by
  unfold zeros
  rw [firsts_tab]
  congr 2
  funext i
  rw [rowAt_tab h]; rfl
theorem lead_cons (x y : Int) (xs : List Int) : lead (x :: y :: xs) = lead (y :: xs) := by simp [lead]
theorem lead_tab : ∀ (d : Nat) (f : Nat → Int) (n : Nat), Pd d f → lead (tab (d + 2) f n) = 0
  | 0, f, n, h => by
    show lead [f n, f (n + 1) - f n] = 0
    rw [h n]; simp [lead]
  | d + 1, f, n, h => by
    have := lead_tab d (fun n => f (n + 1) - f n) n h
    rw [tab]
    rw [tab] at this ⊢
    rw [lead_cons]; exact this

theorem range_cut {p : Nat → Bool} {a : Nat} : ∀ {b : Nat}, a ≤ b → (∀ h, a ≤ h → p h = false) → (List.range b).filter p = (List.range a).filter p
  | 0, h, _ => by have : a = 0 := by omega
                  rw [this]
  | b + 1, h, hp => by
    rcases Nat.eq_or_lt_of_le h with e | h
    · rw [e]
    · rw [List.range_succ, List.filter_append, range_cut (by omega) hp]
      simp [hp b (by omega)]
theorem range_same {p q : Nat → Bool} {a b : Nat} (hpq : ∀ h, p h = q h) (ha : ∀ h, p h = true → h < a) (hb : ∀ h, p h = true → h < b) : (List.range a).filter p = (List.range b).filter q := by
  have e : p = q := funext hpq
  subst e
  have h1 : ∀ h, a ≤ h → p h = false := fun h hh => by
    cases q : p h with
    | false => rfl
    | true => have := ha h q; omega
  have h2 : ∀ h, b ≤ h → p h = false := fun h hh => by
    cases q : p h with
    | false => rfl
    | true => have := hb h q; omega
  rcases Nat.le_total a b with q | q
  · exact (range_cut q h1).symm
  · exact range_cut q h2

theorem prodAt_cons (ps : List Int) (n : Nat) : ∀ v : Int, ps.foldl (fun v p => v * ((n : Int) - p)) v = v * pr (fun p => (n : Int) - p) ps := by
  induction ps with
  | nil => intro v; simp [pr]
  | cons p ps ih => intro v; rw [List.foldl_cons, ih, pr, Int.mul_assoc]
theorem pr_zero {γ : Type} {φ : γ → Int} : ∀ {l : List γ}, pr φ l = 0 ↔ ∃ s ∈ l, φ s = 0
  | [] => by simp [pr]
  | s :: l => by
    rw [pr, Int.mul_eq_zero, pr_zero (l := l)]; simp
theorem mathB : MathB := by
  intro ps h1 h3 hps
  have hP : Pd ps.length (prodAt ps) := by
    have := Pd.pr (d := 1) (φ := fun (p : Int) (n : Nat) => -p + 1 * (n : Int)) (l := ps) fun p _ => Pd.lin (-p) 1
    rw [Nat.one_mul] at this
    refine this.of fun n => ?_
    unfold prodAt
    rw [prodAt_cons, Int.one_mul]
    congr 1; funext p; omega
  refine ⟨?_, ?_, ?_, ?_⟩
  · rw [firsts_tab]; exact lead_tab _ _ _ hP
  · rw [firsts_tab, List.range_succ_eq_map]; rfl
  · rw [firsts_tab, List.range_succ_eq_map, List.range_succ_eq_map]; rfl
  · rw [zeros_tab hP.up]
    unfold pick
    congr 1
    have key : ∀ h : Nat, (prodAt ps h == 0) = ps.any (· == (h : Int)) := fun h => by
      rw [Bool.eq_iff_iff, beq_iff_eq, List.any_eq_true]
      unfold prodAt
      rw [prodAt_cons, Int.one_mul, pr_zero]
      constructor
      · rintro ⟨s, hs, e⟩; exact ⟨s, hs, by rw [beq_iff_eq]; omega⟩
      · rintro ⟨s, hs, e⟩; rw [beq_iff_eq] at e; exact ⟨s, hs, by omega⟩
    congr 1
    exact funext key
/-! ## The plain law of the dispersions -/
noncomputable def qv (r : Int × Int) : Option Int → Int
  | none => 1
  | some u => (r.1 - u * r.2) * (r.1 - u * r.2) + r.2 * r.2
noncomputable def Val (r : Int × Int) (c : Int) (rs : List (Int × Int)) (ax : Option Int) : Int := pr (fun s => s.2 * r.1 - s.1 * r.2) rs * (qv r ax * c)
noncomputable def En (c d : Int) (rs : List (Int × Int)) : Option Int → Option Int → Nat → Int
  | none, _, n => c ^ n
  | some u, none, _ => pr (fun s => qv s (some u) * c) rs * d ^ 2
  | some u, some v, _ => pr (fun s => qv s (some u) * c) rs * (d * c * (d * c) * ((v - u) * (v - u) * ((v - u) * (v - u) + 4)))
noncomputable def GF (c : Int) (rs : List (Int × Int)) (ax : Option Int) (d : Int) (ts : List (Int × Int)) (ay : Option Int) (n : Nat) : Int := pr (fun r => Val r d ts ay) rs * En c d ts ax ay n

theorem Ph_fL {p t : Int} : ∀ (rs : List (Int × Int)) {m : Nat} {f : Nat → Int}, Vn (m + 1) f → Ph p t (m + rs.length) (fL f rs) = pr (fun s => s.2 * t - s.1 * p) rs * Ph p t m f
  | [], m, f, _ => by simp [pr, fL]
  | s :: rs, m, f, h => by
    have := Ph_fL (p := p) (t := t) rs (h.L s.2 s.1)
    rw [List.length_cons, show m + (rs.length + 1) = m + 1 + rs.length by omega, pr]
    show Ph p t (m + 1 + rs.length) (fL (mL s.2 s.1 f) rs) = _
    rw [this, Ph_L h]; ac_rfl
theorem Ph_bse (p t c : Int) : ∀ ax, Ph p t (dq ax) (bse c ax) = qv (t, p) ax * c
  | none => by show Ph p t 0 (Kc c) = 1 * c; rw [Ph_K, Int.one_mul]
  | some u => by
    show Ph p t (0 + 2) (mQ u (Kc c)) = _
    rw [Ph_Q (Vn.K c), Ph_K]; rfl
theorem Ph_PB (r : Int × Int) (c : Int) (rs : List (Int × Int)) (ax : Option Int) : Ph r.2 r.1 (rs.length + dq ax) (PB c rs ax) = Val r c rs ax := by
  have := Ph_fL (p := r.2) (t := r.1) rs (Vn.bse c ax)
  rw [Nat.add_comm, PB, this, Ph_bse]; rfl
theorem Rs_fL {g : Nat → Int} {n : Nat} (hg : Vn (n + 1) g) : ∀ (rs : List (Int × Int)) {m : Nat} {f : Nat → Int}, Vn (m + 1) f → (∀ r ∈ rs, r.2 ≠ 0) → Rs (fL f rs) (m + rs.length) g n = pr (fun r => Ph r.2 r.1 n g) rs * Rs f m g n
  | [], m, f, _, _ => by simp [pr, fL]
  | r :: rs, m, f, h, hr => by
    have := Rs_fL hg rs (h.L r.2 r.1) fun r' h' => hr r' (.tail _ h')
    rw [List.length_cons, show m + (rs.length + 1) = m + 1 + rs.length by omega, pr]
    show Rs (fL (mL r.2 r.1 f) rs) (m + 1 + rs.length) g n = _
    rw [this, Rs_fac (hr r (.head _)) h hg]; ac_rfl
theorem Rs_bse {c d : Int} {ts : List (Int × Int)} {ay : Option Int} (ht : ∀ r ∈ ts, r.2 ≠ 0) : ∀ ax, Rs (bse c ax) (dq ax) (PB d ts ay) (ts.length + dq ay) = En c d ts ax ay (ts.length + dq ay)
  | none => by show Rs (Kc c) 0 _ _ = c ^ _; exact Rs_K _ _ _
  | some u => by
    have h1 := Rs_fL (g := mQ u (Kc c)) (n := 2) ((Vn.K c).Q u) ts (Vn.bse d ay) ht
    have h2 := Rs_swap (bse c (some u)) (PB d ts ay) 2 (ts.length + dq ay)
    have h3 : (-1 : Int) ^ ((ts.length + dq ay) * 2) = 1 := by rw [Nat.mul_comm]; exact neg1_even _
    show Rs (bse c (some u)) 2 (PB d ts ay) (ts.length + dq ay) = _
    rw [h2, h3, Int.one_mul, Nat.add_comm]
    show Rs (fL (bse d ay) ts) (dq ay + ts.length) (mQ u (Kc c)) 2 = _
    rw [h1]
    have h4 : (fun r : Int × Int => Ph r.2 r.1 2 (mQ u (Kc c))) = fun s => qv s (some u) * c := funext fun r => Ph_bse r.2 r.1 c (some u)
    rw [h4]
    cases ay with
    | none =>
      show _ * Rs (Kc d) 0 _ 2 = _ * d ^ 2
      rw [Rs_K]
    | some v =>
      show _ * Rs (mQ v (Kc d)) 2 (mQ u (Kc c)) 2 = _
      rw [Rs_QQ]; rfl
theorem Rs_PB {c d : Int} {rs ts : List (Int × Int)} (ax ay : Option Int) (hr : ∀ r ∈ rs, r.2 ≠ 0) (ht : ∀ r ∈ ts, r.2 ≠ 0) :
    Rs (PB c rs ax) (rs.length + dq ax) (PB d ts ay) (ts.length + dq ay) = GF c rs ax d ts ay (ts.length + dq ay) := by
  have := Rs_fL (Vn.PB d ts ay) rs (Vn.bse c ax) hr
  rw [Nat.add_comm rs.length]
  show Rs (fL (bse c ax) rs) (dq ax + rs.length) (PB d ts ay) (ts.length + dq ay) = _
  rw [this, Rs_bse ht]
  unfold GF
  congr 2; funext r; exact Ph_PB r d ts ay

/-! sizes -/
theorem sh_bl {k : Nat} {f : Nat → Int} (h : ∀ t, Bl k (f t)) (i t : Nat) : Bl k (sh i f t) := by
  unfold sh; split; exact .zero _; exact h _
theorem mL_bl {i k : Nat} {p t : Int} {f : Nat → Int} (hp : Bl i p) (ht : Bl i t) (h : ∀ t, Bl k (f t)) (x : Nat) : Bl (k + (i + 1)) (mL p t f x) := by
  unfold mL
  exact (Bl.sub (hp.mul (sh_bl h 1 x)) (ht.mul (h x))).mono (by omega)
theorem mQ_bl {i k : Nat} {u : Int} {f : Nat → Int} (hi : 1 ≤ i) (hu : Bl i u) (h : ∀ t, Bl k (f t)) (x : Nat) : Bl (k + (2 * i + 2)) (mQ u f x) := by
  unfold mQ
  have h2 : Bl (i + 1) (2 * u) := by
    have := (show Bl 1 2 by unfold Bl; decide).mul hu
    rw [Nat.add_comm] at this; exact this
  have h3 : Bl (2 * i + 1) (u * u + 1) := by
    have := (hu.mul hu).add (bl_one.mono (show 1 ≤ i + i by omega))
    exact this.mono (by omega)
  have h4 := Bl.sub ((sh_bl h 2 x).mono (show k ≤ i + 1 + k by omega)) (h2.mul (sh_bl h 1 x))
  exact (Bl.add (h4.mono (show i + 1 + k + 1 ≤ 2 * i + 1 + k by omega)) (h3.mul (h x))).mono (by omega)
theorem fL_bl {i : Nat} : ∀ {rs : List (Int × Int)} {k : Nat} {f : Nat → Int}, (∀ r ∈ rs, Bl i r.2 ∧ Bl i r.1) → (∀ t, Bl k (f t)) → ∀ x, Bl (k + (i + 1) * rs.length) (fL f rs x)
  | [], k, f, _, h, x => h x
  | r :: rs, k, f, hr, h, x => by
    have := fL_bl (rs := rs) (fun r' h' => hr r' (.tail _ h')) (mL_bl (hr r (.head _)).1 (hr r (.head _)).2 h) x
    rw [List.length_cons, Nat.mul_succ]
    exact this.mono (by omega)
theorem Kc_bl {k : Nat} {c : Int} (h : Bl k c) (t : Nat) : Bl k (Kc c t) := by
  unfold Kc; split; exact h; exact .zero _
theorem PB_bl {i : Nat} {c : Int} {rs : List (Int × Int)} {ax : Option Int} (hi : 1 ≤ i) (hc : Bl 2 c) (hr : ∀ r ∈ rs, Bl i r.2 ∧ Bl i r.1) (hl : rs.length ≤ 2) (hu : ∀ u, ax = some u → Bl i u) (x : Nat) : Bl (4 * i + 6) (PB c rs ax x) := by
  have hb : ∀ t, Bl (2 + (2 * i + 2)) (bse c ax t) := by
    intro t
    cases ax with
    | none => exact (Kc_bl hc t).mono (by omega)
    | some u => exact mQ_bl hi (hu u rfl) (Kc_bl hc) t
  refine (fL_bl hr hb x).mono ?_
  have : (i + 1) * rs.length ≤ (i + 1) * 2 := Nat.mul_le_mul_left _ hl
  omega

/-! roots are bounded by «root_bound» -/
theorem root_lt {a : List Int} {p t : Int} (hp : p ≠ 0) (hl : lead a ≠ 0) (h : Ph p t (a.length - 1) (cf a) = 0) : t.natAbs < p.natAbs * rootB a := by
  rcases Nat.lt_or_ge t.natAbs (p.natAbs * rootB a) with q | q
  · exact q
  exfalso
  have hF : 0 < (lead a).natAbs := by omega
  have hM : ∀ i, (cf a i).natAbs ≤ maxAbs a := fun i => by
    rcases Nat.lt_or_ge i a.length with z | z
    · rw [cf_lt z]; exact maxAbs_le (List.getElem_mem z)
    · rw [cf_big z]; exact Nat.zero_le _
  have hq : maxAbs a ≤ (maxAbs a / (lead a).natAbs + 1) * (lead a).natAbs := by
    have h1 := Nat.div_add_mod (maxAbs a) (lead a).natAbs
    have h2 := Nat.mod_lt (maxAbs a) hF
    rw [Nat.succ_mul, Nat.mul_comm]; omega
  unfold rootB at q
  generalize maxAbs a / (lead a).natAbs = x at q hq
  have key : ∀ j, (lead a).natAbs * p.natAbs ^ j ≤ (ps p t (a.length - 1) j (cf a)).natAbs := by
    intro j
    induction j with
    | zero => rw [Nat.pow_zero, Nat.mul_one]; exact Nat.le_refl _
    | succ j ih =>
      rw [ps]
      have t1 := Int.natAbs_sub_le (p ^ (j + 1) * cf a (a.length - 1 - (j + 1)) + t * ps p t (a.length - 1) j (cf a)) (p ^ (j + 1) * cf a (a.length - 1 - (j + 1)))
      have e1 : p ^ (j + 1) * cf a (a.length - 1 - (j + 1)) + t * ps p t (a.length - 1) j (cf a) - p ^ (j + 1) * cf a (a.length - 1 - (j + 1)) = t * ps p t (a.length - 1) j (cf a) := by omega
      rw [e1] at t1
      have t2 : (p ^ (j + 1) * cf a (a.length - 1 - (j + 1))).natAbs ≤ p.natAbs ^ (j + 1) * ((x + 1) * (lead a).natAbs) := by
        rw [Int.natAbs_mul, Int.natAbs_pow]; exact Nat.mul_le_mul_left _ (Nat.le_trans (hM _) hq)
      have t3 : p.natAbs * (2 + x) * ((lead a).natAbs * p.natAbs ^ j) ≤ (t * ps p t (a.length - 1) j (cf a)).natAbs := by
        rw [Int.natAbs_mul]; exact Nat.mul_le_mul q ih
      have e2 : p.natAbs * (2 + x) * ((lead a).natAbs * p.natAbs ^ j) = (lead a).natAbs * p.natAbs ^ (j + 1) * x + 2 * ((lead a).natAbs * p.natAbs ^ (j + 1)) := by
        rw [Nat.pow_succ, Nat.add_comm 2 x, Nat.mul_add, Nat.add_mul]
        congr 1 <;> ac_rfl
      have e3 : p.natAbs ^ (j + 1) * ((x + 1) * (lead a).natAbs) = (lead a).natAbs * p.natAbs ^ (j + 1) * x + (lead a).natAbs * p.natAbs ^ (j + 1) := by
        rw [Nat.succ_mul, Nat.mul_add]
        congr 1 <;> ac_rfl
      rw [e2] at t3
      rw [e3] at t2
      omega
  have h1 := key (a.length - 1)
  unfold Ph at h
  rw [h] at h1
  have h3 : 0 < (lead a).natAbs * p.natAbs ^ (a.length - 1) := Nat.mul_pos hF (Nat.pow_pos (by omega))
  simp only [Int.natAbs_zero] at h1
  omega

/-! the answers as a function of the distance -/
theorem pr_map {γ δ : Type} (φ : δ → Int) (g : γ → δ) : ∀ l : List γ, pr φ (l.map g) = pr (fun s => φ (g s)) l
  | [] => rfl
  | s :: l => by rw [List.map_cons, pr, pr, pr_map φ g l]
theorem dq_map (h : Int) : ∀ ax : Option Int, dq (ax.map (· - h)) = dq ax
  | none => rfl
  | some _ => rfl
theorem mvR_len (h : Int) (rs : List (Int × Int)) : (mvR h rs).length = rs.length := by simp [mvR]
theorem Pd.sq {x y : Int} : Pd 2 fun n => (x + y * (n : Int)) * (x + y * (n : Int)) := Pd.mul (s := 2) rfl (Pd.lin x y) (Pd.lin x y)
theorem Pd_qv (r : Int × Int) (ay : Option Int) : Pd (dq ay) fun h => qv r (ay.map (· - (h : Int))) := by
  cases ay with
  | none => exact Pd.const 1 0
  | some v =>
    refine (Pd.add (Pd.sq (x := r.1 - v * r.2) (y := r.2)) (Pd.const (r.2 * r.2) 2)).of fun h => ?_
    show (r.1 - (v - h) * r.2) * (r.1 - (v - h) * r.2) + r.2 * r.2 = _
    have e : r.1 - (v - (h : Int)) * r.2 = r.1 - v * r.2 + r.2 * (h : Int) := by rw [Int.sub_mul, Int.mul_comm (h : Int)]; omega
    rw [e]
theorem Pd_val (r : Int × Int) (d : Int) (ts : List (Int × Int)) (ay : Option Int) : Pd (ts.length + dq ay) fun h => Val r d (mvR h ts) (ay.map (· - (h : Int))) := by
  have h1 := Pd.pr (d := 1) (φ := fun (s : Int × Int) (n : Nat) => s.2 * r.1 - s.1 * r.2 + s.2 * r.2 * (n : Int)) (l := ts) fun s _ => Pd.lin _ _
  rw [Nat.one_mul] at h1
  refine (Pd.mul rfl h1 ((Pd_qv r ay).smul d)).of fun h => ?_
  unfold Val
  rw [mvR, pr_map, Int.mul_comm d]
  congr 2; funext s
  show s.2 * r.1 - (s.1 - s.2 * h) * r.2 = s.2 * r.1 - s.1 * r.2 + s.2 * r.2 * (h : Int)
  rw [Int.sub_mul, Int.mul_right_comm]; omega
theorem Pd_En (c d : Int) (ts : List (Int × Int)) (ax ay : Option Int) : Pd (dq ax * (ts.length + dq ay)) fun h => En c d (mvR h ts) ax (ay.map (· - (h : Int))) (ts.length + dq ay) := by
  cases ax with
  | none =>
    show Pd (0 * _) fun _ => c ^ (ts.length + dq ay)
    exact Pd.const _ _
  | some u =>
    have h1 : Pd (2 * ts.length) fun h => pr (fun s => qv s (some u) * c) (mvR h ts) := by
      refine (Pd.pr (d := 2) (φ := fun (s : Int × Int) (n : Nat) => ((s.1 - u * s.2 + -s.2 * (n : Int)) * (s.1 - u * s.2 + -s.2 * (n : Int)) + s.2 * s.2) * c) (l := ts) fun s _ => ?_).of fun h => ?_
      · exact ((Pd.add Pd.sq (Pd.const _ 2)).smul c).of fun h => Int.mul_comm _ _
      · rw [mvR, pr_map]
        congr 1; funext s
        show ((s.1 - s.2 * h - u * s.2) * (s.1 - s.2 * h - u * s.2) + s.2 * s.2) * c = _
        have e : s.1 - s.2 * (h : Int) - u * s.2 = s.1 - u * s.2 + -s.2 * (h : Int) := by rw [Int.neg_mul]; omega
        rw [e]
    cases ay with
    | none => exact Pd.mul (b := 0) (by show 2 * ts.length + 0 = 2 * (ts.length + 0); omega) h1 (Pd.const (d ^ 2) 0)
    | some v =>
      have h2 : Pd 4 fun h => d * c * (d * c) * ((v - (h : Int) - u) * (v - (h : Int) - u) * ((v - (h : Int) - u) * (v - (h : Int) - u) + 4)) := by
        have h3 : Pd 2 fun h => (v - (h : Int) - u) * (v - (h : Int) - u) := (Pd.sq (x := v - u) (y := -1)).of fun h => by
          have e : v - (h : Int) - u = v - u + -1 * (h : Int) := by omega
          rw [e]
        exact (Pd.mul (s := 4) rfl h3 (Pd.add h3 (Pd.const 4 2))).smul _
      exact Pd.mul (by show 2 * ts.length + 4 = 2 * (ts.length + 2); omega) h1 h2
theorem Pd_GF (c : Int) (rs : List (Int × Int)) (ax : Option Int) (d : Int) (ts : List (Int × Int)) (ay : Option Int) :
    Pd ((rs.length + dq ax) * (ts.length + dq ay)) fun h => GF c rs ax d (mvR h ts) (ay.map (· - (h : Int))) (ts.length + dq ay) := by
  have h1 := Pd.pr (d := ts.length + dq ay) (φ := fun (r : Int × Int) (h : Nat) => Val r d (mvR h ts) (ay.map (· - (h : Int)))) (l := rs) fun r _ => Pd_val r d ts ay
  exact Pd.mul (by rw [Nat.add_mul rs.length, Nat.mul_comm (ts.length + dq ay)]) h1 (Pd_En c d ts ax ay)

theorem sq_pos {x y : Int} (h : y ≠ 0) : x * x + y * y ≠ 0 := by
  have h1 : 0 ≤ x * x := by rcases Int.le_total 0 x with q | q; exact Int.mul_nonneg q q; exact Int.mul_nonneg_of_nonpos_of_nonpos q q
  have h2 : 0 < y * y := by
    rcases Int.lt_or_gt_of_ne h with q | q
    · exact Int.mul_pos_of_neg_of_neg q q
    · exact Int.mul_pos q q
  omega
theorem qv_ne {r : Int × Int} (h : r.2 ≠ 0) : ∀ ax, qv r ax ≠ 0
  | none => by show (1 : Int) ≠ 0; decide
  | some u => sq_pos h
theorem sq4_zero {x : Int} : x * x * (x * x + 4) = 0 ↔ x = 0 := by
  constructor
  · intro h
    have h1 : 0 ≤ x * x := by rcases Int.le_total 0 x with q | q; exact Int.mul_nonneg q q; exact Int.mul_nonneg_of_nonpos_of_nonpos q q
    rcases Int.mul_eq_zero.mp h with q | q
    · rcases Int.mul_eq_zero.mp q with z | z <;> exact z
    · omega
  · rintro rfl; rfl
theorem Val_zero {r : Int × Int} {d : Int} {ts : List (Int × Int)} {ay : Option Int} (hr : r.2 ≠ 0) (hd : d ≠ 0) : Val r d ts ay = 0 ↔ ∃ s ∈ ts, s.2 * r.1 - s.1 * r.2 = 0 := by
  unfold Val
  rw [Int.mul_eq_zero, pr_zero]
  have := Int.mul_ne_zero (qv_ne hr ay) hd
  constructor
  · rintro (q | q)
    · exact q
    · exact absurd q this
  · exact .inl
theorem En_zero {c d : Int} {ts : List (Int × Int)} {n : Nat} (hc : c ≠ 0) (hd : d ≠ 0) (ht : ∀ s ∈ ts, s.2 ≠ 0) : ∀ ax ay, En c d ts ax ay n = 0 ↔ ∃ u v, ax = some u ∧ ay = some v ∧ v - u = 0
  | none, ay => by
    show c ^ n = 0 ↔ _
    constructor
    · intro q; exact absurd q (ipow_ne hc n)
    · rintro ⟨u, v, e, _⟩; cases e
  | some u, none => by
    show pr (fun s => qv s (some u) * c) ts * d ^ 2 = 0 ↔ _
    constructor
    · intro q
      rcases Int.mul_eq_zero.mp q with z | z
      · obtain ⟨s, hs, e⟩ := pr_zero.mp z
        exact absurd e (Int.mul_ne_zero (qv_ne (ht s hs) _) hc)
      · exact absurd z (ipow_ne hd 2)
    · rintro ⟨u, v, _, e, _⟩; cases e
  | some u, some v => by
    show pr (fun s => qv s (some u) * c) ts * (d * c * (d * c) * ((v - u) * (v - u) * ((v - u) * (v - u) + 4))) = 0 ↔ _
    have h1 := Int.mul_ne_zero (Int.mul_ne_zero hd hc) (Int.mul_ne_zero hd hc)
    constructor
    · intro q
      rcases Int.mul_eq_zero.mp q with z | z
      · obtain ⟨s, hs, e⟩ := pr_zero.mp z
        exact absurd e (Int.mul_ne_zero (qv_ne (ht s hs) _) hc)
      · rcases Int.mul_eq_zero.mp z with z | z
        · exact absurd z h1
        · exact ⟨u, v, rfl, rfl, sq4_zero.mp z⟩
    · rintro ⟨u', v', e1, e2, e⟩
      cases e1; cases e2
      rw [sq4_zero.mpr e]; simp
theorem GF_zero {c d : Int} {rs ts : List (Int × Int)} {ax ay : Option Int} {n : Nat} (hc : c ≠ 0) (hd : d ≠ 0) (hr : ∀ r ∈ rs, r.2 ≠ 0) (ht : ∀ s ∈ ts, s.2 ≠ 0) (h : Nat) :
    GF c rs ax d (mvR h ts) (ay.map (· - (h : Int))) n = 0 ↔ (∃ r ∈ rs, ∃ s ∈ ts, (h : Int) * (r.2 * s.2) = s.1 * r.2 - r.1 * s.2) ∨ ∃ u v, ax = some u ∧ ay = some v ∧ (h : Int) = v - u := by
  unfold GF
  rw [Int.mul_eq_zero, pr_zero, En_zero hc hd (by intro s hs; obtain ⟨s', hs', rfl⟩ := List.mem_map.mp hs; exact ht s' hs')]
  apply or_congr
  · constructor
    · rintro ⟨r, h1, h2⟩
      obtain ⟨s0, hs0, e⟩ := (Val_zero (hr r h1) hd).mp h2
      obtain ⟨s, hs, rfl⟩ := List.mem_map.mp hs0
      refine ⟨r, h1, s, hs, ?_⟩
      have e : s.2 * r.1 - (s.1 - s.2 * h) * r.2 = 0 := e
      rw [Int.sub_mul] at e
      have e2 : (h : Int) * (r.2 * s.2) = s.2 * h * r.2 := by ac_rfl
      rw [e2, Int.mul_comm r.1]; omega
    · rintro ⟨r, h1, s, hs, e⟩
      refine ⟨r, h1, (Val_zero (hr r h1) hd).mpr ⟨_, List.mem_map_of_mem hs, ?_⟩⟩
      show s.2 * r.1 - (s.1 - s.2 * h) * r.2 = 0
      rw [Int.sub_mul]
      have e2 : (h : Int) * (r.2 * s.2) = s.2 * h * r.2 := by ac_rfl
      rw [e2, Int.mul_comm r.1] at e; omega
  · constructor
    · rintro ⟨u, v, e1, e2, e3⟩
      cases ay with
      | none => cases e2
      | some w =>
        cases e2
        have e3 : w - (h : Int) - u = 0 := e3
        exact ⟨u, w, e1, rfl, by omega⟩
    · rintro ⟨u, v, e1, e2, e3⟩
      subst e2
      exact ⟨u, v - h, e1, rfl, by omega⟩

theorem due_any {rs ts : List (Int × Int)} (hr : ∀ r ∈ rs, 0 < r.2) (ht : ∀ s ∈ ts, 0 < s.2) (h : Nat) : (h : Int) ∈ dueOf (gapsOf rs ts) ↔ ∃ r ∈ rs, ∃ s ∈ ts, (h : Int) * (r.2 * s.2) = s.1 * r.2 - r.1 * s.2 := by
  unfold dueOf
  rw [List.mem_map]
  constructor
  · rintro ⟨g, hg, e⟩
    obtain ⟨hg, hc⟩ := List.mem_filter.mp hg
    obtain ⟨r, h1, hg⟩ := List.mem_flatMap.mp hg
    obtain ⟨s, h2, rfl⟩ := List.mem_map.mp hg
    simp only [Bool.and_eq_true, beq_iff_eq, decide_eq_true_eq] at hc e
    refine ⟨r, h1, s, h2, ?_⟩
    have := Int.fmod_add_mul_fdiv (s.1 * r.2 - r.1 * s.2) (r.2 * s.2)
    rw [hc.1, e] at this
    rw [Int.mul_comm]; omega
  · rintro ⟨r, h1, s, h2, e⟩
    have hp := Int.mul_pos (hr r h1) (ht s h2)
    refine ⟨(s.1 * r.2 - r.1 * s.2, r.2 * s.2), List.mem_filter.mpr ⟨List.mem_flatMap.mpr ⟨r, h1, List.mem_map.mpr ⟨s, h2, rfl⟩⟩, ?_⟩, ?_⟩
    · simp only [Bool.and_eq_true, beq_iff_eq, decide_eq_true_eq]
      rw [← e]
      exact ⟨Int.mul_fmod_left _ _, Int.mul_nonneg (by omega) (by omega)⟩
    · show (s.1 * r.2 - r.1 * s.2).fdiv (r.2 * s.2) = _
      rw [← e, Int.mul_fdiv_cancel _ (by omega)]
theorem ax_any (h : Nat) : ∀ ax ay, (h : Int) ∈ axDue ax ay ↔ ∃ u v, ax = some u ∧ ay = some v ∧ (h : Int) = v - u
  | none, ay => by
    constructor
    · intro q; cases ay <;> cases q
    · rintro ⟨_, _, e, _⟩; cases e
  | some u, none => by
    constructor
    · intro q; cases q
    · rintro ⟨_, _, _, e, _⟩; cases e
  | some u, some v => by
    show (h : Int) ∈ (if v - u ≥ 0 then [v - u] else []) ↔ _
    constructor
    · intro q
      split at q
      · exact ⟨u, v, rfl, rfl, List.mem_singleton.mp q⟩
      · cases q
    · rintro ⟨u', v', e1, e2, e⟩
      cases e1; cases e2
      rw [if_pos (by omega), List.mem_singleton]; exact e
/-! ## The plain law, joined -/
theorem RootOk.pos {r : Int × Int} (h : RootOk r) : 0 < r.2 := by
  rcases h.1 with q | q <;> omega
theorem Made.ne {c : Int} {rs : List (Int × Int)} {ax : Option Int} (h : Made c rs ax) : c ≠ 0 := by
  rcases h.hc with q | q | q <;> omega
theorem Made.dq2 {c : Int} {rs : List (Int × Int)} {ax : Option Int} (h : Made c rs ax) : 1 ≤ rs.length + dq ax ∧ rs.length + dq ax ≤ 4 := by
  have := h.len
  cases ax with
  | none => show 1 ≤ rs.length + 0 ∧ rs.length + 0 ≤ 4; omega
  | some u => show 1 ≤ rs.length + 2 ∧ rs.length + 2 ≤ 4; omega
theorem Made.bl2 {c : Int} {rs : List (Int × Int)} {ax : Option Int} (h : Made c rs ax) : Bl 2 c := by
  unfold Bl; rcases h.hc with q | q | q <;> subst q <;> decide
theorem Made.bl {c : Int} {rs : List (Int × Int)} {ax : Option Int} (m : Made c rs ax) {h : Nat} (hh : h ≤ 16) (t : Nat) : Bl 30 (PB c (mvR h rs) (ax.map (· - (h : Int))) t) := by
  refine PB_bl (i := 6) (by decide) m.bl2 ?_ ?_ ?_ t
  · intro r hr
    obtain ⟨r, hr', rfl⟩ := List.mem_map.mp hr
    have := (m.root r hr')
    unfold Bl
    show r.2.natAbs ≤ 64 ∧ (r.1 - r.2 * h).natAbs ≤ 64
    rcases this.1 with q | q
    · rw [q] at *; obtain ⟨_, _, _⟩ := this; omega
    · rw [q.1] at *; obtain ⟨_, _, _⟩ := this; omega
  · rw [mvR_len]; have := m.len; omega
  · intro u e
    cases ax with
    | none => cases e
    | some v =>
      cases e
      have := m.axis v rfl
      unfold Bl
      show (v - (h : Int)).natAbs ≤ 64
      omega
theorem Made.bl0 {c : Int} {rs : List (Int × Int)} {ax : Option Int} (m : Made c rs ax) (t : Nat) : Bl 14 (cf (madeP c rs ax) t) := by
  rw [cf_madeP]
  refine PB_bl (i := 2) (by decide) m.bl2 ?_ ?_ ?_ t
  · intro r hr
    have := m.root r hr
    unfold Bl
    show r.2.natAbs ≤ 4 ∧ r.1.natAbs ≤ 4
    obtain ⟨q1, q2, q3⟩ := this
    rcases q1 with q | q <;> omega
  · have := m.len; omega
  · intro u e
    have := m.axis u e
    unfold Bl
    show u.natAbs ≤ 4
    omega
theorem Made.len2 {c : Int} {rs : List (Int × Int)} {ax : Option Int} (m : Made c rs ax) : 2 ≤ (madeP c rs ax).length ∧ (madeP c rs ax).length ≤ 5 := by
  rw [madeP_len]; have := m.dq2; omega
theorem Made.lead0 {c : Int} {rs : List (Int × Int)} {ax : Option Int} (m : Made c rs ax) : lead (madeP c rs ax) ≠ 0 := by
  rw [cf_lead, cf_madeP, madeP_len, Nat.add_sub_cancel]
  exact top_PB m.ne fun r hr => by have := (m.root r hr).pos; omega
theorem ok_of {xs : List Int} {i : Nat} (hl : xs.length ≤ 5) (h : ∀ t, Bl i (cf xs t)) (hi : i < 8000) : Ok xs := by
  refine ⟨Nat.le_trans hl (by decide), fun x hx => ?_⟩
  obtain ⟨t, ht, rfl⟩ := List.getElem_of_mem hx
  have := h t
  rw [cf_lt ht] at this
  exact this.fit hi
theorem maxAbs_bl {i : Nat} {xs : List Int} (h : ∀ t, Bl i (cf xs t)) : maxAbs xs ≤ 2 ^ i := by
  rcases Nat.eq_zero_or_pos xs.length with q | q
  · have : xs = [] := List.length_eq_zero_iff.mp q
    subst this; exact Nat.zero_le _
  · obtain ⟨y, hy, e⟩ := maxAbs_mem q
    obtain ⟨t, ht, rfl⟩ := List.getElem_of_mem hy
    have := h t
    rw [cf_lt ht] at this
    unfold Bl at this; omega
theorem rootB_le {i : Nat} {xs : List Int} (h : ∀ t, Bl i (cf xs t)) : rootB xs ≤ 2 + 2 ^ i := by
  unfold rootB
  have h1 := Nat.div_le_self (maxAbs xs) (lead xs).natAbs
  have h2 := maxAbs_bl h
  omega
theorem root_in {c : Int} {rs : List (Int × Int)} {ax : Option Int} (m : Made c rs ax) {r : Int × Int} (hr : r ∈ rs) : r.1.natAbs < r.2.natAbs * rootB (madeP c rs ax) := by
  have hp := (m.root r hr).pos
  refine root_lt (by omega) m.lead0 ?_
  rw [cf_madeP, madeP_len, Nat.add_sub_cancel, Ph_PB]
  exact (Val_zero (by omega) m.ne).mpr ⟨r, hr, by rw [Int.mul_comm]; exact Int.sub_self _⟩
theorem two_le (xs : List Int) : 2 ≤ rootB xs := Nat.le_add_right _ _
/-- a distance of two roots is within both bounds -/
theorem gap_lt {h : Nat} {p q s t : Int} {A B : Nat} (hp : 0 < p) (hq : 0 < q) (h1 : t.natAbs < p.natAbs * A) (h2 : s.natAbs < q.natAbs * B) (e : (h : Int) * (p * q) = s * p - t * q) : h < A + B := by
  obtain ⟨p, rfl⟩ := Int.eq_ofNat_of_zero_le (Int.le_of_lt hp)
  obtain ⟨q, rfl⟩ := Int.eq_ofNat_of_zero_le (Int.le_of_lt hq)
  have h1 : t.natAbs < p * A := h1
  have h2 : s.natAbs < q * B := h2
  have hp : 0 < p := by omega
  have hq : 0 < q := by omega
  apply Nat.lt_of_mul_lt_mul_right (a := p * q)
  have e1 : h * (p * q) = (s * p - t * q).natAbs := by
    rw [← e, Int.natAbs_mul, Int.natAbs_mul]; rfl
  have e2 := Int.natAbs_sub_le (s * p) (t * q)
  rw [Int.natAbs_mul, Int.natAbs_mul] at e2
  have e3 : s.natAbs * p < q * B * p := Nat.mul_lt_mul_of_pos_right h2 hp
  have e4 : t.natAbs * q < p * A * q := Nat.mul_lt_mul_of_pos_right h1 hq
  have e5 : (A + B) * (p * q) = p * A * q + q * B * p := by
    rw [Nat.add_mul]; congr 1 <;> ac_rfl
  rw [e1, e5]
  have e2 : (s * ↑p - t * ↑q).natAbs ≤ s.natAbs * p + t.natAbs * q := e2
  omega
theorem gap_small {h : Nat} {r s : Int × Int} (hr : RootOk r) (hs : RootOk s) (e : (h : Int) * (r.2 * s.2) = s.1 * r.2 - r.1 * s.2) : h ≤ 16 := by
  obtain ⟨p1, p2, p3⟩ := hr
  obtain ⟨q1, q2, q3⟩ := hs
  have p1 : r.2 = 1 ∨ r.2 = 2 := by rcases p1 with q | q; exact .inl q; exact .inr q.1
  have q1 : s.2 = 1 ∨ s.2 = 2 := by rcases q1 with q | q; exact .inl q; exact .inr q.1
  rcases p1 with p1 | p1 <;> rcases q1 with q1 | q1 <;> rw [p1, q1] at e <;> omega

theorem mathA : MathA := by
  intro c1 rs1 ax1 c2 rs2 ax2 m1 m2
  have a1 := m1.len2
  have a2 := m2.len2
  have d1 := m1.dq2
  have d2 := m2.dq2
  have hr1 : ∀ r ∈ rs1, r.2 ≠ 0 := fun r hr => by have := (m1.root r hr).pos; omega
  have hr2 : ∀ r ∈ rs2, r.2 ≠ 0 := fun r hr => by have := (m2.root r hr).pos; omega
  have l1 : (madeP c1 rs1 ax1).length - 1 = rs1.length + dq ax1 := by rw [madeP_len, Nat.add_sub_cancel]
  have l2 : (madeP c2 rs2 ax2).length - 1 = rs2.length + dq ax2 := by rw [madeP_len, Nat.add_sub_cancel]
  have b1 := rootB_le m1.bl0
  have b2 := rootB_le m2.bl0
  have sz : ((madeP c1 rs1 ax1).length - 1) * ((madeP c2 rs2 ax2).length - 1) ≤ 4 * 4 := Nat.mul_le_mul (by omega) (by omega)
  refine ⟨fun h => GF c1 rs1 ax1 c2 (mvR h rs2) (ax2.map (· - (h : Int))) (rs2.length + dq ax2), ok_of a1.2 m1.bl0 (by decide), ok_of a2.2 m2.bl0 (by decide), a1.1, a2.1, m1.lead0, m2.lead0, by omega, ?_, ?_, ?_⟩
  · have e : (2 : Nat) ^ 14 = 16384 := by decide
    have e2 : (2 : Nat) ^ 20 = 1048576 := by decide
    rw [e] at b1 b2
    omega
  · intro h hh
    have hh : h ≤ 16 := by omega
    have hl := shift_len (h : Int) ((madeP c2 rs2 ax2).length - 1) (madeP c2 rs2 ax2)
    have ec := cf_moved (h : Int) c2 rs2 ax2
    have hv : ∀ r ∈ mvR h rs2, r.2 ≠ 0 := fun r hr => by
      obtain ⟨r, hr', rfl⟩ := List.mem_map.mp hr; exact hr2 r hr'
    have := res_ok (a := madeP c1 rs1 ax1) (b := shift h ((madeP c2 rs2 ax2).length - 1) (madeP c2 rs2 ax2)) a1.1 a1.2 (by rw [hl]; exact a2.1) (by rw [hl]; exact a2.2) m1.lead0
      (by
        rw [cf_lead, ec, hl, l2]
        have := top_PB (c := c2) (rs := mvR h rs2) (ax := ax2.map (· - (h : Int))) m2.ne hv
        rw [mvR_len, dq_map] at this; exact this)
      (fun t => (m1.bl0 t).mono (by decide)) (fun t => by rw [ec]; exact (m2.bl hh t).mono (by decide))
    rw [hl, ec, cf_madeP, l1, l2, Rs_SR (by omega)] at this
    have e := Rs_PB (c := c1) (d := c2) (rs := rs1) (ts := mvR h rs2) ax1 (ax2.map (· - (h : Int))) hr1 hv
    rw [mvR_len, dq_map] at e
    rw [e] at this
    rw [l2]
    exact this
  · have hP := Pd_GF c1 rs1 ax1 c2 rs2 ax2
    rw [l1, l2, zeros_tab hP]
    unfold pick
    congr 1
    have Z := fun h : Nat => GF_zero (n := rs2.length + dq ax2) (ax := ax1) (ay := ax2) m1.ne m2.ne hr1 hr2 h
    refine range_same (fun h => ?_) (fun h hh => ?_) (fun h hh => ?_)
    · rw [Bool.eq_iff_iff, beq_iff_eq, List.any_eq_true, Z]
      constructor
      · rintro (q | q)
        · exact ⟨h, List.mem_append_left _ ((due_any (fun r hr => (m1.root r hr).pos) (fun r hr => (m2.root r hr).pos) h).mpr q), by simp⟩
        · exact ⟨h, List.mem_append_right _ ((ax_any h ax1 ax2).mpr q), by simp⟩
      · rintro ⟨x, hx, e⟩
        have e := beq_iff_eq.mp e
        subst e
        rcases List.mem_append.mp hx with q | q
        · exact .inl ((due_any (fun r hr => (m1.root r hr).pos) (fun r hr => (m2.root r hr).pos) h).mp q)
        · exact .inr ((ax_any h ax1 ax2).mp q)
    · rcases (Z h).mp (beq_iff_eq.mp hh) with ⟨r, hr, s, hs, e⟩ | ⟨u, v, e1, e2, e⟩
      · have := gap_lt (m1.root r hr).pos (m2.root s hs).pos (root_in m1 hr) (root_in m2 hs) e
        omega
      · have h1 := m1.axis u e1
        have h2 := m2.axis v e2
        have h3 := two_le (madeP c1 rs1 ax1)
        have h4 := two_le (madeP c2 rs2 ax2)
        omega
    · rcases (Z h).mp (beq_iff_eq.mp hh) with ⟨r, hr, s, hs, e⟩ | ⟨u, v, e1, e2, e⟩
      · have := gap_small (m1.root r hr) (m2.root s hs) e
        omega
      · have h1 := m1.axis u e1
        have h2 := m2.axis v e2
        omega
end Mine
namespace Mine
set_option maxRecDepth 100000
set_option maxHeartbeats 8000000
theorem room (n : Nat) (hn : n ≤ 100) : Room callerA n := by
  refine ⟨rfl, Nat.lt_of_le_of_lt (Nat.add_le_add_right (Nat.add_le_add_left hn _) 4) (by decide +kernel), Nat.lt_of_le_of_lt (Nat.add_le_add_right (Nat.add_le_add_left (Nat.mul_le_mul_left 8 hn) _) 200) (by decide +kernel)⟩
end Mine

set_option maxRecDepth 100000 in
set_option maxHeartbeats 8000000 in
theorem PySem.Challenge.cw_nn0264_01_holds : PySem.Challenge.rw_nn0264_01.Holds := by
  w_on
  refine holds_law Mine.said_ok fun said => ?_
  refine holds_open (q := Mine.view) (loose := []) (Xt := fun s => xlAt Mine.view [] s && recOk (RowW.records PySem.Challenge.rw_nn0264_01.row.toRowW) s) (XP := XL Mine.view []) (Yf := Hook.obs Mine.hook) (Ya := Hook.val Mine.hook) (YP := Hook.says Mine.hook) (N := 2336) ?hl (Hook.of Mine.hook) (Hook.keeps Mine.hook) (fun s e => xl_of s (Bool.and_eq_true_iff.mp e).1) XL.keeps (by rfl) (by rfl) (by rfl) (fun s e => recFacts_of (Bool.and_eq_true_iff.mp e).2) (by rfl) (by first | assumption | decide +kernel) (by decide +kernel) ⟨rfl, rfl, rfl, rfl, rfl, by decide +kernel⟩ ?hw ?hc
  case hl => exact Mine.left_ok
  case hw => w_witness2
  intro w s₀ s₁ mg mb G Y fa o pm cd doc dV kV ho hd hcd hD hmg hg args vals as hpre hlay hrd hwl hlo
  have KX := kIn_of Y
  refine Ground.open G ?_
  intro T B D TE TW
  wrow_args hpre hlay hrd hwl hlo
  rename_i sn _ _ _ _ _ _ _ sa rvs _ hIs _ _ _ hIn _ hlen _
  have e203 : mg (Str.ofString "law") = some (.ref 203) := mg_of (K := Mine.heapK w.params) KX T.g (by rfl)
  have efa : fa = 203 := Value.ref.inj (Option.some.inj (hmg.symm.trans e203))
  subst efa
  have hBF : Mine.BF (Mine.CX w sa sn) s₁.heap := ⟨KX, ⟨rvs, hIs, hIn⟩, T.nolimit, ⟨mg, T.g⟩, ⟨mb, T.b, T.builtins⟩⟩
  have hLed : Mine.Led (Mine.CX w sa sn).pr (Mine.CX w sa sn).w s₁.heap [] [] s₁.heap := ⟨fun b o e => e, rfl, List.nodup_nil, fun a h => (nomatch h), fun p c e => by simp at e⟩
  refine wpAny_mono (Mine.law_ok (w := w) (sa := sa) (sn := sn) Mine.mathA Mine.mathB (Nat.le_trans (show sn.length ≤ 63 by omega) (by decide)) (n := 10) callerA s₁ [] s₁.heap [.ref sa] (fun v s' => GoodWG PySem.Challenge.rw_nn0264_01.row.claim (classAt s₀.heap) (ExcName.means s₀.heap) [ofPy (PyData.list (List.map PyData.int sn))] s₁ (Except.ok (Flow.ret v)) s') (Mine.room 20 (by decide)) hBF hLed (.cons rfl .nil) ?_) (fun _ _ x => x) fun _ _ x => x.elim
  rintro v H' rv r' h' tk rfl hv hl hgr
  have hv : rv = .bool true := hv
  subst hv
  exact ⟨.inl ⟨_, _, [], rfl, fun _ => rfl, .bool true, by first | kernel_rfl | (unfold ClaimW.post; simp) | skip, fun _ => ⟨List.nodup_nil, fun a h => (nomatch h)⟩⟩, .of_keep hl.sub, rfl, .of_eq hg⟩
