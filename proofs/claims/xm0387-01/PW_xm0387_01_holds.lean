import PyProof.Rows.All
import Wide.All
import OpenK.AllK
import Wide.FinOn
import PySem.Challenge.RW_xm0387_01
set_option Elab.async false
set_option linter.unusedVariables false
set_option linter.unusedSimpArgs false

namespace Mine
/-! HK -/
open PySem PySem.W PyProof.Rows
set_option maxRecDepth 100000
def stOf (p : Program) (k : Nat) : Stmt := (p.main.body[k]?).getD (.Pass ⟨0, 0, 0, 0⟩)
abbrev stAt (k : Nat) : Stmt := stOf PySem.Challenge.pw_xm0387_01 k
def fdArgs : Stmt → Arguments
  | .FunctionDef _ a _ _ _ _ _ _ _ _ => a
  | _ => { posonlyargs := [], args := [], vararg := none, kwonlyargs := [], kw_defaults := [], kwarg := none, defaults := [] }
def fdBody : Stmt → List Stmt
  | .FunctionDef _ _ b _ _ _ _ _ _ _ => b
  | _ => []
def fdScope : Stmt → Scope
  | .FunctionDef _ _ _ _ _ _ s _ _ _ => s
  | _ => { kind := .function, names := [], isGenerator := false, isCoroutine := false, more := [] }
def posOf : Stmt → Pos
  | .FunctionDef _ _ _ _ _ _ _ _ _ p => p
  | _ => ⟨0, 0, 0, 0⟩

/-! the written part of the heap -/
noncomputable def tx (x : String) (t : Nat) : Value := .str (Str.ofString x) t
noncomputable def en (P : Params) (x : String) (t : Nat) (v : Value) : DictEntry := { hash := PyData.keyHash P (Str.ofString x), key := tx x t, val := v }
noncomputable def cdO (x : String) (t₁ ln ar r t₂ : Nat) (l : List Value) : Obj :=
  { cls := .type "code", data := .fields #[tx x t₁, tx x (t₁ + 1), tx "/claim/cut.py" (t₁ + 2), .int ln 0, .int ar 0, .int 0 0, .int 0 0, .int 3 0, .ref r, .bool true, .int 181 0, .ref (r + 1), .none, l.getD 0 .none, l.getD 1 .none, l.getD 2 .none, .int t₂ 0, .int ln 0, tx "/claim/cut.py" (t₂ + 1)] }
noncomputable def fnO (p : Program) (k : Nat) (x m : String) (t : Nat) (c : Addr) : Obj :=
  { cls := .type "function", data := .func { name := Str.ofString x, qualname := Str.ofString x, params := fdArgs (stOf p k), body := .stmts (fdBody (stOf p k)), scope := fdScope (stOf p k), globals := 3, closure := [], defaults := .none, kwdefaults := .none, pyModule := tx m t, code := .ref c } }
noncomputable def heapOf (p : Program) : Params → Frag := fun P =>
  (3, { cls := .type "dict", data := .dict #[en P "__name__" 165 (tx "law_xm0387_01" 550), en P "__doc__" 166 .none, en P "__package__" 167 .none, en P "__loader__" 168 (.builtin "__main__.__loader__#opaque"), en P "__spec__" 169 .none, en P "__annotations__" 170 (.ref 6), en P "__builtins__" 171 (.ref 4), en P "__file__" 173 (tx "/claim/cut.py" 172), en P "__cached__" 174 .none, en P "GmpError" 208 (.ref 24), en P "DivisionByZero" 224 (.ref 37), en P "OutOfRange" 240 (.ref 49), en P "normal" 248 (.ref 58), en P "is_even" 255 (.ref 65), en P "compare" 264 (.ref 72), en P "divrem_limb" 276 (.ref 79), en P "shift_left" 291 (.ref 86), en P "shift_right" 306 (.ref 93), en P "bits" 314 (.ref 100), en P "bit" 323 (.ref 107), en P "trailing" 333 (.ref 114), en P "odd_powers" 347 (.ref 121), en P "window_at" 360 (.ref 128), en P "by_windows" 378 (.ref 135), en P "check_modulus" 385 (.ref 142), en P "unit_rest" 392 (.ref 149), en P "divided_times" 407 (.ref 156), en P "power_mod" 421 (.ref 163), en P "last_bits" 429 (.ref 168), en P "two_sign" 438 (.ref 175), en P "jacobi" 450 (.ref 182), en P "mul_school" 468 (.ref 189), en P "divrem_small" 479 (.ref 196), en P "guessed_limb" 493 (.ref 203), en P "take_away" 509 (.ref 210), en P "put_back" 523 (.ref 217), en P "divide_rows" 536 (.ref 224), en P "divrem_school" 549 (.ref 231), en P "_law_dug" 559 (.ref 238), en P "_law_limbs" 568 (.ref 245), en P "_law_raised" 578 (.ref 252), en P "_law_times" 588 (.ref 259), en P "_law_squarings" 599 (.ref 266), en P "law" 605 (.ref 271)] 44 }) ::
  (57, cdO "normal" 241 8 1 52 246 [.ref 54, .ref 55, .ref 56]) :: (58, fnO p 4 "normal" "gmp.limbs" 187 57) ::
  (64, cdO "is_even" 249 13 1 59 253 [.ref 61, .ref 62, .ref 63]) :: (65, fnO p 5 "is_even" "gmp.limbs" 187 64) ::
  (71, cdO "compare" 256 15 2 66 262 [.ref 68, .ref 69, .ref 70]) :: (72, fnO p 6 "compare" "gmp.limbs" 187 71) ::
  (78, cdO "divrem_limb" 265 22 3 73 274 [.ref 75, .ref 76, .ref 77]) :: (79, fnO p 7 "divrem_limb" "gmp.limbs" 187 78) ::
  (85, cdO "shift_left" 277 31 3 80 289 [.ref 82, .ref 83, .ref 84]) :: (86, fnO p 8 "shift_left" "gmp.limbs" 187 85) ::
  (92, cdO "shift_right" 292 43 3 87 304 [.ref 89, .ref 90, .ref 91]) :: (93, fnO p 9 "shift_right" "gmp.limbs" 187 92) ::
  (99, cdO "bits" 307 50 2 94 312 [.ref 96, .ref 97, .ref 98]) :: (100, fnO p 10 "bits" "gmp.limbs" 187 99) ::
  (106, cdO "bit" 315 52 3 101 321 [.ref 103, .ref 104, .ref 105]) :: (107, fnO p 11 "bit" "gmp.limbs" 187 106) ::
  (113, cdO "trailing" 324 54 2 108 331 [.ref 110, .ref 111, .ref 112]) :: (114, fnO p 12 "trailing" "gmp.limbs" 187 113) ::
  (120, cdO "odd_powers" 336 60 3 115 345 [.ref 117, .ref 118, .ref 119]) :: (121, fnO p 14 "odd_powers" "gmp.powers" 334 120) ::
  (127, cdO "window_at" 348 65 4 122 358 [.ref 124, .ref 125, .ref 126]) :: (128, fnO p 15 "window_at" "gmp.powers" 334 127) ::
  (134, cdO "by_windows" 361 73 6 129 376 [.ref 131, .ref 132, .ref 133]) :: (135, fnO p 16 "by_windows" "gmp.powers" 334 134) ::
  (141, cdO "check_modulus" 379 92 1 136 383 [.ref 138, .ref 139, .ref 140]) :: (142, fnO p 17 "check_modulus" "gmp.powers" 334 141) ::
  (148, cdO "unit_rest" 386 95 1 143 390 [.ref 145, .ref 146, .ref 147]) :: (149, fnO p 18 "unit_rest" "gmp.powers" 334 148) ::
  (155, cdO "divided_times" 393 97 4 150 405 [.ref 152, .ref 153, .ref 154]) :: (156, fnO p 19 "divided_times" "gmp.powers" 334 155) ::
  (162, cdO "power_mod" 408 102 7 157 419 [.ref 159, .ref 160, .ref 161]) :: (163, fnO p 20 "power_mod" "gmp.powers" 334 162) ::
  (167, cdO "last_bits" 424 107 3 164 427 [.none, .none, .ref 166]) :: (168, fnO p 22 "last_bits" "gmp.residues" 422 167) ::
  (174, cdO "two_sign" 430 109 3 169 436 [.ref 171, .ref 172, .ref 173]) :: (175, fnO p 23 "two_sign" "gmp.residues" 422 174) ::
  (181, cdO "jacobi" 439 111 4 176 448 [.ref 178, .ref 179, .ref 180]) :: (182, fnO p 24 "jacobi" "gmp.residues" 422 181) ::
  (188, cdO "mul_school" 453 124 3 183 466 [.ref 185, .ref 186, .ref 187]) :: (189, fnO p 26 "mul_school" "gmp.school" 451 188) ::
  (195, cdO "divrem_small" 469 134 3 190 477 [.ref 192, .ref 193, .ref 194]) :: (196, fnO p 27 "divrem_small" "gmp.school" 451 195) ::
  (202, cdO "guessed_limb" 480 137 4 197 491 [.ref 199, .ref 200, .ref 201]) :: (203, fnO p 28 "guessed_limb" "gmp.school" 451 202) ::
  (209, cdO "take_away" 494 145 5 204 507 [.ref 206, .ref 207, .ref 208]) :: (210, fnO p 29 "take_away" "gmp.school" 451 209) ::
  (216, cdO "put_back" 510 154 4 211 521 [.ref 213, .ref 214, .ref 215]) :: (217, fnO p 30 "put_back" "gmp.school" 451 216) ::
  (223, cdO "divide_rows" 524 161 3 218 534 [.ref 220, .ref 221, .ref 222]) :: (224, fnO p 31 "divide_rows" "gmp.school" 451 223) ::
  (230, cdO "divrem_school" 537 171 3 225 547 [.ref 227, .ref 228, .ref 229]) :: (231, fnO p 32 "divrem_school" "gmp.school" 451 230) ::
  (237, cdO "_law_dug" 552 185 2 232 557 [.ref 234, .ref 235, .ref 236]) :: (238, fnO p 34 "_law_dug" "law_xm0387_01" 550 237) ::
  (244, cdO "_law_limbs" 560 190 2 239 566 [.ref 241, .ref 242, .ref 243]) :: (245, fnO p 35 "_law_limbs" "law_xm0387_01" 550 244) ::
  (251, cdO "_law_raised" 569 196 4 246 576 [.ref 248, .ref 249, .ref 250]) :: (252, fnO p 36 "_law_raised" "law_xm0387_01" 550 251) ::
  (258, cdO "_law_times" 579 198 4 253 586 [.ref 255, .ref 256, .ref 257]) :: (259, fnO p 37 "_law_times" "law_xm0387_01" 550 258) ::
  (265, cdO "_law_squarings" 589 200 4 260 597 [.ref 262, .ref 263, .ref 264]) :: (266, fnO p 38 "_law_squarings" "law_xm0387_01" 550 265) ::
  (270, cdO "law" 600 206 1 267 603 [.none, .none, .ref 269]) :: (271, fnO p 39 "law" "law_xm0387_01" 550 270) :: []
noncomputable def heapAs : List Addr := [3, 57, 58, 64, 65, 71, 72, 78, 79, 85, 86, 92, 93, 99, 100, 106, 107, 113, 114, 120, 121, 127, 128, 134, 135, 141, 142, 148, 149, 155, 156, 162, 163, 167, 168, 174, 175, 181, 182, 188, 189, 195, 196, 202, 203, 209, 210, 216, 217, 223, 224, 230, 231, 237, 238, 244, 245, 251, 252, 258, 259, 265, 266, 270, 271]
noncomputable def heapK : Params → Frag := fun P =>
  (nat_lit 3, { cls := .type "dict", data := .dict #[en P "__name__" 165 (tx "law_xm0387_01" 550), en P "__doc__" 166 .none, en P "__package__" 167 .none, en P "__loader__" 168 (.builtin "__main__.__loader__#opaque"), en P "__spec__" 169 .none, en P "__annotations__" 170 (.ref 6), en P "__builtins__" 171 (.ref 4), en P "__file__" 173 (tx "/claim/cut.py" 172), en P "__cached__" 174 .none, en P "GmpError" 208 (.ref 24), en P "DivisionByZero" 224 (.ref 37), en P "OutOfRange" 240 (.ref 49), en P "normal" 248 (.ref 58), en P "is_even" 255 (.ref 65), en P "compare" 264 (.ref 72), en P "divrem_limb" 276 (.ref 79), en P "shift_left" 291 (.ref 86), en P "shift_right" 306 (.ref 93), en P "bits" 314 (.ref 100), en P "bit" 323 (.ref 107), en P "trailing" 333 (.ref 114), en P "odd_powers" 347 (.ref 121), en P "window_at" 360 (.ref 128), en P "by_windows" 378 (.ref 135), en P "check_modulus" 385 (.ref 142), en P "unit_rest" 392 (.ref 149), en P "divided_times" 407 (.ref 156), en P "power_mod" 421 (.ref 163), en P "last_bits" 429 (.ref 168), en P "two_sign" 438 (.ref 175), en P "jacobi" 450 (.ref 182), en P "mul_school" 468 (.ref 189), en P "divrem_small" 479 (.ref 196), en P "guessed_limb" 493 (.ref 203), en P "take_away" 509 (.ref 210), en P "put_back" 523 (.ref 217), en P "divide_rows" 536 (.ref 224), en P "divrem_school" 549 (.ref 231), en P "_law_dug" 559 (.ref 238), en P "_law_limbs" 568 (.ref 245), en P "_law_raised" 578 (.ref 252), en P "_law_times" 588 (.ref 259), en P "_law_squarings" 599 (.ref 266), en P "law" 605 (.ref 271)] 44 }) ::
  (nat_lit 57, cdO "normal" 241 8 1 52 246 [.ref 54, .ref 55, .ref 56]) :: (nat_lit 58, fnO PySem.Challenge.pw_xm0387_01 4 "normal" "gmp.limbs" 187 57) ::
  (nat_lit 64, cdO "is_even" 249 13 1 59 253 [.ref 61, .ref 62, .ref 63]) :: (nat_lit 65, fnO PySem.Challenge.pw_xm0387_01 5 "is_even" "gmp.limbs" 187 64) ::
  (nat_lit 71, cdO "compare" 256 15 2 66 262 [.ref 68, .ref 69, .ref 70]) :: (nat_lit 72, fnO PySem.Challenge.pw_xm0387_01 6 "compare" "gmp.limbs" 187 71) ::
  (nat_lit 78, cdO "divrem_limb" 265 22 3 73 274 [.ref 75, .ref 76, .ref 77]) :: (nat_lit 79, fnO PySem.Challenge.pw_xm0387_01 7 "divrem_limb" "gmp.limbs" 187 78) ::
  (nat_lit 85, cdO "shift_left" 277 31 3 80 289 [.ref 82, .ref 83, .ref 84]) :: (nat_lit 86, fnO PySem.Challenge.pw_xm0387_01 8 "shift_left" "gmp.limbs" 187 85) ::
  (nat_lit 92, cdO "shift_right" 292 43 3 87 304 [.ref 89, .ref 90, .ref 91]) :: (nat_lit 93, fnO PySem.Challenge.pw_xm0387_01 9 "shift_right" "gmp.limbs" 187 92) ::
  (nat_lit 99, cdO "bits" 307 50 2 94 312 [.ref 96, .ref 97, .ref 98]) :: (nat_lit 100, fnO PySem.Challenge.pw_xm0387_01 10 "bits" "gmp.limbs" 187 99) ::
  (nat_lit 106, cdO "bit" 315 52 3 101 321 [.ref 103, .ref 104, .ref 105]) :: (nat_lit 107, fnO PySem.Challenge.pw_xm0387_01 11 "bit" "gmp.limbs" 187 106) ::
  (nat_lit 113, cdO "trailing" 324 54 2 108 331 [.ref 110, .ref 111, .ref 112]) :: (nat_lit 114, fnO PySem.Challenge.pw_xm0387_01 12 "trailing" "gmp.limbs" 187 113) ::
  (nat_lit 120, cdO "odd_powers" 336 60 3 115 345 [.ref 117, .ref 118, .ref 119]) :: (nat_lit 121, fnO PySem.Challenge.pw_xm0387_01 14 "odd_powers" "gmp.powers" 334 120) ::
  (nat_lit 127, cdO "window_at" 348 65 4 122 358 [.ref 124, .ref 125, .ref 126]) :: (nat_lit 128, fnO PySem.Challenge.pw_xm0387_01 15 "window_at" "gmp.powers" 334 127) ::
  (nat_lit 134, cdO "by_windows" 361 73 6 129 376 [.ref 131, .ref 132, .ref 133]) :: (nat_lit 135, fnO PySem.Challenge.pw_xm0387_01 16 "by_windows" "gmp.powers" 334 134) ::
  (nat_lit 141, cdO "check_modulus" 379 92 1 136 383 [.ref 138, .ref 139, .ref 140]) :: (nat_lit 142, fnO PySem.Challenge.pw_xm0387_01 17 "check_modulus" "gmp.powers" 334 141) ::
  (nat_lit 148, cdO "unit_rest" 386 95 1 143 390 [.ref 145, .ref 146, .ref 147]) :: (nat_lit 149, fnO PySem.Challenge.pw_xm0387_01 18 "unit_rest" "gmp.powers" 334 148) ::
  (nat_lit 155, cdO "divided_times" 393 97 4 150 405 [.ref 152, .ref 153, .ref 154]) :: (nat_lit 156, fnO PySem.Challenge.pw_xm0387_01 19 "divided_times" "gmp.powers" 334 155) ::
  (nat_lit 162, cdO "power_mod" 408 102 7 157 419 [.ref 159, .ref 160, .ref 161]) :: (nat_lit 163, fnO PySem.Challenge.pw_xm0387_01 20 "power_mod" "gmp.powers" 334 162) ::
  (nat_lit 167, cdO "last_bits" 424 107 3 164 427 [.none, .none, .ref 166]) :: (nat_lit 168, fnO PySem.Challenge.pw_xm0387_01 22 "last_bits" "gmp.residues" 422 167) ::
  (nat_lit 174, cdO "two_sign" 430 109 3 169 436 [.ref 171, .ref 172, .ref 173]) :: (nat_lit 175, fnO PySem.Challenge.pw_xm0387_01 23 "two_sign" "gmp.residues" 422 174) ::
  (nat_lit 181, cdO "jacobi" 439 111 4 176 448 [.ref 178, .ref 179, .ref 180]) :: (nat_lit 182, fnO PySem.Challenge.pw_xm0387_01 24 "jacobi" "gmp.residues" 422 181) ::
  (nat_lit 188, cdO "mul_school" 453 124 3 183 466 [.ref 185, .ref 186, .ref 187]) :: (nat_lit 189, fnO PySem.Challenge.pw_xm0387_01 26 "mul_school" "gmp.school" 451 188) ::
  (nat_lit 195, cdO "divrem_small" 469 134 3 190 477 [.ref 192, .ref 193, .ref 194]) :: (nat_lit 196, fnO PySem.Challenge.pw_xm0387_01 27 "divrem_small" "gmp.school" 451 195) ::
  (nat_lit 202, cdO "guessed_limb" 480 137 4 197 491 [.ref 199, .ref 200, .ref 201]) :: (nat_lit 203, fnO PySem.Challenge.pw_xm0387_01 28 "guessed_limb" "gmp.school" 451 202) ::
  (nat_lit 209, cdO "take_away" 494 145 5 204 507 [.ref 206, .ref 207, .ref 208]) :: (nat_lit 210, fnO PySem.Challenge.pw_xm0387_01 29 "take_away" "gmp.school" 451 209) ::
  (nat_lit 216, cdO "put_back" 510 154 4 211 521 [.ref 213, .ref 214, .ref 215]) :: (nat_lit 217, fnO PySem.Challenge.pw_xm0387_01 30 "put_back" "gmp.school" 451 216) ::
  (nat_lit 223, cdO "divide_rows" 524 161 3 218 534 [.ref 220, .ref 221, .ref 222]) :: (nat_lit 224, fnO PySem.Challenge.pw_xm0387_01 31 "divide_rows" "gmp.school" 451 223) ::
  (nat_lit 230, cdO "divrem_school" 537 171 3 225 547 [.ref 227, .ref 228, .ref 229]) :: (nat_lit 231, fnO PySem.Challenge.pw_xm0387_01 32 "divrem_school" "gmp.school" 451 230) ::
  (nat_lit 237, cdO "_law_dug" 552 185 2 232 557 [.ref 234, .ref 235, .ref 236]) :: (nat_lit 238, fnO PySem.Challenge.pw_xm0387_01 34 "_law_dug" "law_xm0387_01" 550 237) ::
  (nat_lit 244, cdO "_law_limbs" 560 190 2 239 566 [.ref 241, .ref 242, .ref 243]) :: (nat_lit 245, fnO PySem.Challenge.pw_xm0387_01 35 "_law_limbs" "law_xm0387_01" 550 244) ::
  (nat_lit 251, cdO "_law_raised" 569 196 4 246 576 [.ref 248, .ref 249, .ref 250]) :: (nat_lit 252, fnO PySem.Challenge.pw_xm0387_01 36 "_law_raised" "law_xm0387_01" 550 251) ::
  (nat_lit 258, cdO "_law_times" 579 198 4 253 586 [.ref 255, .ref 256, .ref 257]) :: (nat_lit 259, fnO PySem.Challenge.pw_xm0387_01 37 "_law_times" "law_xm0387_01" 550 258) ::
  (nat_lit 265, cdO "_law_squarings" 589 200 4 260 597 [.ref 262, .ref 263, .ref 264]) :: (nat_lit 266, fnO PySem.Challenge.pw_xm0387_01 38 "_law_squarings" "law_xm0387_01" 550 265) ::
  (nat_lit 270, cdO "law" 600 206 1 267 603 [.none, .none, .ref 269]) :: (nat_lit 271, fnO PySem.Challenge.pw_xm0387_01 39 "law" "law_xm0387_01" 550 270) :: []
theorem heapK_eq : heapK = heapOf PySem.Challenge.pw_xm0387_01 := rfl
theorem heapE : ∀ P, heapAs = (heapK P).map (·.1) := fun _ => rfl
end Mine

namespace Mine
/-! H1 -/
open PySem PySem.W PyProof.Rows
set_option maxRecDepth 100000
noncomputable abbrev sq (l : List Nat) : Str := ⟨⟨l⟩⟩
noncomputable abbrev tq (l : List Nat) (t : Nat) : Value := .str ⟨⟨l⟩⟩ t
noncomputable abbrev entQ (P : Params) (l : List Nat) (t : Nat) (v : Value) : DictEntry := { hash := PyData.keyHash P ⟨⟨l⟩⟩, key := tq l t, val := v }
noncomputable def fnN (p : Program) (k : Nat) (x : List Nat) : Obj :=
  { cls := .none, data := .func { name := sq x, qualname := sq x, params := fdArgs (stOf p k), body := .stmts (fdBody (stOf p k)), scope := fdScope (stOf p k), globals := 0, closure := [], defaults := .none, kwdefaults := .none } }
noncomputable def fnQ (p : Program) (k : Nat) (x m : List Nat) (t : Nat) (c : Addr) : Obj :=
  { cls := .type "function", data := .func { name := sq x, qualname := sq x, params := fdArgs (stOf p k), body := .stmts (fdBody (stOf p k)), scope := fdScope (stOf p k), globals := 3, closure := [], defaults := .none, kwdefaults := .none, pyModule := tq m t, code := .ref c } }
/-- the heap behind the top -/
noncomputable def objs1 (p : Program) : Params → List Obj := fun P =>
  boot_o_0 P ::
  boot_o_1 P ::
  { cls := Value.none, data := Data.dict #[entQ P [116, 121, 112, 101, 46, 95, 95, 115, 117, 98, 99, 108, 97, 115, 115, 101, 115, 95, 95, 46, 69, 120, 99, 101, 112, 116, 105, 111, 110, 46, 48] 205 (Value.int 24 0), entQ P [116, 121, 112, 101, 46, 95, 95, 115, 117, 98, 99, 108, 97, 115, 115, 101, 115, 95, 95, 46, 69, 120, 99, 101, 112, 116, 105, 111, 110, 46, 110] 206 (Value.int 1 0)] 2 } ::
  { cls := Value.type "dict", data := Data.dict #[entQ P [95, 95, 110, 97, 109, 101, 95, 95] 165 (tq [108, 97, 119, 95, 120, 109, 48, 51, 56, 55, 95, 48, 49] 550), entQ P [95, 95, 100, 111, 99, 95, 95] 166 Value.none, entQ P [95, 95, 112, 97, 99, 107, 97, 103, 101, 95, 95] 167 Value.none, entQ P [95, 95, 108, 111, 97, 100, 101, 114, 95, 95] 168 (Value.builtin "__main__.__loader__#opaque"), entQ P [95, 95, 115, 112, 101, 99, 95, 95] 169 Value.none, entQ P [95, 95, 97, 110, 110, 111, 116, 97, 116, 105, 111, 110, 115, 95, 95] 170 (Value.ref 6), entQ P [95, 95, 98, 117, 105, 108, 116, 105, 110, 115, 95, 95] 171 (Value.ref 4), entQ P [95, 95, 102, 105, 108, 101, 95, 95] 173 (tq [47, 99, 108, 97, 105, 109, 47, 99, 117, 116, 46, 112, 121] 172), entQ P [95, 95, 99, 97, 99, 104, 101, 100, 95, 95] 174 Value.none, entQ P [71, 109, 112, 69, 114, 114, 111, 114] 208 (Value.ref 24), entQ P [68, 105, 118, 105, 115, 105, 111, 110, 66, 121, 90, 101, 114, 111] 224 (Value.ref 37), entQ P [79, 117, 116, 79, 102, 82, 97, 110, 103, 101] 240 (Value.ref 49), entQ P [110, 111, 114, 109, 97, 108] 248 (Value.ref 58), entQ P [105, 115, 95, 101, 118, 101, 110] 255 (Value.ref 65), entQ P [99, 111, 109, 112, 97, 114, 101] 264 (Value.ref 72), entQ P [100, 105, 118, 114, 101, 109, 95, 108, 105, 109, 98] 276 (Value.ref 79), entQ P [115, 104, 105, 102, 116, 95, 108, 101, 102, 116] 291 (Value.ref 86), entQ P [115, 104, 105, 102, 116, 95, 114, 105, 103, 104, 116] 306 (Value.ref 93), entQ P [98, 105, 116, 115] 314 (Value.ref 100), entQ P [98, 105, 116] 323 (Value.ref 107), entQ P [116, 114, 97, 105, 108, 105, 110, 103] 333 (Value.ref 114), entQ P [111, 100, 100, 95, 112, 111, 119, 101, 114, 115] 347 (Value.ref 121), entQ P [119, 105, 110, 100, 111, 119, 95, 97, 116] 360 (Value.ref 128), entQ P [98, 121, 95, 119, 105, 110, 100, 111, 119, 115] 378 (Value.ref 135), entQ P [99, 104, 101, 99, 107, 95, 109, 111, 100, 117, 108, 117, 115] 385 (Value.ref 142), entQ P [117, 110, 105, 116, 95, 114, 101, 115, 116] 392 (Value.ref 149), entQ P [100, 105, 118, 105, 100, 101, 100, 95, 116, 105, 109, 101, 115] 407 (Value.ref 156), entQ P [112, 111, 119, 101, 114, 95, 109, 111, 100] 421 (Value.ref 163), entQ P [108, 97, 115, 116, 95, 98, 105, 116, 115] 429 (Value.ref 168), entQ P [116, 119, 111, 95, 115, 105, 103, 110] 438 (Value.ref 175), entQ P [106, 97, 99, 111, 98, 105] 450 (Value.ref 182), entQ P [109, 117, 108, 95, 115, 99, 104, 111, 111, 108] 468 (Value.ref 189), entQ P [100, 105, 118, 114, 101, 109, 95, 115, 109, 97, 108, 108] 479 (Value.ref 196), entQ P [103, 117, 101, 115, 115, 101, 100, 95, 108, 105, 109, 98] 493 (Value.ref 203), entQ P [116, 97, 107, 101, 95, 97, 119, 97, 121] 509 (Value.ref 210), entQ P [112, 117, 116, 95, 98, 97, 99, 107] 523 (Value.ref 217), entQ P [100, 105, 118, 105, 100, 101, 95, 114, 111, 119, 115] 536 (Value.ref 224), entQ P [100, 105, 118, 114, 101, 109, 95, 115, 99, 104, 111, 111, 108] 549 (Value.ref 231), entQ P [95, 108, 97, 119, 95, 100, 117, 103] 559 (Value.ref 238), entQ P [95, 108, 97, 119, 95, 108, 105, 109, 98, 115] 568 (Value.ref 245), entQ P [95, 108, 97, 119, 95, 114, 97, 105, 115, 101, 100] 578 (Value.ref 252), entQ P [95, 108, 97, 119, 95, 116, 105, 109, 101, 115] 588 (Value.ref 259), entQ P [95, 108, 97, 119, 95, 115, 113, 117, 97, 114, 105, 110, 103, 115] 599 (Value.ref 266), entQ P [108, 97, 119] 605 (Value.ref 271)] 44 } ::
  boot_o_4 P ::
  boot_o_5 P ::
  boot_o_6 P ::
  boot_o_7 P ::
  boot_o_8 P ::
  boot_o_9 P ::
  boot_o_10 P ::
  { cls := Value.type "tuple", data := Data.seq #[] } ::
  { cls := Value.none, data := Data.fields #[Value.int 2 0, Value.int 0 0, Value.ref 20, Value.int 4 0, Value.int 0 0, Value.ref 33, Value.int 6 0, Value.int 0 0, Value.ref 45, Value.int 8 0, Value.int 0 0, Value.ref 57, Value.int 13 0, Value.int 0 0, Value.ref 64, Value.int 15 0, Value.int 0 0, Value.ref 71, Value.int 22 0, Value.int 0 0, Value.ref 78, Value.int 31 0, Value.int 0 0, Value.ref 85, Value.int 43 0, Value.int 0 0, Value.ref 92, Value.int 50 0, Value.int 0 0, Value.ref 99, Value.int 52 0, Value.int 0 0, Value.ref 106, Value.int 54 0, Value.int 0 0, Value.ref 113, Value.int 60 0, Value.int 0 0, Value.ref 120, Value.int 65 0, Value.int 0 0, Value.ref 127, Value.int 73 0, Value.int 0 0, Value.ref 134, Value.int 92 0, Value.int 0 0, Value.ref 141, Value.int 95 0, Value.int 0 0, Value.ref 148, Value.int 97 0, Value.int 0 0, Value.ref 155, Value.int 102 0, Value.int 0 0, Value.ref 162, Value.int 107 0, Value.int 0 0, Value.ref 167, Value.int 109 0, Value.int 0 0, Value.ref 174, Value.int 111 0, Value.int 0 0, Value.ref 181, Value.int 124 0, Value.int 0 0, Value.ref 188, Value.int 134 0, Value.int 0 0, Value.ref 195, Value.int 137 0, Value.int 0 0, Value.ref 202, Value.int 145 0, Value.int 0 0, Value.ref 209, Value.int 154 0, Value.int 0 0, Value.ref 216, Value.int 161 0, Value.int 0 0, Value.ref 223, Value.int 171 0, Value.int 0 0, Value.ref 230, Value.int 185 0, Value.int 0 0, Value.ref 237, Value.int 190 0, Value.int 0 0, Value.ref 244, Value.int 196 0, Value.int 0 0, Value.ref 251, Value.int 198 0, Value.int 0 0, Value.ref 258, Value.int 200 0, Value.int 0 0, Value.ref 265, Value.int 206 0, Value.int 0 0, Value.ref 270] } ::
  { cls := Value.type "code", data := Data.fields #[tq [60, 109, 111, 100, 117, 108, 101, 62] 182, tq [60, 109, 111, 100, 117, 108, 101, 62] 183, tq [47, 99, 108, 97, 105, 109, 47, 99, 117, 116, 46, 112, 121] 184, Value.int 1 0, Value.int 0 0, Value.int 0 0, Value.int 0 0, Value.int 0 0, Value.ref 11, Value.bool false, Value.int 181 0, Value.ref 12, Value.none, Value.none, Value.none, Value.none, Value.int 185 0, Value.int 1 0, tq [47, 99, 108, 97, 105, 109, 47, 99, 117, 116, 46, 112, 121] 186] } ::
  { cls := Value.type "frame", slots := #[some (Value.ref 13), some (Value.ref 3), some (Value.ref 3), none, some (tq [95, 95, 109, 97, 105, 110, 95, 95] 164), none, some (Value.ref 0)] } ::
  { cls := Value.type "tuple", data := Data.seq #[Value.type "Exception"] } ::
  { cls := Value.type "builtin_function_or_method", data := Data.fields #[Value.builtin "type.__prepare__", Value.type "type"] } ::
  { cls := Value.type "dict", data := Data.dict #[entQ P [95, 95, 109, 111, 100, 117, 108, 101, 95, 95] 196 (tq [103, 109, 112, 46, 108, 105, 109, 98, 115] 187), entQ P [95, 95, 113, 117, 97, 108, 110, 97, 109, 101, 95, 95] 198 (tq [71, 109, 112, 69, 114, 114, 111, 114] 197), entQ P [95, 95, 102, 105, 114, 115, 116, 108, 105, 110, 101, 110, 111, 95, 95] 200 (Value.int 2 199), entQ P [95, 95, 115, 116, 97, 116, 105, 99, 95, 97, 116, 116, 114, 105, 98, 117, 116, 101, 115, 95, 95] 201 (Value.ref 22)] 4 } ::
  { cls := Value.type "tuple", data := Data.seq #[] } ::
  { cls := Value.none, data := Data.fields #[] } ::
  { cls := Value.type "code", data := Data.fields #[tq [71, 109, 112, 69, 114, 114, 111, 114] 191, tq [71, 109, 112, 69, 114, 114, 111, 114] 192, tq [47, 99, 108, 97, 105, 109, 47, 99, 117, 116, 46, 112, 121] 193, Value.int 2 0, Value.int 0 0, Value.int 0 0, Value.int 0 0, Value.int 0 0, Value.ref 18, Value.bool false, Value.int 181 0, Value.ref 19, Value.none, Value.none, Value.none, Value.none, Value.int 194 0, Value.int 2 0, tq [47, 99, 108, 97, 105, 109, 47, 99, 117, 116, 46, 112, 121] 195] } ::
  { cls := Value.type "frame", slots := #[some (Value.ref 20), some (Value.ref 3), some (Value.ref 17), none, some (tq [103, 109, 112, 46, 108, 105, 109, 98, 115] 187), none, some (Value.ref 0)] } ::
  { cls := Value.type "tuple", data := Data.seq #[] } ::
  { cls := Value.type "dict", data := Data.dict #[entQ P [95, 95, 109, 111, 100, 117, 108, 101, 95, 95] 196 (tq [103, 109, 112, 46, 108, 105, 109, 98, 115] 187), entQ P [95, 95, 102, 105, 114, 115, 116, 108, 105, 110, 101, 110, 111, 95, 95] 200 (Value.int 2 199), entQ P [95, 95, 115, 116, 97, 116, 105, 99, 95, 97, 116, 116, 114, 105, 98, 117, 116, 101, 115, 95, 95] 201 (Value.ref 22), entQ P [95, 95, 119, 101, 97, 107, 114, 101, 102, 95, 95] 203 (Value.ref 25), entQ P [95, 95, 100, 111, 99, 95, 95] 204 Value.none] 3 } ::
  { cls := Value.type "type", data := Data.cls { name := sq [71, 109, 112, 69, 114, 114, 111, 114], bases := [Value.type "Exception"], mro := [Value.ref 24, Value.type "Exception", Value.type "BaseException", Value.type "object"], ns := 23, qualname := sq [71, 109, 112, 69, 114, 114, 111, 114], subclasses := [Value.ref 37, Value.ref 49] }, slots := #[some (Value.ref 15), none, some (tq [71, 109, 112, 69, 114, 114, 111, 114] 189), some (tq [71, 109, 112, 69, 114, 114, 111, 114] 197), some (Value.builtin "Exception.__new__"), some (Value.bool true)] } ::
  { cls := Value.type "getset_descriptor", data := Data.fields #[tq [95, 95, 119, 101, 97, 107, 114, 101, 102, 95, 95] 202, Value.ref 24, Value.builtin "ExceptionGroup.__weakref__", Value.none] } ::
  { cls := Value.type "super", data := Data.fields #[Value.ref 24, Value.ref 24, Value.ref 24] } ::
  { cls := Value.type "builtin_function_or_method", data := Data.fields #[Value.builtin "object.__init_subclass__", Value.ref 24] } ::
  { cls := Value.type "tuple", data := Data.seq #[Value.ref 24] } ::
  { cls := Value.type "builtin_function_or_method", data := Data.fields #[Value.builtin "type.__prepare__", Value.type "type"] } ::
  { cls := Value.type "dict", data := Data.dict #[entQ P [95, 95, 109, 111, 100, 117, 108, 101, 95, 95] 216 (tq [103, 109, 112, 46, 108, 105, 109, 98, 115] 187), entQ P [95, 95, 113, 117, 97, 108, 110, 97, 109, 101, 95, 95] 218 (tq [68, 105, 118, 105, 115, 105, 111, 110, 66, 121, 90, 101, 114, 111] 217), entQ P [95, 95, 102, 105, 114, 115, 116, 108, 105, 110, 101, 110, 111, 95, 95] 220 (Value.int 4 219), entQ P [95, 95, 115, 116, 97, 116, 105, 99, 95, 97, 116, 116, 114, 105, 98, 117, 116, 101, 115, 95, 95] 221 (Value.ref 35)] 4 } ::
  { cls := Value.type "tuple", data := Data.seq #[] } ::
  { cls := Value.none, data := Data.fields #[] } ::
  { cls := Value.type "code", data := Data.fields #[tq [68, 105, 118, 105, 115, 105, 111, 110, 66, 121, 90, 101, 114, 111] 211, tq [68, 105, 118, 105, 115, 105, 111, 110, 66, 121, 90, 101, 114, 111] 212, tq [47, 99, 108, 97, 105, 109, 47, 99, 117, 116, 46, 112, 121] 213, Value.int 4 0, Value.int 0 0, Value.int 0 0, Value.int 0 0, Value.int 0 0, Value.ref 31, Value.bool false, Value.int 181 0, Value.ref 32, Value.none, Value.none, Value.none, Value.none, Value.int 214 0, Value.int 4 0, tq [47, 99, 108, 97, 105, 109, 47, 99, 117, 116, 46, 112, 121] 215] } ::
  { cls := Value.type "frame", slots := #[some (Value.ref 33), some (Value.ref 3), some (Value.ref 30), none, some (tq [103, 109, 112, 46, 108, 105, 109, 98, 115] 187), none, some (Value.ref 0)] } ::
  { cls := Value.type "tuple", data := Data.seq #[] } ::
  { cls := Value.type "dict", data := Data.dict #[entQ P [95, 95, 109, 111, 100, 117, 108, 101, 95, 95] 216 (tq [103, 109, 112, 46, 108, 105, 109, 98, 115] 187), entQ P [95, 95, 102, 105, 114, 115, 116, 108, 105, 110, 101, 110, 111, 95, 95] 220 (Value.int 4 219), entQ P [95, 95, 115, 116, 97, 116, 105, 99, 95, 97, 116, 116, 114, 105, 98, 117, 116, 101, 115, 95, 95] 221 (Value.ref 35), entQ P [95, 95, 100, 111, 99, 95, 95] 222 Value.none] 2 } ::
  { cls := Value.type "type", data := Data.cls { name := sq [68, 105, 118, 105, 115, 105, 111, 110, 66, 121, 90, 101, 114, 111], bases := [Value.ref 24], mro := [Value.ref 37, Value.ref 24, Value.type "Exception", Value.type "BaseException", Value.type "object"], ns := 36, qualname := sq [68, 105, 118, 105, 115, 105, 111, 110, 66, 121, 90, 101, 114, 111] }, slots := #[some (Value.ref 28), none, some (tq [68, 105, 118, 105, 115, 105, 111, 110, 66, 121, 90, 101, 114, 111] 209), some (tq [68, 105, 118, 105, 115, 105, 111, 110, 66, 121, 90, 101, 114, 111] 217), some (Value.builtin "Exception.__new__"), some (Value.bool true)] } ::
  { cls := Value.type "super", data := Data.fields #[Value.ref 37, Value.ref 37, Value.ref 37] } ::
  { cls := Value.type "builtin_function_or_method", data := Data.fields #[Value.builtin "object.__init_subclass__", Value.ref 37] } ::
  { cls := Value.type "tuple", data := Data.seq #[Value.ref 24] } ::
  { cls := Value.type "builtin_function_or_method", data := Data.fields #[Value.builtin "type.__prepare__", Value.type "type"] } ::
  { cls := Value.type "dict", data := Data.dict #[entQ P [95, 95, 109, 111, 100, 117, 108, 101, 95, 95] 232 (tq [103, 109, 112, 46, 108, 105, 109, 98, 115] 187), entQ P [95, 95, 113, 117, 97, 108, 110, 97, 109, 101, 95, 95] 234 (tq [79, 117, 116, 79, 102, 82, 97, 110, 103, 101] 233), entQ P [95, 95, 102, 105, 114, 115, 116, 108, 105, 110, 101, 110, 111, 95, 95] 236 (Value.int 6 235), entQ P [95, 95, 115, 116, 97, 116, 105, 99, 95, 97, 116, 116, 114, 105, 98, 117, 116, 101, 115, 95, 95] 237 (Value.ref 47)] 4 } ::
  { cls := Value.type "tuple", data := Data.seq #[] } ::
  { cls := Value.none, data := Data.fields #[] } ::
  { cls := Value.type "code", data := Data.fields #[tq [79, 117, 116, 79, 102, 82, 97, 110, 103, 101] 227, tq [79, 117, 116, 79, 102, 82, 97, 110, 103, 101] 228, tq [47, 99, 108, 97, 105, 109, 47, 99, 117, 116, 46, 112, 121] 229, Value.int 6 0, Value.int 0 0, Value.int 0 0, Value.int 0 0, Value.int 0 0, Value.ref 43, Value.bool false, Value.int 181 0, Value.ref 44, Value.none, Value.none, Value.none, Value.none, Value.int 230 0, Value.int 6 0, tq [47, 99, 108, 97, 105, 109, 47, 99, 117, 116, 46, 112, 121] 231] } ::
  { cls := Value.type "frame", slots := #[some (Value.ref 45), some (Value.ref 3), some (Value.ref 42), none, some (tq [103, 109, 112, 46, 108, 105, 109, 98, 115] 187), none, some (Value.ref 0)] } ::
  { cls := Value.type "tuple", data := Data.seq #[] } ::
  { cls := Value.type "dict", data := Data.dict #[entQ P [95, 95, 109, 111, 100, 117, 108, 101, 95, 95] 232 (tq [103, 109, 112, 46, 108, 105, 109, 98, 115] 187), entQ P [95, 95, 102, 105, 114, 115, 116, 108, 105, 110, 101, 110, 111, 95, 95] 236 (Value.int 6 235), entQ P [95, 95, 115, 116, 97, 116, 105, 99, 95, 97, 116, 116, 114, 105, 98, 117, 116, 101, 115, 95, 95] 237 (Value.ref 47), entQ P [95, 95, 100, 111, 99, 95, 95] 238 Value.none] 2 } ::
  { cls := Value.type "type", data := Data.cls { name := sq [79, 117, 116, 79, 102, 82, 97, 110, 103, 101], bases := [Value.ref 24], mro := [Value.ref 49, Value.ref 24, Value.type "Exception", Value.type "BaseException", Value.type "object"], ns := 48, qualname := sq [79, 117, 116, 79, 102, 82, 97, 110, 103, 101] }, slots := #[some (Value.ref 40), none, some (tq [79, 117, 116, 79, 102, 82, 97, 110, 103, 101] 225), some (tq [79, 117, 116, 79, 102, 82, 97, 110, 103, 101] 233), some (Value.builtin "Exception.__new__"), some (Value.bool true)] } ::
  { cls := Value.type "super", data := Data.fields #[Value.ref 49, Value.ref 49, Value.ref 49] } ::
  { cls := Value.type "builtin_function_or_method", data := Data.fields #[Value.builtin "object.__init_subclass__", Value.ref 49] } ::
  { cls := Value.type "tuple", data := Data.seq #[] } ::
  { cls := Value.none, data := Data.fields #[] } ::
  { cls := Value.type "tuple", data := Data.seq #[tq [97] 244, tq [101, 110, 100] 245] } ::
  { cls := Value.type "tuple", data := Data.seq #[] } ::
  fnN p 4 [110, 111, 114, 109, 97, 108] ::
  { cls := Value.type "code", data := Data.fields #[tq [110, 111, 114, 109, 97, 108] 241, tq [110, 111, 114, 109, 97, 108] 242, tq [47, 99, 108, 97, 105, 109, 47, 99, 117, 116, 46, 112, 121] 243, Value.int 8 0, Value.int 1 0, Value.int 0 0, Value.int 0 0, Value.int 3 0, Value.ref 52, Value.bool true, Value.int 181 0, Value.ref 53, Value.none, Value.ref 54, Value.ref 55, Value.ref 56, Value.int 246 0, Value.int 8 0, tq [47, 99, 108, 97, 105, 109, 47, 99, 117, 116, 46, 112, 121] 247] } ::
  fnQ p 4 [110, 111, 114, 109, 97, 108] [103, 109, 112, 46, 108, 105, 109, 98, 115] 187 57 ::
  { cls := Value.type "tuple", data := Data.seq #[] } ::
  { cls := Value.none, data := Data.fields #[] } ::
  { cls := Value.type "tuple", data := Data.seq #[tq [97] 252] } ::
  { cls := Value.type "tuple", data := Data.seq #[] } ::
  fnN p 5 [105, 115, 95, 101, 118, 101, 110] ::
  { cls := Value.type "code", data := Data.fields #[tq [105, 115, 95, 101, 118, 101, 110] 249, tq [105, 115, 95, 101, 118, 101, 110] 250, tq [47, 99, 108, 97, 105, 109, 47, 99, 117, 116, 46, 112, 121] 251, Value.int 13 0, Value.int 1 0, Value.int 0 0, Value.int 0 0, Value.int 3 0, Value.ref 59, Value.bool true, Value.int 181 0, Value.ref 60, Value.none, Value.ref 61, Value.ref 62, Value.ref 63, Value.int 253 0, Value.int 13 0, tq [47, 99, 108, 97, 105, 109, 47, 99, 117, 116, 46, 112, 121] 254] } ::
  fnQ p 5 [105, 115, 95, 101, 118, 101, 110] [103, 109, 112, 46, 108, 105, 109, 98, 115] 187 64 ::
  { cls := Value.type "tuple", data := Data.seq #[] } ::
  { cls := Value.none, data := Data.fields #[] } ::
  { cls := Value.type "tuple", data := Data.seq #[tq [97] 259, tq [98] 260, tq [97, 116] 261] } ::
  { cls := Value.type "tuple", data := Data.seq #[] } ::
  fnN p 6 [99, 111, 109, 112, 97, 114, 101] ::
  { cls := Value.type "code", data := Data.fields #[tq [99, 111, 109, 112, 97, 114, 101] 256, tq [99, 111, 109, 112, 97, 114, 101] 257, tq [47, 99, 108, 97, 105, 109, 47, 99, 117, 116, 46, 112, 121] 258, Value.int 15 0, Value.int 2 0, Value.int 0 0, Value.int 0 0, Value.int 3 0, Value.ref 66, Value.bool true, Value.int 181 0, Value.ref 67, Value.none, Value.ref 68, Value.ref 69, Value.ref 70, Value.int 262 0, Value.int 15 0, tq [47, 99, 108, 97, 105, 109, 47, 99, 117, 116, 46, 112, 121] 263] } ::
  fnQ p 6 [99, 111, 109, 112, 97, 114, 101] [103, 109, 112, 46, 108, 105, 109, 98, 115] 187 71 ::
  { cls := Value.type "tuple", data := Data.seq #[] } ::
  { cls := Value.none, data := Data.fields #[] } ::
  { cls := Value.type "tuple", data := Data.seq #[tq [97] 268, tq [108, 105, 109, 98] 269, tq [119] 270, tq [102, 111, 117, 110, 100] 271, tq [114, 101, 115, 116] 272, tq [97, 116] 273] } ::
  { cls := Value.type "tuple", data := Data.seq #[] } ::
  fnN p 7 [100, 105, 118, 114, 101, 109, 95, 108, 105, 109, 98] ::
  { cls := Value.type "code", data := Data.fields #[tq [100, 105, 118, 114, 101, 109, 95, 108, 105, 109, 98] 265, tq [100, 105, 118, 114, 101, 109, 95, 108, 105, 109, 98] 266, tq [47, 99, 108, 97, 105, 109, 47, 99, 117, 116, 46, 112, 121] 267, Value.int 22 0, Value.int 3 0, Value.int 0 0, Value.int 0 0, Value.int 3 0, Value.ref 73, Value.bool true, Value.int 181 0, Value.ref 74, Value.none, Value.ref 75, Value.ref 76, Value.ref 77, Value.int 274 0, Value.int 22 0, tq [47, 99, 108, 97, 105, 109, 47, 99, 117, 116, 46, 112, 121] 275] } ::
  fnQ p 7 [100, 105, 118, 114, 101, 109, 95, 108, 105, 109, 98] [103, 109, 112, 46, 108, 105, 109, 98, 115] 187 78 ::
  { cls := Value.type "tuple", data := Data.seq #[] } ::
  { cls := Value.none, data := Data.fields #[] } ::
  { cls := Value.type "tuple", data := Data.seq #[tq [97] 280, tq [110] 281, tq [119] 282, tq [115, 112, 111, 116, 115] 283, tq [102, 101, 119] 284, tq [102, 111, 117, 110, 100] 285, tq [99, 97, 114, 114, 121] 286, tq [109, 97, 115, 107] 287, tq [111, 110, 101] 288] } ::
  { cls := Value.type "tuple", data := Data.seq #[] } ::
  fnN p 8 [115, 104, 105, 102, 116, 95, 108, 101, 102, 116] ::
  { cls := Value.type "code", data := Data.fields #[tq [115, 104, 105, 102, 116, 95, 108, 101, 102, 116] 277, tq [115, 104, 105, 102, 116, 95, 108, 101, 102, 116] 278, tq [47, 99, 108, 97, 105, 109, 47, 99, 117, 116, 46, 112, 121] 279, Value.int 31 0, Value.int 3 0, Value.int 0 0, Value.int 0 0, Value.int 3 0, Value.ref 80, Value.bool true, Value.int 181 0, Value.ref 81, Value.none, Value.ref 82, Value.ref 83, Value.ref 84, Value.int 289 0, Value.int 31 0, tq [47, 99, 108, 97, 105, 109, 47, 99, 117, 116, 46, 112, 121] 290] } ::
  fnQ p 8 [115, 104, 105, 102, 116, 95, 108, 101, 102, 116] [103, 109, 112, 46, 108, 105, 109, 98, 115] 187 85 ::
  { cls := Value.type "tuple", data := Data.seq #[] } ::
  { cls := Value.none, data := Data.fields #[] } ::
  { cls := Value.type "tuple", data := Data.seq #[tq [97] 295, tq [110] 296, tq [119] 297, tq [115, 112, 111, 116, 115] 298, tq [102, 101, 119] 299, tq [102, 111, 117, 110, 100] 300, tq [109, 97, 115, 107] 301, tq [97, 116] 302, tq [97, 98, 111, 118, 101] 303] } ::
  { cls := Value.type "tuple", data := Data.seq #[] } ::
  fnN p 9 [115, 104, 105, 102, 116, 95, 114, 105, 103, 104, 116] ::
  { cls := Value.type "code", data := Data.fields #[tq [115, 104, 105, 102, 116, 95, 114, 105, 103, 104, 116] 292, tq [115, 104, 105, 102, 116, 95, 114, 105, 103, 104, 116] 293, tq [47, 99, 108, 97, 105, 109, 47, 99, 117, 116, 46, 112, 121] 294, Value.int 43 0, Value.int 3 0, Value.int 0 0, Value.int 0 0, Value.int 3 0, Value.ref 87, Value.bool true, Value.int 181 0, Value.ref 88, Value.none, Value.ref 89, Value.ref 90, Value.ref 91, Value.int 304 0, Value.int 43 0, tq [47, 99, 108, 97, 105, 109, 47, 99, 117, 116, 46, 112, 121] 305] } ::
  fnQ p 9 [115, 104, 105, 102, 116, 95, 114, 105, 103, 104, 116] [103, 109, 112, 46, 108, 105, 109, 98, 115] 187 92 ::
  { cls := Value.type "tuple", data := Data.seq #[] } ::
  { cls := Value.none, data := Data.fields #[] } ::
  { cls := Value.type "tuple", data := Data.seq #[tq [97] 310, tq [119] 311] } ::
  { cls := Value.type "tuple", data := Data.seq #[] } ::
  fnN p 10 [98, 105, 116, 115] ::
  { cls := Value.type "code", data := Data.fields #[tq [98, 105, 116, 115] 307, tq [98, 105, 116, 115] 308, tq [47, 99, 108, 97, 105, 109, 47, 99, 117, 116, 46, 112, 121] 309, Value.int 50 0, Value.int 2 0, Value.int 0 0, Value.int 0 0, Value.int 3 0, Value.ref 94, Value.bool true, Value.int 181 0, Value.ref 95, Value.none, Value.ref 96, Value.ref 97, Value.ref 98, Value.int 312 0, Value.int 50 0, tq [47, 99, 108, 97, 105, 109, 47, 99, 117, 116, 46, 112, 121] 313] } ::
  fnQ p 10 [98, 105, 116, 115] [103, 109, 112, 46, 108, 105, 109, 98, 115] 187 99 ::
  { cls := Value.type "tuple", data := Data.seq #[] } ::
  { cls := Value.none, data := Data.fields #[] } ::
  { cls := Value.type "tuple", data := Data.seq #[tq [97] 318, tq [110] 319, tq [119] 320] } ::
  { cls := Value.type "tuple", data := Data.seq #[] } ::
  fnN p 11 [98, 105, 116] ::
  { cls := Value.type "code", data := Data.fields #[tq [98, 105, 116] 315, tq [98, 105, 116] 316, tq [47, 99, 108, 97, 105, 109, 47, 99, 117, 116, 46, 112, 121] 317, Value.int 52 0, Value.int 3 0, Value.int 0 0, Value.int 0 0, Value.int 3 0, Value.ref 101, Value.bool true, Value.int 181 0, Value.ref 102, Value.none, Value.ref 103, Value.ref 104, Value.ref 105, Value.int 321 0, Value.int 52 0, tq [47, 99, 108, 97, 105, 109, 47, 99, 117, 116, 46, 112, 121] 322] } ::
  fnQ p 11 [98, 105, 116] [103, 109, 112, 46, 108, 105, 109, 98, 115] 187 106 ::
  { cls := Value.type "tuple", data := Data.seq #[] } ::
  { cls := Value.none, data := Data.fields #[] } ::
  { cls := Value.type "tuple", data := Data.seq #[tq [97] 327, tq [119] 328, tq [97, 116] 329, tq [108, 105, 109, 98] 330] } ::
  { cls := Value.type "tuple", data := Data.seq #[] } ::
  fnN p 12 [116, 114, 97, 105, 108, 105, 110, 103] ::
  { cls := Value.type "code", data := Data.fields #[tq [116, 114, 97, 105, 108, 105, 110, 103] 324, tq [116, 114, 97, 105, 108, 105, 110, 103] 325, tq [47, 99, 108, 97, 105, 109, 47, 99, 117, 116, 46, 112, 121] 326, Value.int 54 0, Value.int 2 0, Value.int 0 0, Value.int 0 0, Value.int 3 0, Value.ref 108, Value.bool true, Value.int 181 0, Value.ref 109, Value.none, Value.ref 110, Value.ref 111, Value.ref 112, Value.int 331 0, Value.int 54 0, tq [47, 99, 108, 97, 105, 109, 47, 99, 117, 116, 46, 112, 121] 332] } ::
  fnQ p 12 [116, 114, 97, 105, 108, 105, 110, 103] [103, 109, 112, 46, 108, 105, 109, 98, 115] 187 113 ::
  { cls := Value.type "tuple", data := Data.seq #[] } ::
  { cls := Value.none, data := Data.fields #[] } ::
  { cls := Value.type "tuple", data := Data.seq #[tq [98, 97, 115, 101] 339, tq [115, 105, 122, 101] 340, tq [116, 105, 109, 101, 115] 341, tq [102, 111, 117, 110, 100] 342, tq [115, 113, 117, 97, 114, 101] 343, tq [116, 117, 114, 110] 344] } ::
  { cls := Value.type "tuple", data := Data.seq #[] } ::
  fnN p 14 [111, 100, 100, 95, 112, 111, 119, 101, 114, 115] ::
  { cls := Value.type "code", data := Data.fields #[tq [111, 100, 100, 95, 112, 111, 119, 101, 114, 115] 336, tq [111, 100, 100, 95, 112, 111, 119, 101, 114, 115] 337, tq [47, 99, 108, 97, 105, 109, 47, 99, 117, 116, 46, 112, 121] 338, Value.int 60 0, Value.int 3 0, Value.int 0 0, Value.int 0 0, Value.int 3 0, Value.ref 115, Value.bool true, Value.int 181 0, Value.ref 116, Value.none, Value.ref 117, Value.ref 118, Value.ref 119, Value.int 345 0, Value.int 60 0, tq [47, 99, 108, 97, 105, 109, 47, 99, 117, 116, 46, 112, 121] 346] } ::
  fnQ p 14 [111, 100, 100, 95, 112, 111, 119, 101, 114, 115] [103, 109, 112, 46, 112, 111, 119, 101, 114, 115] 334 120 ::
  { cls := Value.type "tuple", data := Data.seq #[] } ::
  { cls := Value.none, data := Data.fields #[] } ::
  { cls := Value.type "tuple", data := Data.seq #[tq [101] 351, tq [116, 111, 112] 352, tq [115, 105, 122, 101] 353, tq [119] 354, tq [108, 97, 115, 116] 355, tq [118, 97, 108, 117, 101] 356, tq [115, 112, 111, 116] 357] } ::
  { cls := Value.type "tuple", data := Data.seq #[] } ::
  fnN p 15 [119, 105, 110, 100, 111, 119, 95, 97, 116] ::
  { cls := Value.type "code", data := Data.fields #[tq [119, 105, 110, 100, 111, 119, 95, 97, 116] 348, tq [119, 105, 110, 100, 111, 119, 95, 97, 116] 349, tq [47, 99, 108, 97, 105, 109, 47, 99, 117, 116, 46, 112, 121] 350, Value.int 65 0, Value.int 4 0, Value.int 0 0, Value.int 0 0, Value.int 3 0, Value.ref 122, Value.bool true, Value.int 181 0, Value.ref 123, Value.none, Value.ref 124, Value.ref 125, Value.ref 126, Value.int 358 0, Value.int 65 0, tq [47, 99, 108, 97, 105, 109, 47, 99, 117, 116, 46, 112, 121] 359] } ::
  fnQ p 15 [119, 105, 110, 100, 111, 119, 95, 97, 116] [103, 109, 112, 46, 112, 111, 119, 101, 114, 115] 334 127 ::
  { cls := Value.type "tuple", data := Data.seq #[] } ::
  { cls := Value.none, data := Data.fields #[] } ::
  { cls := Value.type "tuple", data := Data.seq #[tq [98, 97, 115, 101] 364, tq [101] 365, tq [115, 105, 122, 101] 366, tq [119] 367, tq [111, 110, 101] 368, tq [116, 105, 109, 101, 115] 369, tq [116, 97, 98, 108, 101] 370, tq [102, 111, 117, 110, 100] 371, tq [115, 112, 111, 116] 372, tq [118, 97, 108, 117, 101] 373, tq [109, 97, 110, 121] 374, tq [116, 117, 114, 110] 375] } ::
  { cls := Value.type "tuple", data := Data.seq #[] } ::
  fnN p 16 [98, 121, 95, 119, 105, 110, 100, 111, 119, 115] ::
  { cls := Value.type "code", data := Data.fields #[tq [98, 121, 95, 119, 105, 110, 100, 111, 119, 115] 361, tq [98, 121, 95, 119, 105, 110, 100, 111, 119, 115] 362, tq [47, 99, 108, 97, 105, 109, 47, 99, 117, 116, 46, 112, 121] 363, Value.int 73 0, Value.int 6 0, Value.int 0 0, Value.int 0 0, Value.int 3 0, Value.ref 129, Value.bool true, Value.int 181 0, Value.ref 130, Value.none, Value.ref 131, Value.ref 132, Value.ref 133, Value.int 376 0, Value.int 73 0, tq [47, 99, 108, 97, 105, 109, 47, 99, 117, 116, 46, 112, 121] 377] } ::
  fnQ p 16 [98, 121, 95, 119, 105, 110, 100, 111, 119, 115] [103, 109, 112, 46, 112, 111, 119, 101, 114, 115] 334 134 ::
  { cls := Value.type "tuple", data := Data.seq #[] } ::
  { cls := Value.none, data := Data.fields #[] } ::
  { cls := Value.type "tuple", data := Data.seq #[tq [109] 382] } ::
  { cls := Value.type "tuple", data := Data.seq #[] } ::
  fnN p 17 [99, 104, 101, 99, 107, 95, 109, 111, 100, 117, 108, 117, 115] ::
  { cls := Value.type "code", data := Data.fields #[tq [99, 104, 101, 99, 107, 95, 109, 111, 100, 117, 108, 117, 115] 379, tq [99, 104, 101, 99, 107, 95, 109, 111, 100, 117, 108, 117, 115] 380, tq [47, 99, 108, 97, 105, 109, 47, 99, 117, 116, 46, 112, 121] 381, Value.int 92 0, Value.int 1 0, Value.int 0 0, Value.int 0 0, Value.int 3 0, Value.ref 136, Value.bool true, Value.int 181 0, Value.ref 137, Value.none, Value.ref 138, Value.ref 139, Value.ref 140, Value.int 383 0, Value.int 92 0, tq [47, 99, 108, 97, 105, 109, 47, 99, 117, 116, 46, 112, 121] 384] } ::
  fnQ p 17 [99, 104, 101, 99, 107, 95, 109, 111, 100, 117, 108, 117, 115] [103, 109, 112, 46, 112, 111, 119, 101, 114, 115] 334 141 ::
  { cls := Value.type "tuple", data := Data.seq #[] } ::
  { cls := Value.none, data := Data.fields #[] } ::
  { cls := Value.type "tuple", data := Data.seq #[tq [109] 389] } ::
  { cls := Value.type "tuple", data := Data.seq #[] } ::
  fnN p 18 [117, 110, 105, 116, 95, 114, 101, 115, 116] ::
  { cls := Value.type "code", data := Data.fields #[tq [117, 110, 105, 116, 95, 114, 101, 115, 116] 386, tq [117, 110, 105, 116, 95, 114, 101, 115, 116] 387, tq [47, 99, 108, 97, 105, 109, 47, 99, 117, 116, 46, 112, 121] 388, Value.int 95 0, Value.int 1 0, Value.int 0 0, Value.int 0 0, Value.int 3 0, Value.ref 143, Value.bool true, Value.int 181 0, Value.ref 144, Value.none, Value.ref 145, Value.ref 146, Value.ref 147, Value.int 390 0, Value.int 95 0, tq [47, 99, 108, 97, 105, 109, 47, 99, 117, 116, 46, 112, 121] 391] } ::
  fnQ p 18 [117, 110, 105, 116, 95, 114, 101, 115, 116] [103, 109, 112, 46, 112, 111, 119, 101, 114, 115] 334 148 ::
  { cls := Value.type "tuple", data := Data.seq #[] } ::
  { cls := Value.none, data := Data.fields #[] } ::
  { cls := Value.type "tuple", data := Data.seq #[tq [109] 396, tq [119] 397, tq [109, 117, 108] 398, tq [100, 105, 118, 114, 101, 109] 399, tq [109, 117, 108, 116, 105, 112, 108, 105, 101, 100] 400] } ::
  { cls := Value.type "tuple", data := Data.seq #[tq [109] 401, tq [119] 402, tq [109, 117, 108] 403, tq [100, 105, 118, 114, 101, 109] 404] } ::
  fnN p 19 [100, 105, 118, 105, 100, 101, 100, 95, 116, 105, 109, 101, 115] ::
  { cls := Value.type "code", data := Data.fields #[tq [100, 105, 118, 105, 100, 101, 100, 95, 116, 105, 109, 101, 115] 393, tq [100, 105, 118, 105, 100, 101, 100, 95, 116, 105, 109, 101, 115] 394, tq [47, 99, 108, 97, 105, 109, 47, 99, 117, 116, 46, 112, 121] 395, Value.int 97 0, Value.int 4 0, Value.int 0 0, Value.int 0 0, Value.int 3 0, Value.ref 150, Value.bool true, Value.int 181 0, Value.ref 151, Value.none, Value.ref 152, Value.ref 153, Value.ref 154, Value.int 405 0, Value.int 97 0, tq [47, 99, 108, 97, 105, 109, 47, 99, 117, 116, 46, 112, 121] 406] } ::
  fnQ p 19 [100, 105, 118, 105, 100, 101, 100, 95, 116, 105, 109, 101, 115] [103, 109, 112, 46, 112, 111, 119, 101, 114, 115] 334 155 ::
  { cls := Value.type "tuple", data := Data.seq #[] } ::
  { cls := Value.none, data := Data.fields #[] } ::
  { cls := Value.type "tuple", data := Data.seq #[tq [97] 411, tq [101] 412, tq [109] 413, tq [119] 414, tq [115, 105, 122, 101] 415, tq [109, 117, 108] 416, tq [100, 105, 118, 114, 101, 109] 417, tq [98, 97, 115, 101] 418] } ::
  { cls := Value.type "tuple", data := Data.seq #[] } ::
  fnN p 20 [112, 111, 119, 101, 114, 95, 109, 111, 100] ::
  { cls := Value.type "code", data := Data.fields #[tq [112, 111, 119, 101, 114, 95, 109, 111, 100] 408, tq [112, 111, 119, 101, 114, 95, 109, 111, 100] 409, tq [47, 99, 108, 97, 105, 109, 47, 99, 117, 116, 46, 112, 121] 410, Value.int 102 0, Value.int 7 0, Value.int 0 0, Value.int 0 0, Value.int 3 0, Value.ref 157, Value.bool true, Value.int 181 0, Value.ref 158, Value.none, Value.ref 159, Value.ref 160, Value.ref 161, Value.int 419 0, Value.int 102 0, tq [47, 99, 108, 97, 105, 109, 47, 99, 117, 116, 46, 112, 121] 420] } ::
  fnQ p 20 [112, 111, 119, 101, 114, 95, 109, 111, 100] [103, 109, 112, 46, 112, 111, 119, 101, 114, 115] 334 162 ::
  { cls := Value.type "tuple", data := Data.seq #[] } ::
  { cls := Value.none, data := Data.fields #[] } ::
  fnN p 22 [108, 97, 115, 116, 95, 98, 105, 116, 115] ::
  { cls := Value.type "code", data := Data.fields #[tq [108, 97, 115, 116, 95, 98, 105, 116, 115] 424, tq [108, 97, 115, 116, 95, 98, 105, 116, 115] 425, tq [47, 99, 108, 97, 105, 109, 47, 99, 117, 116, 46, 112, 121] 426, Value.int 107 0, Value.int 3 0, Value.int 0 0, Value.int 0 0, Value.int 3 0, Value.ref 164, Value.bool true, Value.int 181 0, Value.ref 165, Value.none, Value.none, Value.none, Value.ref 166, Value.int 427 0, Value.int 107 0, tq [47, 99, 108, 97, 105, 109, 47, 99, 117, 116, 46, 112, 121] 428] } ::
  fnQ p 22 [108, 97, 115, 116, 95, 98, 105, 116, 115] [103, 109, 112, 46, 114, 101, 115, 105, 100, 117, 101, 115] 422 167 ::
  { cls := Value.type "tuple", data := Data.seq #[] } ::
  { cls := Value.none, data := Data.fields #[] } ::
  { cls := Value.type "tuple", data := Data.seq #[tq [116, 119, 111, 115] 433, tq [97] 434, tq [119] 435] } ::
  { cls := Value.type "tuple", data := Data.seq #[] } ::
  fnN p 23 [116, 119, 111, 95, 115, 105, 103, 110] ::
  { cls := Value.type "code", data := Data.fields #[tq [116, 119, 111, 95, 115, 105, 103, 110] 430, tq [116, 119, 111, 95, 115, 105, 103, 110] 431, tq [47, 99, 108, 97, 105, 109, 47, 99, 117, 116, 46, 112, 121] 432, Value.int 109 0, Value.int 3 0, Value.int 0 0, Value.int 0 0, Value.int 3 0, Value.ref 169, Value.bool true, Value.int 181 0, Value.ref 170, Value.none, Value.ref 171, Value.ref 172, Value.ref 173, Value.int 436 0, Value.int 109 0, tq [47, 99, 108, 97, 105, 109, 47, 99, 117, 116, 46, 112, 121] 437] } ::
  fnQ p 23 [116, 119, 111, 95, 115, 105, 103, 110] [103, 109, 112, 46, 114, 101, 115, 105, 100, 117, 101, 115] 422 174 ::
  { cls := Value.type "tuple", data := Data.seq #[] } ::
  { cls := Value.none, data := Data.fields #[] } ::
  { cls := Value.type "tuple", data := Data.seq #[tq [97] 442, tq [110] 443, tq [119] 444, tq [100, 105, 118, 114, 101, 109] 445, tq [102, 111, 117, 110, 100] 446, tq [116, 119, 111, 115] 447] } ::
  { cls := Value.type "tuple", data := Data.seq #[] } ::
  fnN p 24 [106, 97, 99, 111, 98, 105] ::
  { cls := Value.type "code", data := Data.fields #[tq [106, 97, 99, 111, 98, 105] 439, tq [106, 97, 99, 111, 98, 105] 440, tq [47, 99, 108, 97, 105, 109, 47, 99, 117, 116, 46, 112, 121] 441, Value.int 111 0, Value.int 4 0, Value.int 0 0, Value.int 0 0, Value.int 3 0, Value.ref 176, Value.bool true, Value.int 181 0, Value.ref 177, Value.none, Value.ref 178, Value.ref 179, Value.ref 180, Value.int 448 0, Value.int 111 0, tq [47, 99, 108, 97, 105, 109, 47, 99, 117, 116, 46, 112, 121] 449] } ::
  fnQ p 24 [106, 97, 99, 111, 98, 105] [103, 109, 112, 46, 114, 101, 115, 105, 100, 117, 101, 115] 422 181 ::
  { cls := Value.type "tuple", data := Data.seq #[] } ::
  { cls := Value.none, data := Data.fields #[] } ::
  { cls := Value.type "tuple", data := Data.seq #[tq [97] 456, tq [98] 457, tq [119] 458, tq [102, 111, 117, 110, 100] 459, tq [109, 97, 115, 107] 460, tq [97, 116] 461, tq [108, 105, 109, 98] 462, tq [99, 97, 114, 114, 121] 463, tq [115, 112, 111, 116] 464, tq [111, 116, 104, 101, 114] 465] } ::
  { cls := Value.type "tuple", data := Data.seq #[] } ::
  fnN p 26 [109, 117, 108, 95, 115, 99, 104, 111, 111, 108] ::
  { cls := Value.type "code", data := Data.fields #[tq [109, 117, 108, 95, 115, 99, 104, 111, 111, 108] 453, tq [109, 117, 108, 95, 115, 99, 104, 111, 111, 108] 454, tq [47, 99, 108, 97, 105, 109, 47, 99, 117, 116, 46, 112, 121] 455, Value.int 124 0, Value.int 3 0, Value.int 0 0, Value.int 0 0, Value.int 3 0, Value.ref 183, Value.bool true, Value.int 181 0, Value.ref 184, Value.none, Value.ref 185, Value.ref 186, Value.ref 187, Value.int 466 0, Value.int 124 0, tq [47, 99, 108, 97, 105, 109, 47, 99, 117, 116, 46, 112, 121] 467] } ::
  fnQ p 26 [109, 117, 108, 95, 115, 99, 104, 111, 111, 108] [103, 109, 112, 46, 115, 99, 104, 111, 111, 108] 451 188 ::
  { cls := Value.type "tuple", data := Data.seq #[] } ::
  { cls := Value.none, data := Data.fields #[] } ::
  { cls := Value.type "tuple", data := Data.seq #[tq [97] 472, tq [98] 473, tq [119] 474, tq [113, 117, 111, 116, 105, 101, 110, 116] 475, tq [114, 101, 115, 116] 476] } ::
  { cls := Value.type "tuple", data := Data.seq #[] } ::
  fnN p 27 [100, 105, 118, 114, 101, 109, 95, 115, 109, 97, 108, 108] ::
  { cls := Value.type "code", data := Data.fields #[tq [100, 105, 118, 114, 101, 109, 95, 115, 109, 97, 108, 108] 469, tq [100, 105, 118, 114, 101, 109, 95, 115, 109, 97, 108, 108] 470, tq [47, 99, 108, 97, 105, 109, 47, 99, 117, 116, 46, 112, 121] 471, Value.int 134 0, Value.int 3 0, Value.int 0 0, Value.int 0 0, Value.int 3 0, Value.ref 190, Value.bool true, Value.int 181 0, Value.ref 191, Value.none, Value.ref 192, Value.ref 193, Value.ref 194, Value.int 477 0, Value.int 134 0, tq [47, 99, 108, 97, 105, 109, 47, 99, 117, 116, 46, 112, 121] 478] } ::
  fnQ p 27 [100, 105, 118, 114, 101, 109, 95, 115, 109, 97, 108, 108] [103, 109, 112, 46, 115, 99, 104, 111, 111, 108] 451 195 ::
  { cls := Value.type "tuple", data := Data.seq #[] } ::
  { cls := Value.none, data := Data.fields #[] } ::
  { cls := Value.type "tuple", data := Data.seq #[tq [116, 111, 112] 483, tq [102, 105, 114, 115, 116] 484, tq [115, 101, 99, 111, 110, 100] 485, tq [119] 486, tq [104, 105, 103, 104] 487, tq [98, 97, 115, 101] 488, tq [108, 105, 109, 98] 489, tq [114, 101, 115, 116] 490] } ::
  { cls := Value.type "tuple", data := Data.seq #[] } ::
  fnN p 28 [103, 117, 101, 115, 115, 101, 100, 95, 108, 105, 109, 98] ::
  { cls := Value.type "code", data := Data.fields #[tq [103, 117, 101, 115, 115, 101, 100, 95, 108, 105, 109, 98] 480, tq [103, 117, 101, 115, 115, 101, 100, 95, 108, 105, 109, 98] 481, tq [47, 99, 108, 97, 105, 109, 47, 99, 117, 116, 46, 112, 121] 482, Value.int 137 0, Value.int 4 0, Value.int 0 0, Value.int 0 0, Value.int 3 0, Value.ref 197, Value.bool true, Value.int 181 0, Value.ref 198, Value.none, Value.ref 199, Value.ref 200, Value.ref 201, Value.int 491 0, Value.int 137 0, tq [47, 99, 108, 97, 105, 109, 47, 99, 117, 116, 46, 112, 121] 492] } ::
  fnQ p 28 [103, 117, 101, 115, 115, 101, 100, 95, 108, 105, 109, 98] [103, 109, 112, 46, 115, 99, 104, 111, 111, 108] 451 202 ::
  { cls := Value.type "tuple", data := Data.seq #[] } ::
  { cls := Value.none, data := Data.fields #[] } ::
  { cls := Value.type "tuple", data := Data.seq #[tq [114, 101, 115, 116] 497, tq [98] 498, tq [108, 105, 109, 98] 499, tq [97, 116] 500, tq [119] 501, tq [99, 97, 114, 114, 121] 502, tq [98, 97, 115, 101] 503, tq [115, 112, 111, 116] 504, tq [111, 116, 104, 101, 114] 505, tq [104, 101, 114, 101] 506] } ::
  { cls := Value.type "tuple", data := Data.seq #[] } ::
  fnN p 29 [116, 97, 107, 101, 95, 97, 119, 97, 121] ::
  { cls := Value.type "code", data := Data.fields #[tq [116, 97, 107, 101, 95, 97, 119, 97, 121] 494, tq [116, 97, 107, 101, 95, 97, 119, 97, 121] 495, tq [47, 99, 108, 97, 105, 109, 47, 99, 117, 116, 46, 112, 121] 496, Value.int 145 0, Value.int 5 0, Value.int 0 0, Value.int 0 0, Value.int 3 0, Value.ref 204, Value.bool true, Value.int 181 0, Value.ref 205, Value.none, Value.ref 206, Value.ref 207, Value.ref 208, Value.int 507 0, Value.int 145 0, tq [47, 99, 108, 97, 105, 109, 47, 99, 117, 116, 46, 112, 121] 508] } ::
  fnQ p 29 [116, 97, 107, 101, 95, 97, 119, 97, 121] [103, 109, 112, 46, 115, 99, 104, 111, 111, 108] 451 209 ::
  { cls := Value.type "tuple", data := Data.seq #[] } ::
  { cls := Value.none, data := Data.fields #[] } ::
  { cls := Value.type "tuple", data := Data.seq #[tq [114, 101, 115, 116] 513, tq [98] 514, tq [97, 116] 515, tq [119] 516, tq [99, 97, 114, 114, 121] 517, tq [109, 97, 115, 107] 518, tq [115, 112, 111, 116] 519, tq [111, 116, 104, 101, 114] 520] } ::
  { cls := Value.type "tuple", data := Data.seq #[] } ::
  fnN p 30 [112, 117, 116, 95, 98, 97, 99, 107] ::
  { cls := Value.type "code", data := Data.fields #[tq [112, 117, 116, 95, 98, 97, 99, 107] 510, tq [112, 117, 116, 95, 98, 97, 99, 107] 511, tq [47, 99, 108, 97, 105, 109, 47, 99, 117, 116, 46, 112, 121] 512, Value.int 154 0, Value.int 4 0, Value.int 0 0, Value.int 0 0, Value.int 3 0, Value.ref 211, Value.bool true, Value.int 181 0, Value.ref 212, Value.none, Value.ref 213, Value.ref 214, Value.ref 215, Value.int 521 0, Value.int 154 0, tq [47, 99, 108, 97, 105, 109, 47, 99, 117, 116, 46, 112, 121] 522] } ::
  fnQ p 30 [112, 117, 116, 95, 98, 97, 99, 107] [103, 109, 112, 46, 115, 99, 104, 111, 111, 108] 451 216 ::
  { cls := Value.type "tuple", data := Data.seq #[] } ::
  { cls := Value.none, data := Data.fields #[] } ::
  { cls := Value.type "tuple", data := Data.seq #[tq [114, 101, 115, 116] 527, tq [98] 528, tq [119] 529, tq [115, 105, 122, 101] 530, tq [113, 117, 111, 116, 105, 101, 110, 116] 531, tq [97, 116] 532, tq [108, 105, 109, 98] 533] } ::
  { cls := Value.type "tuple", data := Data.seq #[] } ::
  fnN p 31 [100, 105, 118, 105, 100, 101, 95, 114, 111, 119, 115] ::
  { cls := Value.type "code", data := Data.fields #[tq [100, 105, 118, 105, 100, 101, 95, 114, 111, 119, 115] 524, tq [100, 105, 118, 105, 100, 101, 95, 114, 111, 119, 115] 525, tq [47, 99, 108, 97, 105, 109, 47, 99, 117, 116, 46, 112, 121] 526, Value.int 161 0, Value.int 3 0, Value.int 0 0, Value.int 0 0, Value.int 3 0, Value.ref 218, Value.bool true, Value.int 181 0, Value.ref 219, Value.none, Value.ref 220, Value.ref 221, Value.ref 222, Value.int 534 0, Value.int 161 0, tq [47, 99, 108, 97, 105, 109, 47, 99, 117, 116, 46, 112, 121] 535] } ::
  fnQ p 31 [100, 105, 118, 105, 100, 101, 95, 114, 111, 119, 115] [103, 109, 112, 46, 115, 99, 104, 111, 111, 108] 451 223 ::
  { cls := Value.type "tuple", data := Data.seq #[] } ::
  { cls := Value.none, data := Data.fields #[] } ::
  { cls := Value.type "tuple", data := Data.seq #[tq [97] 540, tq [98] 541, tq [119] 542, tq [115, 104, 105, 102, 116] 543, tq [100, 105, 118, 105, 115, 111, 114] 544, tq [114, 101, 115, 116] 545, tq [113, 117, 111, 116, 105, 101, 110, 116] 546] } ::
  { cls := Value.type "tuple", data := Data.seq #[] } ::
  fnN p 32 [100, 105, 118, 114, 101, 109, 95, 115, 99, 104, 111, 111, 108] ::
  { cls := Value.type "code", data := Data.fields #[tq [100, 105, 118, 114, 101, 109, 95, 115, 99, 104, 111, 111, 108] 537, tq [100, 105, 118, 114, 101, 109, 95, 115, 99, 104, 111, 111, 108] 538, tq [47, 99, 108, 97, 105, 109, 47, 99, 117, 116, 46, 112, 121] 539, Value.int 171 0, Value.int 3 0, Value.int 0 0, Value.int 0 0, Value.int 3 0, Value.ref 225, Value.bool true, Value.int 181 0, Value.ref 226, Value.none, Value.ref 227, Value.ref 228, Value.ref 229, Value.int 547 0, Value.int 171 0, tq [47, 99, 108, 97, 105, 109, 47, 99, 117, 116, 46, 112, 121] 548] } ::
  fnQ p 32 [100, 105, 118, 114, 101, 109, 95, 115, 99, 104, 111, 111, 108] [103, 109, 112, 46, 115, 99, 104, 111, 111, 108] 451 230 ::
  { cls := Value.type "tuple", data := Data.seq #[] } ::
  { cls := Value.none, data := Data.fields #[] } ::
  { cls := Value.type "tuple", data := Data.seq #[tq [109, 105, 110, 101] 555, tq [109, 97, 110, 121] 556] } ::
  { cls := Value.type "tuple", data := Data.seq #[] } ::
  fnN p 34 [95, 108, 97, 119, 95, 100, 117, 103] ::
  { cls := Value.type "code", data := Data.fields #[tq [95, 108, 97, 119, 95, 100, 117, 103] 552, tq [95, 108, 97, 119, 95, 100, 117, 103] 553, tq [47, 99, 108, 97, 105, 109, 47, 99, 117, 116, 46, 112, 121] 554, Value.int 185 0, Value.int 2 0, Value.int 0 0, Value.int 0 0, Value.int 3 0, Value.ref 232, Value.bool true, Value.int 181 0, Value.ref 233, Value.none, Value.ref 234, Value.ref 235, Value.ref 236, Value.int 557 0, Value.int 185 0, tq [47, 99, 108, 97, 105, 109, 47, 99, 117, 116, 46, 112, 121] 558] } ::
  fnQ p 34 [95, 108, 97, 119, 95, 100, 117, 103] [108, 97, 119, 95, 120, 109, 48, 51, 56, 55, 95, 48, 49] 550 237 ::
  { cls := Value.type "tuple", data := Data.seq #[] } ::
  { cls := Value.none, data := Data.fields #[] } ::
  { cls := Value.type "tuple", data := Data.seq #[tq [110, 117, 109, 98, 101, 114] 563, tq [119] 564, tq [102, 111, 117, 110, 100] 565] } ::
  { cls := Value.type "tuple", data := Data.seq #[] } ::
  fnN p 35 [95, 108, 97, 119, 95, 108, 105, 109, 98, 115] ::
  { cls := Value.type "code", data := Data.fields #[tq [95, 108, 97, 119, 95, 108, 105, 109, 98, 115] 560, tq [95, 108, 97, 119, 95, 108, 105, 109, 98, 115] 561, tq [47, 99, 108, 97, 105, 109, 47, 99, 117, 116, 46, 112, 121] 562, Value.int 190 0, Value.int 2 0, Value.int 0 0, Value.int 0 0, Value.int 3 0, Value.ref 239, Value.bool true, Value.int 181 0, Value.ref 240, Value.none, Value.ref 241, Value.ref 242, Value.ref 243, Value.int 566 0, Value.int 190 0, tq [47, 99, 108, 97, 105, 109, 47, 99, 117, 116, 46, 112, 121] 567] } ::
  fnQ p 35 [95, 108, 97, 119, 95, 108, 105, 109, 98, 115] [108, 97, 119, 95, 120, 109, 48, 51, 56, 55, 95, 48, 49] 550 244 ::
  { cls := Value.type "tuple", data := Data.seq #[] } ::
  { cls := Value.none, data := Data.fields #[] } ::
  { cls := Value.type "tuple", data := Data.seq #[tq [97] 572, tq [109, 97, 110, 121] 573, tq [110] 574, tq [119] 575] } ::
  { cls := Value.type "tuple", data := Data.seq #[] } ::
  fnN p 36 [95, 108, 97, 119, 95, 114, 97, 105, 115, 101, 100] ::
  { cls := Value.type "code", data := Data.fields #[tq [95, 108, 97, 119, 95, 114, 97, 105, 115, 101, 100] 569, tq [95, 108, 97, 119, 95, 114, 97, 105, 115, 101, 100] 570, tq [47, 99, 108, 97, 105, 109, 47, 99, 117, 116, 46, 112, 121] 571, Value.int 196 0, Value.int 4 0, Value.int 0 0, Value.int 0 0, Value.int 3 0, Value.ref 246, Value.bool true, Value.int 181 0, Value.ref 247, Value.none, Value.ref 248, Value.ref 249, Value.ref 250, Value.int 576 0, Value.int 196 0, tq [47, 99, 108, 97, 105, 109, 47, 99, 117, 116, 46, 112, 121] 577] } ::
  fnQ p 36 [95, 108, 97, 119, 95, 114, 97, 105, 115, 101, 100] [108, 97, 119, 95, 120, 109, 48, 51, 56, 55, 95, 48, 49] 550 251 ::
  { cls := Value.type "tuple", data := Data.seq #[] } ::
  { cls := Value.none, data := Data.fields #[] } ::
  { cls := Value.type "tuple", data := Data.seq #[tq [97] 582, tq [98] 583, tq [110] 584, tq [119] 585] } ::
  { cls := Value.type "tuple", data := Data.seq #[] } ::
  fnN p 37 [95, 108, 97, 119, 95, 116, 105, 109, 101, 115] ::
  { cls := Value.type "code", data := Data.fields #[tq [95, 108, 97, 119, 95, 116, 105, 109, 101, 115] 579, tq [95, 108, 97, 119, 95, 116, 105, 109, 101, 115] 580, tq [47, 99, 108, 97, 105, 109, 47, 99, 117, 116, 46, 112, 121] 581, Value.int 198 0, Value.int 4 0, Value.int 0 0, Value.int 0 0, Value.int 3 0, Value.ref 253, Value.bool true, Value.int 181 0, Value.ref 254, Value.none, Value.ref 255, Value.ref 256, Value.ref 257, Value.int 586 0, Value.int 198 0, tq [47, 99, 108, 97, 105, 109, 47, 99, 117, 116, 46, 112, 121] 587] } ::
  fnQ p 37 [95, 108, 97, 119, 95, 116, 105, 109, 101, 115] [108, 97, 119, 95, 120, 109, 48, 51, 56, 55, 95, 48, 49] 550 258 ::
  { cls := Value.type "tuple", data := Data.seq #[] } ::
  { cls := Value.none, data := Data.fields #[] } ::
  { cls := Value.type "tuple", data := Data.seq #[tq [97] 592, tq [110] 593, tq [119] 594, tq [109, 111, 115, 116] 595, tq [109, 97, 110, 121] 596] } ::
  { cls := Value.type "tuple", data := Data.seq #[] } ::
  fnN p 38 [95, 108, 97, 119, 95, 115, 113, 117, 97, 114, 105, 110, 103, 115] ::
  { cls := Value.type "code", data := Data.fields #[tq [95, 108, 97, 119, 95, 115, 113, 117, 97, 114, 105, 110, 103, 115] 589, tq [95, 108, 97, 119, 95, 115, 113, 117, 97, 114, 105, 110, 103, 115] 590, tq [47, 99, 108, 97, 105, 109, 47, 99, 117, 116, 46, 112, 121] 591, Value.int 200 0, Value.int 4 0, Value.int 0 0, Value.int 0 0, Value.int 3 0, Value.ref 260, Value.bool true, Value.int 181 0, Value.ref 261, Value.none, Value.ref 262, Value.ref 263, Value.ref 264, Value.int 597 0, Value.int 200 0, tq [47, 99, 108, 97, 105, 109, 47, 99, 117, 116, 46, 112, 121] 598] } ::
  fnQ p 38 [95, 108, 97, 119, 95, 115, 113, 117, 97, 114, 105, 110, 103, 115] [108, 97, 119, 95, 120, 109, 48, 51, 56, 55, 95, 48, 49] 550 265 ::
  { cls := Value.type "tuple", data := Data.seq #[] } ::
  { cls := Value.none, data := Data.fields #[] } ::
  fnN p 39 [108, 97, 119] ::
  { cls := Value.type "code", data := Data.fields #[tq [108, 97, 119] 600, tq [108, 97, 119] 601, tq [47, 99, 108, 97, 105, 109, 47, 99, 117, 116, 46, 112, 121] 602, Value.int 206 0, Value.int 1 0, Value.int 0 0, Value.int 0 0, Value.int 3 0, Value.ref 267, Value.bool true, Value.int 181 0, Value.ref 268, Value.none, Value.none, Value.none, Value.ref 269, Value.int 603 0, Value.int 206 0, tq [47, 99, 108, 97, 105, 109, 47, 99, 117, 116, 46, 112, 121] 604] } ::
  fnQ p 39 [108, 97, 119] [108, 97, 119, 95, 120, 109, 48, 51, 56, 55, 95, 48, 49] 550 270 :: []
noncomputable def heap1 (p : Program) : Params → Heap := fun P => ⟨⟨objs1 p P⟩, {}⟩
end Mine

namespace Mine
/-! HD -/
open PySem PySem.W PyProof.Rows
set_option maxRecDepth 100000
set_option maxHeartbeats 0
noncomputable def isAss : Stmt → Bool
  | .Assign .. => true
  | _ => false
/-- the program without what it stores into one name again and again -/
noncomputable def viewOf (p : Program) : Program := { p with main := { p.main with body := p.main.body.filter fun s => !isAss s } }
noncomputable abbrev viewP : Program := viewOf PySem.Challenge.pw_xm0387_01
abbrev rowR : OpenRow := PySem.Challenge.rw_xm0387_01.row
noncomputable abbrev hookK : Hook := kmHook heapK heapAs heapE [151]
noncomputable abbrev xtOf (q : Program) : Shared → Bool := fun s => xlAt q [] s && recOk (RowW.records rowR.toRowW) s
noncomputable abbrev xtP : Shared → Bool := xtOf viewP
theorem law_said (h : PySem.Challenge.rw_xm0387_01.row.wellSaid = true → PySem.Challenge.rw_xm0387_01.row.Holds) : PySem.Challenge.rw_xm0387_01.Holds := by
  o_law
  exact h (by assumption)
theorem bootP : ∀ w : World, (fencedOpening treeTable rowR.prog w 3574).map (fun s => (s.heap, s.gens, s.drawn, s.toks)) = some (boot_heap w.params, Array.mk [], boot_drawn, boot_toks) :=
  boot_open (by kernel_rfl) (by kernel_rfl) (fun s => by kernel_rfl)
theorem bootN : ∀ w : World, ((boot_heap w.params).isNs mainGlobals, (boot_heap w.params).objs.size, (boot_heap w.params).nsMap mainGlobals "__annotations__") = (true, 11, some (Value.ref 6)) := fun w => by kernel_rfl
/-- the top is run; the program and the machine by their twins -/
theorem runQ : ∀ (w : World) (os : OsState), PySem.W.Fast.tw14082659384304107361 PySem.W.Fast.tw14364793385576792824 PySem.W.Fast.tw796916399429696373 w 11 (some (Value.ref 6)) 3574 ⟨boot_heap w.params, Array.mk [], boot_drawn, boot_toks, os⟩ (topStub PySem.W.Fast.tw796916399429696373) =
    some ⟨heap1 PySem.W.Fast.tw796916399429696373 w.params, Array.mk [], {}, 606, os⟩ := by
  intro w os
  kernel_rfl
/-- what stands behind it is looked at -/
theorem lookA : ∀ (w : World) (os : OsState), (staticsOk (PySem.W.Fast.tw5923862056798008813 PySem.W.Fast.tw796916399429696373.main.body) (boot_heap w.params) (heap1 PySem.W.Fast.tw796916399429696373 w.params) && namesBound PySem.W.Fast.tw796916399429696373 (heap1 PySem.W.Fast.tw796916399429696373 w.params) && gensDone ⟨heap1 PySem.W.Fast.tw796916399429696373 w.params, Array.mk [], {}, 606, os⟩ && laidKept (boot_heap w.params) (heap1 PySem.W.Fast.tw796916399429696373 w.params)) = true := by
  intro w os
  kernel_rfl
theorem lookB : ∀ (w : World) (os : OsState), PySem.W.Fast.tw4187177175401517315 (viewOf PySem.W.Fast.tw796916399429696373) [] (PySem.W.Fast.tw5923862056798008813 PySem.W.Fast.tw796916399429696373.main.body) (xtOf (viewOf PySem.W.Fast.tw796916399429696373)) true ⟨heap1 PySem.W.Fast.tw796916399429696373 w.params, Array.mk [], {}, 606, os⟩ = openGood (viewOf PySem.W.Fast.tw796916399429696373) [] := by
  intro w os
  kernel_rfl
theorem lookC : ∀ (P : Params), (heapAs.map (heap1 PySem.W.Fast.tw796916399429696373 P).get?, ([151] : List Addr).map (heap1 PySem.W.Fast.tw796916399429696373 P).get?) = ((heapOf PySem.W.Fast.tw796916399429696373 P).map fun p => some p.2, ([151] : List Addr).map fun _ => some (tabObj #[])) := by
  intro P
  kernel_rfl
theorem run_of {α β γ : Type} {r : Option α} {s : α} {f : α → Bool} {g : α → β} {k : α → γ} {y : β} {z : γ} (h : r = some s) (a : f s = true) (b : g s = y) (c : k s = z) : r.map (fun s => (f s, g s, k s)) = some (true, y, z) := by
  subst h
  rw [← a, ← b, ← c]
  rfl
theorem runP : ∀ (w : World) (os : OsState), (topRun treeTable rowR.prog w 11 (some (Value.ref 6)) 3574 ⟨boot_heap w.params, Array.mk [], boot_drawn, boot_toks, os⟩ (topStub rowR.prog)).map (fun s =>
    (staticsOk (importedModules rowR.prog.main.body) (boot_heap w.params) s.heap && namesBound rowR.prog s.heap && gensDone s && laidKept (boot_heap w.params) s.heap,
      openSeen viewP [] (importedModules rowR.prog.main.body) xtP true s, hookK.obs s)) =
    some (true, openGood viewP [], hookK.val w) := by
  intro w os
  have h := runQ w os
  have a := lookA w os
  have b := lookB w os
  have c := lookC w.params
  rw [← PySem.W.Fast.te14082659384304107361, ← PySem.W.Fast.te14364793385576792824, ← PySem.W.Fast.te796916399429696373] at h
  rw [← PySem.W.Fast.te796916399429696373, ← PySem.W.Fast.te5923862056798008813] at a
  rw [← PySem.W.Fast.te796916399429696373, ← PySem.W.Fast.te5923862056798008813, ← PySem.W.Fast.te4187177175401517315] at b
  rw [← PySem.W.Fast.te796916399429696373, ← heapK_eq] at c
  exact run_of h a b c
theorem left_of {p q : Program} {loose : List Str} {Xt : Shared → Bool} {α : Type} {Yf : Shared → α} {Ya : World → α} {N m₀ : Nat} {ann : Option Value} {H₀ : Params → Heap} {d₀ : Drawn} {k₀ : Nat}
    (open_ : ∀ w : World, (fencedOpening treeTable p w N).map (fun s => (s.heap, s.gens, s.drawn, s.toks)) = some (H₀ w.params, Array.mk [], d₀, k₀))
    (size : ∀ w : World, ((H₀ w.params).isNs mainGlobals, (H₀ w.params).objs.size, (H₀ w.params).nsMap mainGlobals "__annotations__") = (true, m₀, ann))
    (run : ∀ (w : World) (os : OsState), (topRun treeTable p w m₀ ann N ⟨H₀ w.params, Array.mk [], d₀, k₀, os⟩ (topStub p)).map (fun s =>
      (staticsOk (importedModules p.main.body) (H₀ w.params) s.heap && namesBound p s.heap && gensDone s && laidKept (H₀ w.params) s.heap, openSeen q loose (importedModules p.main.body) Xt true s, Yf s)) = some (true, openGood q loose, Ya w)) :
    LeftO p q loose Xt Yf Ya N := by
  intro w
  obtain ⟨⟨h, gs, d, k, os⟩, e, e'⟩ := Option.map_eq_some_iff.mp (open_ w)
  obtain ⟨rfl, rfl, rfl, rfl⟩ : h = H₀ w.params ∧ gs = Array.mk [] ∧ d = d₀ ∧ k = k₀ := by simpa using e'
  obtain ⟨z1, z2, z3⟩ : _ ∧ _ ∧ _ := by simpa only [Prod.mk.injEq] using size w
  obtain ⟨s, r, l⟩ := Option.map_eq_some_iff.mp (run w os)
  obtain ⟨l1, l2, l3⟩ : _ ∧ _ ∧ _ := by simpa only [Prod.mk.injEq] using l
  have t : topFrom treeTable p w N ⟨H₀ w.params, Array.mk [], d, k, os⟩ = some s := by
    unfold topFrom
    dsimp only
    rw [z1, z2, z3]
    show (topRun treeTable p w m₀ ann N ⟨H₀ w.params, Array.mk [], d, k, os⟩ (topStub p)).bind _ = some s
    rw [r]
    show (match staticsOk (importedModules p.main.body) (H₀ w.params) s.heap && namesBound p s.heap && gensDone s && laidKept (H₀ w.params) s.heap with | true => some s | false => Option.none) = some s
    rw [l1]
  unfold openEnds
  rw [e]
  show (topFrom treeTable p w N _).map _ = _
  rw [t]
  exact congrArg some (Prod.ext l2 l3)
theorem leftP : LeftO rowR.prog viewP [] xtP hookK.obs hookK.val 3574 := left_of bootP bootN runP
abbrev lawD : DefRec := ⟨"law", fdArgs (stAt 39), fdBody (stAt 39), fdScope (stAt 39), posOf (stAt 39)⟩
theorem witP : PySem.Challenge.rw_xm0387_01.row.toRowW.promised := ⟨[.list []], by k_qdec, by k_qdec⟩
theorem defP : defOf viewP rowR.name = some (lawD, []) := by kernel_rfl
theorem theP : rowR.prog.theDef rowR.name = some (fdArgs (stAt 39), fdBody (stAt 39), fdScope (stAt 39)) := by kernel_rfl
theorem lookP : (chainsOk viewP && opensWell rowR.prog && (frees rowR.toRowW && rowR.within.isEmpty)) = true := by k_qdec
theorem bareP : rowR.prog.bare := ⟨rfl, rfl, rfl, rfl, rfl, by kernel_rfl⟩
theorem hd (call : WalkO viewP [] (XL viewP []) (kmHook heapK heapAs heapE [151]).says rowR.toRowW lawD [] fun f vs => PySem.call f vs) : PySem.Challenge.rw_xm0387_01.Holds := by
  refine law_said fun said => ?_
  exact holds_open (r := rowR) (q := viewP) (loose := []) (Xt := xtP) (XP := XL viewP []) (Yf := hookK.obs) (Ya := hookK.val) (YP := hookK.says) (N := 3574) leftP hookK.of hookK.keeps (fun s e => xl_of s (Bool.and_eq_true_iff.mp e).1) XL.keeps defP theP (by kernel_rfl) (fun s e => recFacts_of (Bool.and_eq_true_iff.mp e).2) (by kernel_rfl) said lookP bareP witP call
end Mine

namespace Mine
/-! L1 -/
open PySem PySem.W PyProof.Rows PySem.Spec PySem.Calls
set_option maxRecDepth 100000

/-! ## abstract values, objects, states -/

inductive V where
  | undef
  | none
  | bool (b : Bool)
  | int (i : Int)
  | ref (k : Nat)
  | val (v : Value)

noncomputable def VR (ρ : List Addr) : V → Value → Prop
  | .undef, _ => False
  | .none, v => v = .none
  | .bool b, v => v = .bool b
  | .int i, v => ∃ t, v = .int i t
  | .ref k, v => ∃ a, ρ[k]? = some a ∧ v = .ref a
  | .val x, v => v = x

noncomputable def VRs (ρ : List Addr) : List V → List Value → Prop
  | [], [] => True
  | x :: xs, v :: vs => VR ρ x v ∧ VRs ρ xs vs
  | _, _ => False

noncomputable def VRo (ρ : List Addr) : V → Option Value → Prop
  | .undef, _ => True
  | x, o => ∃ v, o = some v ∧ VR ρ x v

inductive O where
  | list (xs : List V)
  | tup (xs : List V)
  | pr (P : List Addr → Addr → Obj → Prop) (mono : ∀ ρ τ a o, P ρ a o → P (ρ ++ τ) a o)

noncomputable def OR (ρ : List Addr) (a : Addr) : O → Obj → Prop
  | .list xs, o => ∃ vs n, o = listOf vs n ∧ VRs ρ xs vs.toList
  | .tup xs, o => ∃ vs n, o = ({ cls := .type "tuple", data := .seq vs n } : Obj) ∧ VRs ρ xs vs.toList
  | .pr P _, o => P ρ a o

theorem getElem?_app {α : Type} {ρ τ : List α} {k : Nat} {a : α} (h : ρ[k]? = some a) : (ρ ++ τ)[k]? = some a := by
  obtain ⟨h1, h2⟩ := List.getElem?_eq_some_iff.mp h
  rw [List.getElem?_append_left h1]; exact h

theorem VR.mono {ρ τ : List Addr} {x : V} {v : Value} (h : VR ρ x v) : VR (ρ ++ τ) x v := by
  cases x with
  | ref k => obtain ⟨a, h1, h2⟩ := h; exact ⟨a, getElem?_app h1, h2⟩
  | _ => exact h

theorem VRs.mono {ρ τ : List Addr} : ∀ {xs : List V} {vs : List Value}, VRs ρ xs vs → VRs (ρ ++ τ) xs vs
  | [], [], _ => trivial
  | _ :: _, _ :: _, h => ⟨h.1.mono, VRs.mono h.2⟩

theorem VRs.length {ρ : List Addr} : ∀ {xs : List V} {vs : List Value}, VRs ρ xs vs → xs.length = vs.length
  | [], [], _ => rfl
  | _ :: _, _ :: _, h => by simp [VRs.length h.2]

theorem lenS {α : Type} {n : Nat} : ∀ {l : List α}, n + 1 = l.length → ∃ a r, l = a :: r ∧ n = r.length
  | [], h => nomatch h
  | a :: r, h => ⟨a, r, rfl, Nat.succ.inj h⟩
theorem len1 {α : Type} {l : List α} (h : 1 = l.length) : ∃ a, l = [a] := by
  obtain ⟨a, r, rfl, hr⟩ := lenS h
  exact ⟨a, by rw [List.eq_nil_of_length_eq_zero hr.symm]⟩
theorem len2 {α : Type} {l : List α} (h : 2 = l.length) : ∃ a b, l = [a, b] := by
  obtain ⟨a, r, rfl, hr⟩ := lenS h
  obtain ⟨b, rfl⟩ := len1 hr
  exact ⟨a, b, rfl⟩
theorem len3 {α : Type} {l : List α} (h : 3 = l.length) : ∃ a b c, l = [a, b, c] := by
  obtain ⟨a, r, rfl, hr⟩ := lenS h
  obtain ⟨b, c, rfl⟩ := len2 hr
  exact ⟨a, b, c, rfl⟩
theorem len4 {α : Type} {l : List α} (h : 4 = l.length) : ∃ a b c d, l = [a, b, c, d] := by
  obtain ⟨a, r, rfl, hr⟩ := lenS h
  obtain ⟨b, c, d, rfl⟩ := len3 hr
  exact ⟨a, b, c, d, rfl⟩
theorem len5 {α : Type} {l : List α} (h : 5 = l.length) : ∃ a b c d e, l = [a, b, c, d, e] := by
  obtain ⟨a, r, rfl, hr⟩ := lenS h
  obtain ⟨b, c, d, e, rfl⟩ := len4 hr
  exact ⟨a, b, c, d, e, rfl⟩
theorem len6 {α : Type} {l : List α} (h : 6 = l.length) : ∃ a b c d e f, l = [a, b, c, d, e, f] := by
  obtain ⟨a, r, rfl, hr⟩ := lenS h
  obtain ⟨b, c, d, e, f, rfl⟩ := len5 hr
  exact ⟨a, b, c, d, e, f, rfl⟩
theorem len7 {α : Type} {l : List α} (h : 7 = l.length) : ∃ a b c d e f g, l = [a, b, c, d, e, f, g] := by
  obtain ⟨a, r, rfl, hr⟩ := lenS h
  obtain ⟨b, c, d, e, f, g, rfl⟩ := len6 hr
  exact ⟨a, b, c, d, e, f, g, rfl⟩

theorem VRs.get {ρ : List Addr} : ∀ {xs : List V} {vs : List Value}, VRs ρ xs vs → ∀ {i : Nat} {x : V}, xs[i]? = some x → ∃ v, vs[i]? = some v ∧ VR ρ x v
  | x :: _, v :: _, h, 0, _, e => by cases e; exact ⟨v, rfl, h.1⟩
  | _ :: xs, _ :: vs, h, i + 1, y, e => VRs.get h.2 (i := i) (by simpa using e)

theorem VRs.append {ρ : List Addr} {ys : List V} {us : List Value} : ∀ {xs : List V} {vs : List Value}, VRs ρ xs vs → VRs ρ ys us → VRs ρ (xs ++ ys) (vs ++ us)
  | [], [], _, h2 => h2
  | _ :: _, _ :: _, h, h2 => ⟨h.1, VRs.append h.2 h2⟩

theorem VRs.set {ρ : List Addr} : ∀ {xs : List V} {vs : List Value}, VRs ρ xs vs → ∀ {i : Nat} {x : V} {v : Value}, VR ρ x v → VRs ρ (xs.set i x) (vs.set i v)
  | [], [], _, _, _, _, _ => trivial
  | _ :: _, _ :: _, h, 0, _, _, hx => ⟨hx, h.2⟩
  | _ :: xs, _ :: vs, h, i + 1, _, _, hx => ⟨h.1, VRs.set h.2 (i := i) hx⟩

theorem VRs.take {ρ : List Addr} : ∀ {n : Nat} {xs : List V} {vs : List Value}, VRs ρ xs vs → VRs ρ (xs.take n) (vs.take n)
  | 0, _, _, _ => trivial
  | _ + 1, [], [], _ => trivial
  | n + 1, _ :: _, _ :: _, h => ⟨h.1, VRs.take (n := n) h.2⟩

theorem VRs.drop {ρ : List Addr} : ∀ {n : Nat} {xs : List V} {vs : List Value}, VRs ρ xs vs → VRs ρ (xs.drop n) (vs.drop n)
  | 0, _, _, h => h
  | _ + 1, [], [], _ => trivial
  | n + 1, _ :: _, _ :: _, h => VRs.drop (n := n) h.2

theorem VRs.replicate {ρ : List Addr} {x : V} {v : Value} (h : VR ρ x v) : ∀ n, VRs ρ (List.replicate n x) (List.replicate n v)
  | 0 => trivial
  | n + 1 => ⟨h, VRs.replicate h n⟩

theorem VRs.intsAre {ρ : List Addr} : ∀ {ns : List Int} {vs : List Value}, VRs ρ (ns.map .int) vs → IntsAre vs ns
  | [], [], _ => .nil
  | n :: ns, v :: vs, h => by
    obtain ⟨⟨t, rfl⟩, h2⟩ := h
    exact .cons _ _ (VRs.intsAre h2)

theorem OR.mono {ρ τ : List Addr} {a : Addr} {x : O} {o : Obj} (h : OR ρ a x o) : OR (ρ ++ τ) a x o := by
  cases x with
  | list xs => obtain ⟨vs, n, e, h⟩ := h; exact ⟨vs, n, e, h.mono⟩
  | tup xs => obtain ⟨vs, n, e, h⟩ := h; exact ⟨vs, n, e, h.mono⟩
  | pr P m => exact m ρ τ a o h

abbrev Led := List (Addr × Obj)

structure HR (ρ : List Addr) (H : List O) (news : Led) : Prop where
  adr : news.map (·.1) = ρ
  len : H.length = news.length
  all : ∀ {k : Nat} {x : O} {p : Addr × Obj}, H[k]? = some x → news[k]? = some p → OR ρ p.1 x p.2

noncomputable def CR (ρ : List Addr) : List (Str × Nat) → List (Str × Addr) → Prop
  | [], [] => True
  | (x, k) :: r, (y, a) :: t => x = y ∧ ρ[k]? = some a ∧ CR ρ r t
  | _, _ => False
theorem CR.mono {ρ τ : List Addr} : ∀ {cs : List (Str × Nat)} {cl : List (Str × Addr)}, CR ρ cs cl → CR (ρ ++ τ) cs cl
  | [], [], _ => trivial
  | (_, _) :: _, (_, _) :: _, h => ⟨h.1, getElem?_app h.2.1, CR.mono h.2.2⟩
structure LR (ρ : List Addr) (names : List Str) (cells : List (Str × Nat)) (cl : List (Str × Addr)) (loc : List V) (m : Str → Option Value) : Prop where
  cel : CR ρ cells cl
  len : loc.length = names.length
  all : ∀ {i : Nat} {x : Str} {v : V}, names[i]? = some x → loc[i]? = some v → VRo ρ v (m x)

theorem VRo.mono {ρ τ : List Addr} {x : V} {o : Option Value} (h : VRo ρ x o) : VRo (ρ ++ τ) x o := by
  cases x with
  | undef => trivial
  | _ => obtain ⟨v, e, h⟩ := h; exact ⟨v, e, h.mono⟩

theorem VRo.of {ρ : List Addr} {x : V} {v : Value} (h : VR ρ x v) : VRo ρ x (some v) := by
  cases x with
  | undef => trivial
  | _ => exact ⟨v, rfl, h⟩

theorem LR.mono {ρ τ : List Addr} {names : List Str} {cells : List (Str × Nat)} {cl : List (Str × Addr)} {loc : List V} {m : Str → Option Value} (h : LR ρ names cells cl loc m) : LR (ρ ++ τ) names cells cl loc m := ⟨h.cel.mono, h.len, fun h1 h2 => (h.all h1 h2).mono⟩

theorem LR.set {ρ : List Addr} {names : List Str} {cells : List (Str × Nat)} {cl : List (Str × Addr)} {loc : List V} {m : Str → Option Value} (h : LR ρ names cells cl loc m) (hn : names.Nodup) {i : Nat} {x : Str} {v : V} {u : Value} (hi : names[i]? = some x) (hv : VR ρ v u) :
    LR ρ names cells cl (loc.set i v) (fun y => if y = x then some u else m y) := by
  refine ⟨h.cel, by simp [h.len], fun {j y w} hj hw => ?_⟩
  by_cases hji : i = j
  · subst hji
    rw [hi] at hj
    cases hj
    rw [List.getElem?_set] at hw
    simp only [if_true] at hw ⊢
    split at hw
    · cases hw; exact VRo.of hv
    · cases hw
  · have hyx : y ≠ x := by
      intro e
      subst e
      obtain ⟨h1, h1'⟩ := List.getElem?_eq_some_iff.mp hi
      obtain ⟨h2, h2'⟩ := List.getElem?_eq_some_iff.mp hj
      exact hji ((List.getElem_inj hn).mp (h1'.trans h2'.symm))
    rw [List.getElem?_set_ne hji] at hw
    simp only [if_neg hyx]
    exact h.all hj hw

structure St where
  loc : List V
  heap : List O

/-! ## functions of the text -/

set_option genInjectivity false in
set_option genSizeOf false in
structure FI where
  name : Str
  params : Arguments
  body : List Stmt
  scope : Scope
  addr : Addr
  code : Addr
  names : List Str
  gl : List Str
  cells : List (Str × Nat) := []

noncomputable abbrev KK (w : World) : Frag := heapK w.params

structure FI.Ok (fi : FI) : Prop where
  nd : fi.names.Nodup
  loc : ∀ x ∈ fi.names, fi.scope.names.lookup x = some .local ∧ (x == ("__debug__" : Str)) = false
  glo : ∀ x ∈ fi.gl, fi.scope.names.lookup x = some .globalImplicit ∧ (x == ("__debug__" : Str)) = false
  kind : fi.scope.kind = .function
  noco : fi.scope.isCoroutine = false
  nogen : fi.scope.isGenerator = false
  cel : ∀ p ∈ fi.cells, (fi.scope.names.lookup p.1 = some .cell ∨ fi.scope.names.lookup p.1 = some .free) ∧ (p.1 == ("__debug__" : Str)) = false ∧ (p.1 == ("__classdict__" : Str)) = false
  celnd : (fi.cells.map (·.1)).Nodup

set_option genInjectivity false in
set_option genSizeOf false in
/-- the frame at hand, whatever stands around it -/
structure RC (d : Nat) (fi : FI) where
  w : World
  p : Program
  loose : List Str
  mean : ExcName → Option Value
  mg : Str → Option Value
  mb : Str → Option Value
  A₀ : Around
  base : Heap
  outer : List Env
  dp : Nat
  un : Nat
  gd : Option (List Code)
  L : Addr
  h₀ : Heap
  extra : Led
  cl : List (Str × Addr)
  B : Below A₀ base outer h₀
  X : (KK w).In h₀
  T : Top p loose mean mg mb h₀
  hd : dp + d < recursionLimit
  hu : un + 8 * d + 80 < cLine

namespace RC
variable {d : Nat} {fi : FI}
noncomputable abbrev env (C : RC d fi) : Env := envX fi.name fi.scope C.L fi.addr (.ref fi.code) C.cl
noncomputable abbrev A (C : RC d fi) : Around := ktrTop C.dp C.un C.gd fi.name fi.scope C.L fi.addr (.ref fi.code) C.cl C.outer
noncomputable abbrev M (C : RC d fi) : Model := model PySem.Challenge.rw_xm0387_01.row.prog C.w

structure SR (C : RC d fi) (σ : St) (ρ : List Addr) (h : Heap) : Prop where
  ex : ∃ m news, Fr C.h₀ C.L h m ∧ News C.h₀ C.L h (news ++ C.extra) ∧ HR ρ σ.heap news ∧ ((news ++ C.extra).map (·.1)).Nodup ∧ LR ρ fi.names fi.cells C.cl σ.loc m
end RC

noncomputable def Same (s s' : Shared) : Prop := ∃ h tk, s' = { s with heap := h, toks := tk }
theorem Same.refl (s : Shared) : Same s s := ⟨s.heap, s.toks, rfl⟩
theorem Same.trans {s t u : Shared} (a : Same s t) (b : Same t u) : Same s u := by
  obtain ⟨h, tk, rfl⟩ := a; obtain ⟨h', tk', rfl⟩ := b; exact ⟨h', tk', rfl⟩
theorem Same.mk {s : Shared} {h : Heap} {tk : Nat} : Same s { s with heap := h, toks := tk } := ⟨h, tk, rfl⟩

noncomputable def NoE : Value → Shared → Prop := fun _ _ => False

structure EvalTo (d : Nat) (fi : FI) (e : Expr) (σ : St) (v : V) (σ' : St) : Prop where
  run : ∀ (C : RC d fi) (ρ : List Addr) (s : Shared) (Q : Value → Shared → Prop), C.SR σ ρ s.heap →
    (∀ τ u s', Same s s' → C.SR σ' (ρ ++ τ) s'.heap → VR (ρ ++ τ) v u → Q u s') → wpAny C.M C.A (eval e C.env) Q NoE s

structure TestTo (d : Nat) (fi : FI) (e : Expr) (σ : St) (b : Bool) (σ' : St) : Prop where
  run : ∀ (C : RC d fi) (ρ : List Addr) (s : Shared) (Q : Bool → Shared → Prop), C.SR σ ρ s.heap →
    (∀ τ s', Same s s' → C.SR σ' (ρ ++ τ) s'.heap → Q b s') → wpAny C.M C.A (PySem.isTrue e C.env (eval e C.env)) Q NoE s

inductive Fl where
  | next | cont | ret (v : V)

noncomputable def FR (ρ : List Addr) : Fl → Flow → Prop
  | .next, f => f = .next
  | .cont, f => f = .cont
  | .ret v, f => ∃ u, f = .ret u ∧ VR ρ v u

structure ExecTo (d : Nat) (fi : FI) (st : Stmt) (σ : St) (f : Fl) (σ' : St) : Prop where
  run : ∀ (C : RC d fi) (ρ : List Addr) (s : Shared) (Q : Flow → Shared → Prop), C.SR σ ρ s.heap →
    (∀ τ g s', Same s s' → C.SR σ' (ρ ++ τ) s'.heap → FR (ρ ++ τ) f g → Q g s') → wpAny C.M C.A (exec st C.env) Q NoE s

structure ExecsTo (d : Nat) (fi : FI) (sts : List Stmt) (σ : St) (f : Fl) (σ' : St) : Prop where
  run : ∀ (C : RC d fi) (ρ : List Addr) (s : Shared) (Q : Flow → Shared → Prop), C.SR σ ρ s.heap →
    (∀ τ g s', Same s s' → C.SR σ' (ρ ++ τ) s'.heap → FR (ρ ++ τ) f g → Q g s') → wpAny C.M C.A (execs sts C.env) Q NoE s

/-- a call of a value, from any frame -/
structure CallTo (d : Nat) (f : V) (args : List V) (H : List O) (v : V) (H' : List O) : Prop where
  run : ∀ (w : World) (p : Program) (loose : List Str) (mean : ExcName → Option Value) (mg mb : Str → Option Value) (A₀ : Around) (base h₀ : Heap) (outer : List Env) (dp un : Nat) (gd : Option (List Code))
    (cn : Str) (cs : Scope) (L a : Addr) (ccd : Value) (cl : List (Str × Addr)) (m : Str → Option Value) (news extra : Led) (ρ : List Addr) (s : Shared) (fv : Value) (vs : List Value) (Q : Value → Shared → Prop),
    Below A₀ base outer h₀ → Fr h₀ L s.heap m → (KK w).In h₀ → News h₀ L s.heap (news ++ extra) → Top p loose mean mg mb h₀ → cs.kind = .function → HR ρ H news → ((news ++ extra).map (·.1)).Nodup →
    dp + d < recursionLimit → un + 8 * d + 80 < cLine → VR ρ f fv → VRs ρ args vs →
    (∀ τ u s' news', Same s s' → Fr h₀ L s'.heap m → News h₀ L s'.heap (news' ++ extra) → HR (ρ ++ τ) H' news' → ((news' ++ extra).map (·.1)).Nodup → VR (ρ ++ τ) v u → Q u s') →
    wpAny (model PySem.Challenge.rw_xm0387_01.row.prog w) (ktrTop dp un gd cn cs L a ccd cl outer) (call fv vs) Q NoE s
end Mine

namespace Mine
/-! L2 -/
open PySem PySem.W PyProof.Rows PySem.Spec PySem.Calls
set_option maxRecDepth 100000

theorem Heap_keep_push {h : Heap} {o : Obj} : ∀ b x, h.get? b = some x → (h.push o).get? b = some x := fun _ _ e => Heap.get?_push_of_some _ e

section
variable {d : Nat} {fi : FI} {C : RC d fi} {σ : St} {ρ : List Addr} {h h' : Heap}

theorem SR_keeps (S : C.SR σ ρ h) (hk : ∀ b o, h.get? b = some o → h'.get? b = some o) : C.SR σ ρ h' := by
  obtain ⟨m, news, F, N, R, nd, l⟩ := S.ex
  exact ⟨m, news, F.grownK hk, N.grown hk, R, nd, l⟩

theorem SR_push (S : C.SR σ ρ h) (o : Obj) : C.SR σ ρ (h.push o) := SR_keeps S Heap_keep_push

theorem HR.get {H : List O} {news : Led} (R : HR ρ H news) {k : Nat} {x : O} (hk : H[k]? = some x) : ∃ a o, ρ[k]? = some a ∧ (a, o) ∈ news ∧ news[k]? = some (a, o) ∧ OR ρ a x o := by
  have hlt : k < news.length := R.len ▸ (List.getElem?_eq_some_iff.mp hk).1
  have e : news[k]? = some news[k] := List.getElem?_eq_getElem hlt
  refine ⟨news[k].1, news[k].2, ?_, List.getElem_mem hlt, e, R.all hk e⟩
  rw [← R.adr, List.getElem?_map, e]; rfl

theorem HR.snoc {H : List O} {news : Led} (R : HR ρ H news) {a : Addr} {x : O} {o : Obj} (hx : OR (ρ ++ [a]) a x o) : HR (ρ ++ [a]) (H ++ [x]) (news ++ [(a, o)]) := by
  refine ⟨by simp [R.adr], by simp [R.len], fun {k y p} hy hp => ?_⟩
  by_cases hk : k < H.length
  · rw [List.getElem?_append_left hk] at hy
    rw [List.getElem?_append_left (R.len ▸ hk)] at hp
    exact (R.all hy hp).mono
  · have hk2 : k < (H ++ [x]).length := (List.getElem?_eq_some_iff.mp hy).1
    have : k = H.length := by simp at hk2; omega
    subst this
    simp at hy
    rw [R.len] at hp
    simp at hp
    subst hy hp
    exact hx

theorem HR.set {H : List O} {news : Led} (R : HR ρ H news) {k : Nat} {a : Addr} {x : O} {o : Obj} (ha : ρ[k]? = some a) (hx : OR ρ a x o) : HR ρ (H.set k x) (news.set k (a, o)) := by
  refine ⟨?_, by simp [R.len], fun {j y p} hy hp => ?_⟩
  · apply List.ext_getElem?
    intro j
    rw [List.getElem?_map, List.getElem?_set]
    split
    · rename_i e
      subst e
      split
      · rw [ha]; rfl
      · rename_i hn
        rw [← R.adr, List.getElem?_map, List.getElem?_eq_none (by omega)] at ha
        cases ha
    · rw [← List.getElem?_map, R.adr]
  · rw [List.getElem?_set] at hy hp
    split at hy
    · rename_i e
      subst e
      simp only [if_true] at hp
      split at hy
      · split at hp
        · cases hy; cases hp; exact hx
        · cases hp
      · cases hy
    · rename_i hne
      rw [if_neg hne] at hp
      exact R.all hy hp

/-- a new object takes its place in the ledger -/
theorem SR_alloc {m : Str → Option Value} {news : Led} {x : O} {o : Obj} (F : Fr C.h₀ C.L h' m) (N : News C.h₀ C.L h' ((h.objs.size, o) :: (news ++ C.extra)))
    (N0 : News C.h₀ C.L h (news ++ C.extra)) (R : HR ρ σ.heap news) (nd : ((news ++ C.extra).map (·.1)).Nodup) (l : LR ρ fi.names fi.cells C.cl σ.loc m) (hx : OR ρ h.objs.size x o) :
    C.SR ⟨σ.loc, σ.heap ++ [x]⟩ (ρ ++ [h.objs.size]) h' := by
  refine ⟨m, news ++ [(h.objs.size, o)], F, fun p hp => N p ?_, R.snoc hx.mono, ?_, l.mono⟩
  · simp only [List.append_assoc, List.mem_append, List.mem_cons, List.not_mem_nil, or_false] at hp ⊢
    rcases hp with h1 | h1 | h1
    · exact .inr (.inl h1)
    · exact .inl h1
    · exact .inr (.inr h1)
  · have hlt : ∀ a ∈ (news ++ C.extra).map (·.1), a < h.objs.size := fun a ha => by
      obtain ⟨p, hp, rfl⟩ := List.mem_map.mp ha
      exact Heap.lt_size (N0 p hp).1
    simp only [List.map_append, List.nodup_append, List.mem_append, List.map_cons, List.map_nil, List.mem_cons, List.not_mem_nil, or_false] at nd hlt ⊢
    obtain ⟨n1, n2, n3⟩ := nd
    refine ⟨⟨n1, ⟨by simp, ?_⟩⟩, n2, ?_⟩
    · intro a ha b hb e
      subst hb; subst e
      exact Nat.lt_irrefl _ (hlt _ (.inl ha))
    · intro a ha b hb
      rcases ha with ha | ha
      · exact n3 a ha b hb
      · intro e
        subst ha; subst e
        exact Nat.lt_irrefl _ (hlt _ (.inr hb))

/-- an object of the ledger changes -/
theorem SR_update {m : Str → Option Value} {news : Led} {k : Nat} {a : Addr} {x : O} {o : Obj} (F : Fr C.h₀ C.L h m) (N : News C.h₀ C.L h (news ++ C.extra)) (R : HR ρ σ.heap news)
    (nd : ((news ++ C.extra).map (·.1)).Nodup) (l : LR ρ fi.names fi.cells C.cl σ.loc m) (ha : ρ[k]? = some a) (hx : OR ρ a x o) (hs : Heap.SameBut a h h') (ho : h'.get? a = some o) :
    C.SR ⟨σ.loc, σ.heap.set k x⟩ ρ h' := by
  have hk : k < news.length := by
    have := (List.getElem?_eq_some_iff.mp ha).1
    rw [← R.adr] at this; simpa using this
  have ek : news[k].1 = a := by
    have h1 := ha
    rw [← R.adr, List.getElem?_map, List.getElem?_eq_getElem hk] at h1
    exact Option.some.inj h1
  have hmem : news[k] ∈ news ++ C.extra := List.mem_append_left _ (List.getElem_mem hk)
  have z := N _ hmem
  rw [ek] at z
  have hmap : ((news.set k (a, o)) ++ C.extra).map (·.1) = (news ++ C.extra).map (·.1) := by
    have := (R.set (x := x) (o := o) ha hx).adr
    simp only [List.map_append, this, R.adr]
  refine ⟨m, news.set k (a, o), F.change hs z.2.1 z.2.2, fun p hp => ?_, R.set ha hx, hmap ▸ nd, l⟩
  rcases List.mem_append.mp hp with hp | hp
  · obtain ⟨j, hj, rfl⟩ := List.mem_iff_getElem.mp hp
    by_cases hjk : k = j
    · subst hjk
      simp only [List.getElem_set_self]
      exact ⟨ho, z.2⟩
    · rw [List.getElem_set_ne hjk]
      have hj' : j < news.length := by simpa using hj
      have hm : news[j] ∈ news ++ C.extra := List.mem_append_left _ (List.getElem_mem hj')
      have y := N _ hm
      have hne : news[j].1 ≠ a := by
        intro e
        have nd' := (List.nodup_append.mp (by simpa only [List.map_append] using nd)).1
        have h1 : (news.map (·.1))[j]'(by simpa using hj') = (news.map (·.1))[k]'(by simpa using hk) := by simp [e, ek]
        exact hjk ((List.getElem_inj nd').mp h1).symm
      exact ⟨(hs.2 _ hne).trans y.1, y.2⟩
  · have y := N p (List.mem_append_right _ hp)
    have hne : p.1 ≠ a := by
      intro e
      have nd' := (List.nodup_append.mp (by simpa only [List.map_append] using nd)).2.2
      exact nd' a (by rw [R.adr]; exact List.mem_of_getElem? ha) a (e ▸ List.mem_map_of_mem hp) rfl
    exact ⟨(hs.2 _ hne).trans y.1, y.2⟩
end

theorem isList_of {h₀ h : Heap} {L a : Addr} {l : Led} {vs : Array Value} {n : Nat} (N : News h₀ L h l) (hm : (a, listOf vs n) ∈ l) : h.IsList a vs := ⟨_, (N _ hm).1, rfl, n, rfl⟩

/-! ## names and constants -/
inductive AtN {α : Type} : List α → Nat → α → Prop
  | here {x r} : AtN (x :: r) 0 x
  | there {y r i x} : AtN r i x → AtN (y :: r) (i + 1) x
theorem AtN.get {α : Type} {l : List α} {i : Nat} {x : α} (h : AtN l i x) : l[i]? = some x := by
  induction h with
  | here => rfl
  | there _ ih => simpa using ih
theorem AtN.mem {α : Type} {l : List α} {i : Nat} {x : α} (h : AtN l i x) : x ∈ l := List.mem_of_getElem? h.get

section
variable {d : Nat} {fi : FI} {σ σ₁ σ₂ : St} {pos : Pos}

theorem SR_refl {C : RC d fi} {ρ : List Addr} {h : Heap} (S : C.SR σ ρ h) : C.SR σ (ρ ++ []) h := by rw [List.append_nil]; exact S

theorem EvalTo.kInt {i : Int} {k : Nat} : EvalTo d fi (.Constant (.int i) k pos) σ (.int i) σ := ⟨fun C ρ s Q S hQ => by
  with_reducible refine wpAny_Constant_int ?_
  exact hQ [] _ _ Same.mk (SR_refl S) ⟨_, rfl⟩⟩
theorem EvalTo.kNat {i : Nat} {k : Nat} : EvalTo d fi (.Constant (.int (i : Int)) k pos) σ (.int (i : Int)) σ := EvalTo.kInt
theorem EvalTo.kNone {k : Nat} : EvalTo d fi (.Constant .none k pos) σ .none σ := ⟨fun C ρ s Q S hQ =>
  Constant_none (hQ [] _ _ (Same.refl s) (SR_refl S) rfl)⟩
theorem EvalTo.kBool {b : Bool} {k : Nat} : EvalTo d fi (.Constant (.bool b) k pos) σ (.bool b) σ := ⟨fun C ρ s Q S hQ =>
  Constant_bool (hQ [] _ _ (Same.refl s) (SR_refl S) rfl)⟩

theorem EvalTo.loc (ok : fi.Ok) {x : Str} {i : Nat} {v : V} (hi : AtN fi.names i x) (hv : σ.loc[i]? = some v) (hu : v ≠ .undef) : EvalTo d fi (.Name x pos) σ v σ := ⟨fun C ρ s Q S hQ => by
  obtain ⟨m, news, F, N, R, nd, l⟩ := S.ex
  have h1 := l.all hi.get hv
  have h2 := ok.loc x hi.mem
  have h3 : ∃ u, m x = some u ∧ VR ρ v u := by
    cases v with
    | undef => exact absurd rfl hu
    | _ => exact h1
  obtain ⟨u, e1, e2⟩ := h3
  exact nameX_L F e1 (hQ [] _ _ (Same.refl s) (SR_refl S) (by rw [List.append_nil]; exact e2)) ok.kind h2.1 h2.2⟩

theorem loadLocal (ok : fi.Ok) {C : RC d fi} {ρ : List Addr} {s : Shared} {Q : Value → Shared → Prop} {E : Value → Shared → Prop} {x : Str} {i : Nat} {v : V} (S : C.SR σ ρ s.heap) (hi : AtN fi.names i x) (hv : σ.loc[i]? = some v) (hu : v ≠ .undef)
    (hQ : ∀ u, VR ρ v u → Q u s) : wpAny C.M C.A (loadName C.env x) Q E s := by
  obtain ⟨m, news, F, N, R, nd, l⟩ := S.ex
  have h1 := l.all hi.get hv
  have h2 := ok.loc x hi.mem
  have h3 : ∃ u, m x = some u ∧ VR ρ v u := by
    cases v with
    | undef => exact absurd rfl hu
    | _ => exact h1
  obtain ⟨u, e1, e2⟩ := h3
  exact wpAny_loadName_local ok.kind h2.1 F.ns e1 (hQ u e2)

theorem storeLocal (ok : fi.Ok) {C : RC d fi} {ρ : List Addr} {s : Shared} {Q : Unit → Shared → Prop} {E : Value → Shared → Prop} {x : Str} {i : Nat} {v : V} {u : Value} (S : C.SR σ ρ s.heap) (hi : AtN fi.names i x) (hv : VR ρ v u)
    (hQ : ∀ s', Same s s' → C.SR ⟨σ.loc.set i v, σ.heap⟩ ρ s'.heap → Q () s') : wpAny C.M C.A (storeName C.env x u) Q E s := by
  obtain ⟨m, news, F, N, R, nd, l⟩ := S.ex
  have h2 := ok.loc x hi.mem
  exact storeX_L F N (fun h' F' N' => hQ _ Same.mk ⟨_, news, F', N', R, nd, l.set ok.nd hi.get hv⟩) ok.kind h2.1

noncomputable abbrev globT : List (Str × Value) := [("normal", .ref 58), ("is_even", .ref 65), ("compare", .ref 72), ("divrem_limb", .ref 79), ("shift_left", .ref 86), ("shift_right", .ref 93), ("bits", .ref 100), ("bit", .ref 107), ("trailing", .ref 114),
  ("odd_powers", .ref 121), ("window_at", .ref 128), ("by_windows", .ref 135), ("check_modulus", .ref 142), ("unit_rest", .ref 149), ("divided_times", .ref 156), ("power_mod", .ref 163), ("last_bits", .ref 168), ("two_sign", .ref 175), ("jacobi", .ref 182),
  ("mul_school", .ref 189), ("divrem_small", .ref 196), ("guessed_limb", .ref 203), ("take_away", .ref 210), ("put_back", .ref 217), ("divide_rows", .ref 224), ("divrem_school", .ref 231), ("_law_dug", .ref 238), ("_law_limbs", .ref 245), ("_law_raised", .ref 252),
  ("_law_times", .ref 259), ("_law_squarings", .ref 266)]
noncomputable abbrev builtT : List (Str × Value) := [("len", .builtin "len"), ("range", .type "range"), ("enumerate", .type "enumerate"), ("max", .builtin "max"), ("min", .builtin "min"), ("sum", .builtin "sum"), ("abs", .builtin "abs"), ("int", .type "int")]
end
theorem globT_ok (w : World) : ∀ p ∈ globT, nsIn (KK w) mainGlobals p.1 = some (some p.2) := by
  have h : ∀ P : Params, (globT.all fun p => decide (nsIn (heapK P) mainGlobals p.1 = some (some p.2))) = true := fun P => by
    kernel_rfl
  intro p hp
  exact of_decide_eq_true (List.all_eq_true.mp (h w.params) p hp)
theorem builtT_ok (w : World) : ∀ p ∈ builtT, nsIn (KK w) mainGlobals p.1 = some none ∧ bootBuiltins p.1 = some p.2 ∧ p.1 ≠ "__name__" := by
  have h : ∀ P : Params, (builtT.all fun p => decide (nsIn (heapK P) mainGlobals p.1 = some none)) = true := fun P => by
    kernel_rfl
  intro p hp
  refine ⟨of_decide_eq_true (List.all_eq_true.mp (h w.params) p hp), ?_, ?_⟩
  · revert p
    simp only [builtT, List.forall_mem_cons]
    refine ⟨?_, ?_, ?_, ?_, ?_, ?_, ?_, ?_, fun _ h => nomatch h⟩ <;> boot_fast
  · revert p
    decide +kernel
end Mine

namespace Mine
/-! L3 -/
open PySem PySem.W PyProof.Rows PySem.Spec PySem.Calls
set_option maxRecDepth 100000

noncomputable abbrev V.nat (n : Nat) : V := .int (n : Int)
noncomputable abbrev O.nats (ns : List Nat) : O := .list (ns.map V.nat)

/-! ## operators of ints -/
structure BinTo (op : Operator) (a b c : V) : Prop where
  run : ∀ (prog : Program) (w : World) (A : Around) (ρ : List Addr) (s : Shared) (u v : Value) (Q : Value → Shared → Prop), VR ρ a u → VR ρ b v → (∀ t tk, VR ρ c t → Q t { s with toks := tk }) →
    wpAny (model prog w) A (binaryOp op u v) Q NoE s
structure AugTo (op : Operator) (a b c : V) : Prop where
  run : ∀ (prog : Program) (w : World) (A : Around) (ρ : List Addr) (s : Shared) (u v : Value) (Q : Value → Shared → Prop), VR ρ a u → VR ρ b v → (∀ t tk, VR ρ c t → Q t { s with toks := tk }) →
    wpAny (model prog w) A (inplaceOp op u v) Q NoE s
structure CmpTo (op : CmpOp) (a b : V) (c : Bool) : Prop where
  run : ∀ (prog : Program) (w : World) (A : Around) (ρ : List Addr) (s : Shared) (u v : Value) (Q : Value → Shared → Prop), VR ρ a u → VR ρ b v → Q (.bool c) s →
    wpAny (model prog w) A (compareOp op u v) Q NoE s

theorem q_of {ρ : List Addr} {i : Int} {tk tk' : Nat} {s : Shared} {Q : Value → Shared → Prop} (h : ∀ t tk, VR ρ (.int i) t → Q t { s with toks := tk }) : Q (.int i tk) { s with toks := tk' } := h _ _ ⟨tk, rfl⟩

theorem intBits_le {a : Int} {n : Nat} (h : a.natAbs < 2 ^ n) : Builtin.Int.intBits a ≤ n := by
  unfold Builtin.Int.intBits
  split
  · omega
  · rename_i h0
    have : a.natAbs ≠ 0 := by
      intro e
      have : a = 0 := by omega
      subst this
      exact h0 rfl
    have := (Nat.log2_lt this).mpr h
    omega

theorem mulOk {a b : Int} (h : a.natAbs < 2 ^ 64) : IntMulOk a b := by
  unfold IntMulOk
  have h1 := intBits_le h
  have h2 : decide (Builtin.Int.intBits a > shortFactorBits) = false := by
    apply decide_eq_false
    have : shortFactorBits ≥ 64 := by decide
    omega
  simp [h2]

theorem noPylong {a b : Int} (h : b.natAbs < 2 ^ 64) : Builtin.divisionGoesByPylong a b = false := by
  refine PyProof.noPylong_of_log2 ?_
  by_cases hb : b.natAbs = 0
  · rw [hb]; decide
  · have := (Nat.log2_lt hb).mpr h
    omega

theorem BinTo.add {a b : Int} : BinTo .Add (.int a) (.int b) (.int (a + b)) := by
  refine ⟨?_⟩
  rintro prog w A ρ s u v Q ⟨t, rfl⟩ ⟨t', rfl⟩ h
  with_reducible exact add_int (q_of h)
theorem BinTo.sub {a b : Int} : BinTo .Sub (.int a) (.int b) (.int (a - b)) := by
  refine ⟨?_⟩
  rintro prog w A ρ s u v Q ⟨t, rfl⟩ ⟨t', rfl⟩ h
  with_reducible exact sub_int (q_of h)
theorem BinTo.mul {a b : Int} (ha : a.natAbs < 2 ^ 64) : BinTo .Mult (.int a) (.int b) (.int (a * b)) := by
  refine ⟨?_⟩
  rintro prog w A ρ s u v Q ⟨t, rfl⟩ ⟨t', rfl⟩ h
  with_reducible exact mul_int (q_of h) (mulOk ha)
theorem BinTo.fdiv {a b : Int} (h0 : b ≠ 0) (hb : b.natAbs < 2 ^ 64) : BinTo .FloorDiv (.int a) (.int b) (.int (a.fdiv b)) := by
  refine ⟨?_⟩
  rintro prog w A ρ s u v Q ⟨t, rfl⟩ ⟨t', rfl⟩ h
  with_reducible exact floordiv_int h0 (q_of h) (.inl (noPylong hb))
theorem BinTo.fmod {a b : Int} (h0 : b ≠ 0) : BinTo .Mod (.int a) (.int b) (.int (a.fmod b)) := by
  refine ⟨?_⟩
  rintro prog w A ρ s u v Q ⟨t, rfl⟩ ⟨t', rfl⟩ h
  with_reducible exact mod_int' h0 (q_of h)
theorem BinTo.shl {a n : Int} (h0 : 0 ≤ n) (h1 : n ≤ 1000000) (ha : a.natAbs < 2 ^ 64) : BinTo .LShift (.int a) (.int n) (.int (a * 2 ^ n.toNat)) := by
  refine ⟨?_⟩
  rintro prog w A ρ s u v Q ⟨t, rfl⟩ ⟨t', rfl⟩ h
  with_reducible exact lshift_int_small h0 h1 ha (q_of h)
theorem BinTo.shr {a n : Int} (h0 : 0 ≤ n) : BinTo .RShift (.int a) (.int n) (.int (a.fdiv (2 ^ n.toNat))) := by
  refine ⟨?_⟩
  rintro prog w A ρ s u v Q ⟨t, rfl⟩ ⟨t', rfl⟩ h
  with_reducible exact rshift_int h0 (q_of h)
theorem BinTo.and {a b : Int} : BinTo .BitAnd (.int a) (.int b) (.int (Builtin.bitAnd a b)) := by
  refine ⟨?_⟩
  rintro prog w A ρ s u v Q ⟨t, rfl⟩ ⟨t', rfl⟩ h
  with_reducible exact and_int (q_of h)
theorem BinTo.or {a b : Int} : BinTo .BitOr (.int a) (.int b) (.int (Builtin.bitOr a b)) := by
  refine ⟨?_⟩
  rintro prog w A ρ s u v Q ⟨t, rfl⟩ ⟨t', rfl⟩ h
  with_reducible exact or_int (q_of h)
theorem BinTo.pow {a n : Int} (h0 : 0 ≤ n) (h1 : n ≤ 10000) (ha : a.natAbs < 2 ^ 64) : BinTo .Pow (.int a) (.int n) (.int (a ^ n.toNat)) := by
  refine ⟨?_⟩
  rintro prog w A ρ s u v Q ⟨t, rfl⟩ ⟨t', rfl⟩ h
  have h2 := intBits_le ha
  with_reducible refine pow_int h0 ?_ (q_of h)
  have : ((Builtin.Int.intBits a : Nat) : Int) * n ≤ 64 * 10000 := by
    have h3 : ((Builtin.Int.intBits a : Nat) : Int) ≤ 64 := by exact_mod_cast h2
    have := Int.mul_le_mul h3 h1 h0 (by decide)
    omega
  omega

theorem AugTo.add {a b : Int} : AugTo .Add (.int a) (.int b) (.int (a + b)) := by
  refine ⟨?_⟩
  rintro prog w A ρ s u v Q ⟨t, rfl⟩ ⟨t', rfl⟩ h
  with_reducible exact iadd_int (q_of h)
theorem AugTo.sub {a b : Int} : AugTo .Sub (.int a) (.int b) (.int (a - b)) := by
  refine ⟨?_⟩
  rintro prog w A ρ s u v Q ⟨t, rfl⟩ ⟨t', rfl⟩ h
  with_reducible exact isub_int (q_of h)
theorem AugTo.or {a b : Int} : AugTo .BitOr (.int a) (.int b) (.int (Builtin.bitOr a b)) := by
  refine ⟨?_⟩
  rintro prog w A ρ s u v Q ⟨t, rfl⟩ ⟨t', rfl⟩ h
  with_reducible exact ior_int (q_of h)
theorem AugTo.shr {a n : Int} (h0 : 0 ≤ n) : AugTo .RShift (.int a) (.int n) (.int (a.fdiv (2 ^ n.toNat))) := by
  refine ⟨?_⟩
  rintro prog w A ρ s u v Q ⟨t, rfl⟩ ⟨t', rfl⟩ h
  with_reducible exact irshift_int h0 (q_of h)
theorem AugTo.fmod {a b : Int} (h0 : b ≠ 0) : AugTo .Mod (.int a) (.int b) (.int (a.fmod b)) := by
  refine ⟨?_⟩
  rintro prog w A ρ s u v Q ⟨t, rfl⟩ ⟨t', rfl⟩ h
  with_reducible exact imod_int h0 (q_of h)

theorem CmpTo.eq {a b : Int} : CmpTo .Eq (.int a) (.int b) (decide (a = b)) := by
  refine ⟨?_⟩
  rintro prog w A ρ s u v Q ⟨t, rfl⟩ ⟨t', rfl⟩ h
  with_reducible refine eq_int ?_
  rwa [show (a == b) = decide (a = b) from rfl]
theorem CmpTo.ne {a b : Int} : CmpTo .NotEq (.int a) (.int b) (decide (a ≠ b)) := by
  refine ⟨?_⟩
  rintro prog w A ρ s u v Q ⟨t, rfl⟩ ⟨t', rfl⟩ h
  with_reducible refine ne_int ?_
  rwa [show (a != b) = decide (a ≠ b) by simp only [bne, show (a == b) = decide (a = b) from rfl, ne_eq, decide_not]]
theorem CmpTo.lt {a b : Int} : CmpTo .Lt (.int a) (.int b) (decide (a < b)) := by
  refine ⟨?_⟩
  rintro prog w A ρ s u v Q ⟨t, rfl⟩ ⟨t', rfl⟩ h
  with_reducible exact lt_int h
theorem CmpTo.gt {a b : Int} : CmpTo .Gt (.int a) (.int b) (decide (b < a)) := by
  refine ⟨?_⟩
  rintro prog w A ρ s u v Q ⟨t, rfl⟩ ⟨t', rfl⟩ h
  with_reducible exact gt_int h
theorem CmpTo.le {a b : Int} : CmpTo .LtE (.int a) (.int b) (decide (a ≤ b)) := by
  refine ⟨?_⟩
  rintro prog w A ρ s u v Q ⟨t, rfl⟩ ⟨t', rfl⟩ h
  with_reducible exact le_int h
theorem CmpTo.ge {a b : Int} : CmpTo .GtE (.int a) (.int b) (decide (b ≤ a)) := by
  refine ⟨?_⟩
  rintro prog w A ρ s u v Q ⟨t, rfl⟩ ⟨t', rfl⟩ h
  with_reducible exact ge_int h

/-! the same on naturals -/
theorem bitAnd_nat (a b : Nat) : Builtin.bitAnd (a : Int) (b : Int) = ((a &&& b : Nat) : Int) := by
  unfold Builtin.bitAnd
  simp

theorem bitOr_nat (a b : Nat) : Builtin.bitOr (a : Int) (b : Int) = ((a ||| b : Nat) : Int) := by
  unfold Builtin.bitOr Builtin.bitAnd Builtin.bitNot
  have ha : decide (0 ≤ -(a : Int) - 1) = false := decide_eq_false (by omega)
  have hb : decide (0 ≤ -(b : Int) - 1) = false := decide_eq_false (by omega)
  simp only [ha, hb]
  have e1 : (-(-(a : Int) - 1) - 1).toNat = a := by omega
  have e2 : (-(-(b : Int) - 1) - 1).toNat = b := by omega
  rw [e1, e2]
  omega

theorem BinTo.addN {a b : Nat} : BinTo .Add (.nat a) (.nat b) (.nat (a + b)) := by
  show BinTo .Add (.int a) (.int b) (.int ((a + b : Nat) : Int))
  rw [Int.natCast_add]; exact BinTo.add
theorem BinTo.subN {a b : Nat} (h : b ≤ a) : BinTo .Sub (.nat a) (.nat b) (.nat (a - b)) := by
  show BinTo .Sub (.int a) (.int b) (.int ((a - b : Nat) : Int))
  rw [Int.natCast_sub h]; exact BinTo.sub
theorem BinTo.mulN {a b : Nat} (ha : a < 2 ^ 64) : BinTo .Mult (.nat a) (.nat b) (.nat (a * b)) := by
  show BinTo .Mult (.int a) (.int b) (.int ((a * b : Nat) : Int))
  rw [Int.natCast_mul]; exact BinTo.mul (by simpa using ha)
theorem BinTo.divN {a b : Nat} (h0 : 0 < b) (hb : b < 2 ^ 64) : BinTo .FloorDiv (.nat a) (.nat b) (.nat (a / b)) := by
  show BinTo .FloorDiv (.int a) (.int b) (.int ((a / b : Nat) : Int))
  have e : ((a / b : Nat) : Int) = Int.fdiv a b := by
    rw [Int.fdiv_eq_ediv_of_nonneg _ (by omega)]; simp
  rw [e]; exact BinTo.fdiv (by omega) (by simpa using hb)
theorem BinTo.modN {a b : Nat} (h0 : 0 < b) : BinTo .Mod (.nat a) (.nat b) (.nat (a % b)) := by
  show BinTo .Mod (.int a) (.int b) (.int ((a % b : Nat) : Int))
  have e : ((a % b : Nat) : Int) = Int.fmod a b := by
    rw [Int.fmod_eq_emod_of_nonneg _ (by omega)]; simp
  rw [e]; exact BinTo.fmod (by omega)
theorem BinTo.shlN {a n : Nat} (h1 : n ≤ 1000000) (ha : a < 2 ^ 64) : BinTo .LShift (.nat a) (.nat n) (.nat (a * 2 ^ n)) := by
  show BinTo .LShift (.int a) (.int n) (.int ((a * 2 ^ n : Nat) : Int))
  have e : ((a * 2 ^ n : Nat) : Int) = (a : Int) * 2 ^ ((n : Int).toNat) := by simp
  rw [e]; exact BinTo.shl (by omega) (by omega) (by simpa using ha)
theorem pow2_cast (n : Nat) : (2 : Int) ^ ((n : Int).toNat) = ((2 ^ n : Nat) : Int) := by simp
theorem BinTo.shrN {a n : Nat} : BinTo .RShift (.nat a) (.nat n) (.nat (a / 2 ^ n)) := by
  show BinTo .RShift (.int a) (.int n) (.int ((a / 2 ^ n : Nat) : Int))
  have e : ((a / 2 ^ n : Nat) : Int) = Int.fdiv a (2 ^ ((n : Int).toNat)) := by
    rw [pow2_cast, Int.fdiv_eq_ediv_of_nonneg _ (Int.natCast_nonneg _), ← Int.natCast_ediv]
  rw [e]; exact BinTo.shr (by omega)
theorem BinTo.andN {a b : Nat} : BinTo .BitAnd (.nat a) (.nat b) (.nat (a &&& b)) := by
  show BinTo .BitAnd (.int a) (.int b) (.int ((a &&& b : Nat) : Int))
  rw [← bitAnd_nat]; exact BinTo.and
theorem BinTo.orN {a b : Nat} : BinTo .BitOr (.nat a) (.nat b) (.nat (a ||| b)) := by
  show BinTo .BitOr (.int a) (.int b) (.int ((a ||| b : Nat) : Int))
  rw [← bitOr_nat]; exact BinTo.or
theorem BinTo.powN {a n : Nat} (h1 : n ≤ 10000) (ha : a < 2 ^ 64) : BinTo .Pow (.nat a) (.nat n) (.nat (a ^ n)) := by
  show BinTo .Pow (.int a) (.int n) (.int ((a ^ n : Nat) : Int))
  have e : ((a ^ n : Nat) : Int) = (a : Int) ^ ((n : Int).toNat) := by simp
  rw [e]; exact BinTo.pow (by omega) (by omega) (by simpa using ha)

theorem AugTo.addN {a b : Nat} : AugTo .Add (.nat a) (.nat b) (.nat (a + b)) := by
  show AugTo .Add (.int a) (.int b) (.int ((a + b : Nat) : Int))
  rw [Int.natCast_add]; exact AugTo.add
theorem AugTo.subN {a b : Nat} (h : b ≤ a) : AugTo .Sub (.nat a) (.nat b) (.nat (a - b)) := by
  show AugTo .Sub (.int a) (.int b) (.int ((a - b : Nat) : Int))
  rw [Int.natCast_sub h]; exact AugTo.sub
theorem AugTo.orN {a b : Nat} : AugTo .BitOr (.nat a) (.nat b) (.nat (a ||| b)) := by
  show AugTo .BitOr (.int a) (.int b) (.int ((a ||| b : Nat) : Int))
  rw [← bitOr_nat]; exact AugTo.or
theorem AugTo.shrN {a n : Nat} : AugTo .RShift (.nat a) (.nat n) (.nat (a / 2 ^ n)) := by
  show AugTo .RShift (.int a) (.int n) (.int ((a / 2 ^ n : Nat) : Int))
  have e : ((a / 2 ^ n : Nat) : Int) = Int.fdiv a (2 ^ ((n : Int).toNat)) := by
    rw [pow2_cast, Int.fdiv_eq_ediv_of_nonneg _ (Int.natCast_nonneg _), ← Int.natCast_ediv]
  rw [e]; exact AugTo.shr (by omega)
theorem AugTo.modN {a b : Nat} (h0 : 0 < b) : AugTo .Mod (.nat a) (.nat b) (.nat (a % b)) := by
  show AugTo .Mod (.int a) (.int b) (.int ((a % b : Nat) : Int))
  have e : ((a % b : Nat) : Int) = Int.fmod a b := by
    rw [Int.fmod_eq_emod_of_nonneg _ (by omega)]; simp
  rw [e]; exact AugTo.fmod (by omega)

theorem decide_cast {p q : Prop} [Decidable p] [Decidable q] (h : p ↔ q) : decide p = decide q := by
  by_cases hp : p
  · rw [decide_eq_true hp, decide_eq_true (h.mp hp)]
  · rw [decide_eq_false hp, decide_eq_false fun q => hp (h.mpr q)]
theorem CmpTo.eqN {a b : Nat} : CmpTo .Eq (.nat a) (.nat b) (decide (a = b)) := by
  rw [← decide_cast (show ((a : Int) = b) ↔ a = b by omega)]; exact CmpTo.eq
theorem CmpTo.neN {a b : Nat} : CmpTo .NotEq (.nat a) (.nat b) (decide (a ≠ b)) := by
  rw [← decide_cast (show ((a : Int) ≠ b) ↔ a ≠ b by omega)]; exact CmpTo.ne
theorem CmpTo.ltN {a b : Nat} : CmpTo .Lt (.nat a) (.nat b) (decide (a < b)) := by
  rw [← decide_cast (show ((a : Int) < b) ↔ a < b by omega)]; exact CmpTo.lt
theorem CmpTo.gtN {a b : Nat} : CmpTo .Gt (.nat a) (.nat b) (decide (b < a)) := by
  rw [← decide_cast (show ((b : Int) < a) ↔ b < a by omega)]; exact CmpTo.gt
theorem CmpTo.leN {a b : Nat} : CmpTo .LtE (.nat a) (.nat b) (decide (a ≤ b)) := by
  rw [← decide_cast (show ((a : Int) ≤ b) ↔ a ≤ b by omega)]; exact CmpTo.le
theorem CmpTo.geN {a b : Nat} : CmpTo .GtE (.nat a) (.nat b) (decide (b ≤ a)) := by
  rw [← decide_cast (show ((b : Int) ≤ a) ↔ b ≤ a by omega)]; exact CmpTo.ge
end Mine

namespace Mine
/-! L4 -/
open PySem PySem.W PyProof.Rows PySem.Spec PySem.Calls
set_option maxRecDepth 100000

section
variable {d : Nat} {fi : FI} {σ σ₁ σ₂ σ₃ : St} {pos : Pos}

theorem SR_as {C : RC d fi} {ρ τ τ' : List Addr} {h : Heap} (S : C.SR σ (ρ ++ τ ++ τ') h) : C.SR σ (ρ ++ (τ ++ τ')) h := by rwa [← List.append_assoc]
theorem VR_as {ρ τ τ' : List Addr} {v : V} {u : Value} (h : VR (ρ ++ τ ++ τ') v u) : VR (ρ ++ (τ ++ τ')) v u := by rwa [← List.append_assoc]
theorem VRs_as {ρ τ τ' : List Addr} {v : List V} {u : List Value} (h : VRs (ρ ++ τ ++ τ') v u) : VRs (ρ ++ (τ ++ τ')) v u := by rwa [← List.append_assoc]
theorem Same.tok {s : Shared} {tk : Nat} : Same s { s with toks := tk } := ⟨s.heap, tk, rfl⟩

/-- the same frame over another ledger -/
noncomputable abbrev RC.wth (C : RC d fi) (ex : Led) : RC d fi := { C with extra := ex }

/-! ## results of calls of the machine itself keep the heap's entries -/

theorem EvalTo.bin {l r : Expr} {op : Operator} {a b c : V} (h1 : EvalTo d fi l σ a σ₁) (h2 : EvalTo d fi r σ₁ b σ₂) (h3 : BinTo op a b c) : EvalTo d fi (.BinOp l op r pos) σ c σ₂ := ⟨fun C ρ s Q S hQ => by
  with_reducible refine wpAny_BinOp ?_
  refine h1.run C ρ s _ S fun τ u s₁ m₁ S₁ hu => ?_
  refine h2.run C _ s₁ _ S₁ fun τ₂ v s₂ m₂ S₂ hv => ?_
  exact h3.run _ _ _ _ _ _ _ _ hu.mono hv fun t tk ht => hQ (τ ++ τ₂) t _ (m₁.trans (m₂.trans Same.tok)) (SR_as S₂) (VR_as ht)⟩

theorem EvalTo.cmp {l r : Expr} {op : CmpOp} {a b : V} {c : Bool} (h1 : EvalTo d fi l σ a σ₁) (h2 : EvalTo d fi r σ₁ b σ₂) (h3 : CmpTo op a b c) (hm : behindInMarks op r = false) : EvalTo d fi (.Compare l [op] [r] pos) σ (.bool c) σ₂ := ⟨fun C ρ s Q S hQ => by
  with_reducible refine wpAny_Compare1 ?_ hm
  refine h1.run C ρ s _ S fun τ u s₁ m₁ S₁ hu => ?_
  refine h2.run C _ s₁ _ S₁ fun τ₂ v s₂ m₂ S₂ hv => ?_
  exact h3.run _ _ _ _ _ _ _ _ hu.mono hv (hQ (τ ++ τ₂) _ _ (m₁.trans m₂) (SR_as S₂) rfl)⟩

theorem TestTo.cmp {l r : Expr} {op : CmpOp} {a b : V} {c : Bool} (h1 : EvalTo d fi l σ a σ₁) (h2 : EvalTo d fi r σ₁ b σ₂) (h3 : CmpTo op a b c) (hm : behindInMarks op r = false) : TestTo d fi (.Compare l [op] [r] pos) σ c σ₂ := ⟨fun C ρ s Q S hQ => by
  with_reducible refine wpAny_isTrue_Compare1 ?_ hm
  refine h1.run C ρ s _ S fun τ u s₁ m₁ S₁ hu => ?_
  refine h2.run C _ s₁ _ S₁ fun τ₂ v s₂ m₂ S₂ hv => ?_
  refine h3.run _ _ _ _ _ _ _ _ hu.mono hv ?_
  with_reducible exact wpAny_truthy_bool (hQ (τ ++ τ₂) _ (m₁.trans m₂) (SR_as S₂))⟩

/-- a test of an expression that makes a bool, where the tree has no road of its own -/
theorem TestTo.plain {e : Expr} {b : Bool} (h : EvalTo d fi e σ (.bool b) σ₁) (hp : ∀ env, PySem.isTrue e env (eval e env) = do { let v ← eval e env; standAt e.pos; holding [v] (truthy v) }) : TestTo d fi e σ b σ₁ := ⟨fun C ρ s Q S hQ => by
  with_reducible refine isTrue_plain ?_ (hp _)
  refine h.run C ρ s _ S fun τ u s₁ m₁ S₁ hu => ?_
  cases hu
  with_reducible exact wpAny_truthy_bool (hQ τ _ m₁ S₁)⟩

theorem TestTo.notT {x : Expr} {b : Bool} (h : TestTo d fi x σ b σ₁) : TestTo d fi (.UnaryOp .Not x pos) σ (!b) σ₁ := ⟨fun C ρ s Q S hQ => by
  with_reducible refine isTrue_not ?_
  exact h.run C ρ s _ S fun τ s₁ m₁ S₁ => hQ τ _ m₁ S₁⟩

theorem TestTo.andT {x y : Expr} {b c : Bool} (h1 : TestTo d fi x σ b σ₁) (e : b = true) (h2 : TestTo d fi y σ₁ c σ₂) : TestTo d fi (.BoolOp .And [x, y] pos) σ c σ₂ := ⟨fun C ρ s Q S hQ => by
  subst e
  with_reducible refine isTrue_and ?_
  refine h1.run C ρ s _ S fun τ s₁ m₁ S₁ => ?_
  rw [if_pos rfl]
  with_reducible refine isTrue_and ?_
  refine h2.run C _ s₁ _ S₁ fun τ₂ s₂ m₂ S₂ => ?_
  have q := hQ (τ ++ τ₂) _ (m₁.trans m₂) (SR_as S₂)
  cases c with
  | true => rw [if_pos rfl]; with_reducible exact isTrue_and_nil q
  | false => rw [if_neg (by decide)]; exact q⟩
theorem TestTo.andF {x : Expr} {rest : List Expr} {b : Bool} (h1 : TestTo d fi x σ b σ₁) (e : b = false) : TestTo d fi (.BoolOp .And (x :: rest) pos) σ false σ₁ := ⟨fun C ρ s Q S hQ => by
  subst e
  with_reducible refine isTrue_and ?_
  refine h1.run C ρ s _ S fun τ s₁ m₁ S₁ => ?_
  rw [if_neg (by decide)]
  exact hQ τ _ m₁ S₁⟩
theorem TestTo.orT {x : Expr} {rest : List Expr} {b : Bool} (h1 : TestTo d fi x σ b σ₁) (e : b = true) : TestTo d fi (.BoolOp .Or (x :: rest) pos) σ true σ₁ := ⟨fun C ρ s Q S hQ => by
  subst e
  with_reducible refine isTrue_or ?_
  refine h1.run C ρ s _ S fun τ s₁ m₁ S₁ => ?_
  rw [if_pos rfl]
  exact hQ τ _ m₁ S₁⟩
theorem TestTo.orF {x y : Expr} {b c : Bool} (h1 : TestTo d fi x σ b σ₁) (e : b = false) (h2 : TestTo d fi y σ₁ c σ₂) : TestTo d fi (.BoolOp .Or [x, y] pos) σ c σ₂ := ⟨fun C ρ s Q S hQ => by
  subst e
  with_reducible refine isTrue_or ?_
  refine h1.run C ρ s _ S fun τ s₁ m₁ S₁ => ?_
  rw [if_neg (by decide)]
  with_reducible refine isTrue_or ?_
  refine h2.run C _ s₁ _ S₁ fun τ₂ s₂ m₂ S₂ => ?_
  have q := hQ (τ ++ τ₂) _ (m₁.trans m₂) (SR_as S₂)
  cases c with
  | true => rw [if_pos rfl]; exact q
  | false => rw [if_neg (by decide)]; with_reducible exact isTrue_or_nil q⟩

theorem EvalTo.orT {x y : Expr} {b : Bool} (h1 : EvalTo d fi x σ (.bool b) σ₁) (e : b = true) : EvalTo d fi (.BoolOp .Or [x, y] pos) σ (.bool true) σ₁ := ⟨fun C ρ s Q S hQ => by
  subst e
  with_reducible refine BoolOp_or ?_
  refine h1.run C ρ s _ S fun τ u s₁ m₁ S₁ hu => ?_
  cases hu
  with_reducible refine wpAny_truthy_bool ?_
  rw [if_pos rfl]
  exact hQ τ _ _ m₁ S₁ rfl⟩
theorem EvalTo.orF {x y : Expr} {b : Bool} {v : V} (h1 : EvalTo d fi x σ (.bool b) σ₁) (e : b = false) (h2 : EvalTo d fi y σ₁ v σ₂) : EvalTo d fi (.BoolOp .Or [x, y] pos) σ v σ₂ := ⟨fun C ρ s Q S hQ => by
  subst e
  with_reducible refine BoolOp_or ?_
  refine h1.run C ρ s _ S fun τ u s₁ m₁ S₁ hu => ?_
  cases hu
  with_reducible refine wpAny_truthy_bool ?_
  rw [if_neg (by decide)]
  with_reducible refine BoolOp_one ?_
  exact h2.run C _ s₁ _ S₁ fun τ₂ v s₂ m₂ S₂ hv => hQ (τ ++ τ₂) _ _ (m₁.trans m₂) (SR_as S₂) (VR_as hv)⟩
theorem EvalTo.andT {x y : Expr} {b : Bool} {v : V} (h1 : EvalTo d fi x σ (.bool b) σ₁) (e : b = true) (h2 : EvalTo d fi y σ₁ v σ₂) : EvalTo d fi (.BoolOp .And [x, y] pos) σ v σ₂ := ⟨fun C ρ s Q S hQ => by
  subst e
  with_reducible refine BoolOp_and ?_
  refine h1.run C ρ s _ S fun τ u s₁ m₁ S₁ hu => ?_
  cases hu
  with_reducible refine wpAny_truthy_bool ?_
  rw [if_pos rfl]
  with_reducible refine BoolOp_one ?_
  exact h2.run C _ s₁ _ S₁ fun τ₂ v s₂ m₂ S₂ hv => hQ (τ ++ τ₂) _ _ (m₁.trans m₂) (SR_as S₂) (VR_as hv)⟩

theorem EvalTo.iteT {test x y : Expr} {b : Bool} {v : V} (h1 : TestTo d fi test σ b σ₁) (e : b = true) (h2 : EvalTo d fi x σ₁ v σ₂) : EvalTo d fi (.IfExp test x y pos) σ v σ₂ := ⟨fun C ρ s Q S hQ => by
  subst e
  with_reducible refine IfExp_ ?_
  refine h1.run C ρ s _ S fun τ s₁ m₁ S₁ => ?_
  rw [if_pos rfl]
  exact h2.run C _ s₁ _ S₁ fun τ₂ v s₂ m₂ S₂ hv => hQ (τ ++ τ₂) _ _ (m₁.trans m₂) (SR_as S₂) (VR_as hv)⟩
theorem EvalTo.iteF {test x y : Expr} {b : Bool} {v : V} (h1 : TestTo d fi test σ b σ₁) (e : b = false) (h2 : EvalTo d fi y σ₁ v σ₂) : EvalTo d fi (.IfExp test x y pos) σ v σ₂ := ⟨fun C ρ s Q S hQ => by
  subst e
  with_reducible refine IfExp_ ?_
  refine h1.run C ρ s _ S fun τ s₁ m₁ S₁ => ?_
  rw [if_neg (by decide)]
  exact h2.run C _ s₁ _ S₁ fun τ₂ v s₂ m₂ S₂ hv => hQ (τ ++ τ₂) _ _ (m₁.trans m₂) (SR_as S₂) (VR_as hv)⟩

theorem EvalTo.neg {x : Expr} {i : Int} (h : EvalTo d fi x σ (.int i) σ₁) : EvalTo d fi (.UnaryOp .USub x pos) σ (.int (-i)) σ₁ := ⟨fun C ρ s Q S hQ => by
  with_reducible refine UnaryOp_ ?_
  refine h.run C ρ s _ S fun τ u s₁ m₁ S₁ hu => ?_
  obtain ⟨t, rfl⟩ := hu
  with_reducible refine neg_int ?_
  exact hQ τ _ _ (m₁.trans Same.tok) S₁ ⟨_, rfl⟩⟩

/-! ## arguments -/
structure EvalsTo (d : Nat) (fi : FI) (es : List Expr) (σ : St) (vs : List V) (σ' : St) : Prop where
  run : ∀ (C : RC d fi) (pos : Pos) (ρ : List Addr) (s : Shared) (Q : List Value → Shared → Prop), C.SR σ ρ s.heap →
    (∀ τ us s', Same s s' → C.SR σ' (ρ ++ τ) s'.heap → VRs (ρ ++ τ) vs us → Q us s') → wpAny C.M C.A (spliced (backTo pos (starEach es C.env))) Q NoE s

theorem EvalsTo.nil : EvalsTo d fi [] σ [] σ := ⟨fun C pos ρ s Q S hQ => spliced_none (hQ [] _ _ (Same.refl s) (SR_refl S) trivial)⟩
theorem EvalsTo.cons {e : Expr} {es : List Expr} {v : V} {vs : List V} (h1 : EvalTo d fi e σ v σ₁) (h2 : EvalsTo d fi es σ₁ vs σ₂) (he : ∀ env, starEach (e :: es) env = (false, eval e env) :: starEach es env) :
    EvalsTo d fi (e :: es) σ (v :: vs) σ₂ := ⟨fun C pos ρ s Q S hQ => by
  with_reducible refine spliced_more ?_ (he _)
  refine h1.run C ρ s _ S fun τ u s₁ m₁ S₁ hu => ?_
  refine h2.run C pos _ s₁ _ S₁ fun τ₂ us s₂ m₂ S₂ hv => ?_
  exact hQ (τ ++ τ₂) _ _ (m₁.trans m₂) (SR_as S₂) (VRs_as (show VRs _ (v :: vs) (u :: us) from ⟨hu.mono, hv⟩))⟩

theorem SR_len {C : RC d fi} {ρ : List Addr} {h : Heap} (S : C.SR σ ρ h) : ρ.length = σ.heap.length := by
  obtain ⟨m, news, F, N, R, nd, l⟩ := S.ex
  rw [R.len, ← R.adr, List.length_map]

theorem VR_new {ρ : List Addr} {H : List O} {a : Addr} (h : ρ.length = H.length) : VR (ρ ++ [a]) (.ref H.length) (.ref a) := ⟨a, by rw [← h]; simp, rfl⟩

theorem VRs_toList {ρ : List Addr} {xs : List V} {vs : List Value} (h : VRs ρ xs vs) : VRs ρ xs vs.toArray.toList := by simpa using h

theorem newListTo {C : RC d fi} {ρ : List Addr} {s : Shared} {xs : List V} {vs : List Value} {Q : Value → Shared → Prop} (S : C.SR σ ρ s.heap) (hv : VRs ρ xs vs) (hlen : xs.length ≤ 2 ^ 20)
    (hQ : ∀ τ u s', Same s s' → C.SR ⟨σ.loc, σ.heap ++ [.list xs]⟩ (ρ ++ τ) s'.heap → VR (ρ ++ τ) (.ref σ.heap.length) u → Q u s') : wpAny C.M C.A (newList vs) Q NoE s := by
  obtain ⟨m, news, F, N, R, nd, l⟩ := S.ex
  refine newList_N F N (fun h' F' N' => ?_) (by rw [← hv.length, sizeLine_eq]; omega)
  exact hQ [s.heap.objs.size] _ _ ⟨_, s.toks, rfl⟩ (SR_alloc F' N' N R nd l ⟨_, _, rfl, VRs_toList hv⟩) (VR_new (SR_len S))
theorem newTupleTo {C : RC d fi} {ρ : List Addr} {s : Shared} {xs : List V} {vs : List Value} {Q : Value → Shared → Prop} (S : C.SR σ ρ s.heap) (hv : VRs ρ xs vs) (hlen : xs.length ≤ 2 ^ 20)
    (hQ : ∀ τ u s', Same s s' → C.SR ⟨σ.loc, σ.heap ++ [.tup xs]⟩ (ρ ++ τ) s'.heap → VR (ρ ++ τ) (.ref σ.heap.length) u → Q u s') : wpAny C.M C.A (newTuple vs) Q NoE s := by
  obtain ⟨m, news, F, N, R, nd, l⟩ := S.ex
  refine newTuple_N F N (fun h' F' N' => ?_) (by rw [← hv.length, sizeLine_eq]; omega)
  exact hQ [s.heap.objs.size] _ _ ⟨_, s.toks, rfl⟩ (SR_alloc F' N' N R nd l ⟨_, _, rfl, VRs_toList hv⟩) (VR_new (SR_len S))

theorem EvalTo.list {es : List Expr} {vs : List V} (h : EvalsTo d fi es σ vs σ₁) (hlen : vs.length ≤ 2 ^ 20) : EvalTo d fi (.List es pos) σ (.ref σ₁.heap.length) ⟨σ₁.loc, σ₁.heap ++ [.list vs]⟩ := ⟨fun C ρ s Q S hQ => by
  with_reducible refine List_ ?_
  refine h.run C pos ρ s _ S fun τ us s₁ m₁ S₁ hu => ?_
  exact newListTo S₁ hu hlen fun τ₂ u s' m' S' hu' => hQ (τ ++ τ₂) _ _ (m₁.trans m') (SR_as S') (VR_as hu')⟩
theorem EvalTo.tuple {es : List Expr} {vs : List V} {k : Nat} (h : EvalsTo d fi es σ vs σ₁) (hlen : vs.length ≤ 2 ^ 20) : EvalTo d fi (.Tuple es k pos) σ (.ref σ₁.heap.length) ⟨σ₁.loc, σ₁.heap ++ [.tup vs]⟩ := ⟨fun C ρ s Q S hQ => by
  with_reducible refine Tuple_ ?_
  refine h.run C pos ρ s _ S fun τ us s₁ m₁ S₁ hu => ?_
  exact newTupleTo S₁ hu hlen fun τ₂ u s' m' S' hu' => hQ (τ ++ τ₂) _ _ (m₁.trans m') (SR_as S') (VR_as hu')⟩
end
end Mine

namespace Mine
/-! L5 -/
open PySem PySem.W PyProof.Rows PySem.Spec PySem.Calls
set_option maxRecDepth 100000

theorem subscripted_ops (slice : Expr) (o i : Value) : ∃ ops, subscripted slice false o i = operate ops (getItem o i) := by
  unfold subscripted
  split
  · exact ⟨_, rfl⟩
  · rename_i h; cases h
  · exact ⟨_, rfl⟩

section
variable {d : Nat} {fi : FI} {σ σ₁ σ₂ σ₃ : St} {pos : Pos}

theorem SR_list {C : RC d fi} {ρ : List Addr} {h : Heap} (S : C.SR σ ρ h) {k : Nat} {xs : List V} (hk : σ.heap[k]? = some (.list xs)) :
    ∃ a vs n, ρ[k]? = some a ∧ h.get? a = some (listOf vs n) ∧ VRs ρ xs vs.toList := by
  obtain ⟨m, news, F, N, R, nd, l⟩ := S.ex
  obtain ⟨a, o, h1, h2, h3, vs, n, rfl, h4⟩ := R.get hk
  exact ⟨a, vs, n, h1, (N _ (List.mem_append_left _ h2)).1, h4⟩
theorem SR_tup {C : RC d fi} {ρ : List Addr} {h : Heap} (S : C.SR σ ρ h) {k : Nat} {xs : List V} (hk : σ.heap[k]? = some (.tup xs)) :
    ∃ a vs n, ρ[k]? = some a ∧ h.get? a = some ({ cls := .type "tuple", data := .seq vs n } : Obj) ∧ VRs ρ xs vs.toList := by
  obtain ⟨m, news, F, N, R, nd, l⟩ := S.ex
  obtain ⟨a, o, h1, h2, h3, vs, n, rfl, h4⟩ := R.get hk
  exact ⟨a, vs, n, h1, (N _ (List.mem_append_left _ h2)).1, h4⟩

theorem ref_eq {ρ : List Addr} {k : Nat} {a : Addr} {u : Value} (h : VR ρ (.ref k) u) (ha : ρ[k]? = some a) : u = .ref a := by
  obtain ⟨b, h1, h2⟩ := h
  rw [h1] at ha; cases ha; exact h2

theorem EvalTo.item {vE sE : Expr} {k i : Nat} {xs : List V} {x : V} (h1 : EvalTo d fi vE σ (.ref k) σ₁) (h2 : EvalTo d fi sE σ₁ (.nat i) σ₂) (hk : σ₂.heap[k]? = some (.list xs)) (hx : xs[i]? = some x) (hi : i < 2 ^ 62) :
    EvalTo d fi (.Subscript vE sE pos) σ x σ₂ := ⟨fun C ρ s Q S hQ => by
  with_reducible refine Subscript_ ?_
  refine h1.run C ρ s _ S fun τ u s₁ m₁ S₁ hu => ?_
  refine h2.run C _ s₁ _ S₁ fun τ₂ v s₂ m₂ S₂ hv => ?_
  obtain ⟨a, vs, n, ha, hg, hvs⟩ := SR_list S₂ hk
  obtain ⟨t, rfl⟩ := hv
  rw [ref_eq hu.mono ha]
  obtain ⟨y, hy, hyx⟩ := hvs.get hx
  obtain ⟨ops, hops⟩ := subscripted_ops sE (.ref a) (.int (i : Int) t)
  have hl : s₂.heap.IsList a vs := ⟨_, hg, rfl, n, rfl⟩
  with_reducible refine tail_any hl.typeIs slot_list_getitem.lookup ?_ hops
  with_reducible refine wpAny_getItem_list (x := y) hl (by omega) (by omega) ?_ ?_
  · simpa using hy
  · exact hQ (τ ++ τ₂) _ _ (m₁.trans m₂) (SR_as S₂) (VR_as hyx)⟩

theorem EvalTo.itemLast {vE sE : Expr} {k : Nat} {xs : List V} {x : V} (h1 : EvalTo d fi vE σ (.ref k) σ₁) (h2 : EvalTo d fi sE σ₁ (.int (-1)) σ₂) (hk : σ₂.heap[k]? = some (.list xs)) (hx : xs[xs.length - 1]? = some x) (hi : xs.length < 2 ^ 62) :
    EvalTo d fi (.Subscript vE sE pos) σ x σ₂ := ⟨fun C ρ s Q S hQ => by
  with_reducible refine Subscript_ ?_
  refine h1.run C ρ s _ S fun τ u s₁ m₁ S₁ hu => ?_
  refine h2.run C _ s₁ _ S₁ fun τ₂ v s₂ m₂ S₂ hv => ?_
  obtain ⟨a, vs, n, ha, hg, hvs⟩ := SR_list S₂ hk
  obtain ⟨t, rfl⟩ := hv
  rw [ref_eq hu.mono ha]
  obtain ⟨y, hy, hyx⟩ := hvs.get hx
  obtain ⟨ops, hops⟩ := subscripted_ops sE (.ref a) (.int (-1) t)
  have hl : s₂.heap.IsList a vs := ⟨_, hg, rfl, n, rfl⟩
  have hlen := hvs.length
  have hpos : 0 < xs.length := by have := (List.getElem?_eq_some_iff.mp hx).1; omega
  have hsz : vs.size = xs.length := by rw [hlen]; simp
  with_reducible refine tail_any hl.typeIs slot_list_getitem.lookup ?_ hops
  with_reducible refine wpAny_getItem_list_neg (x := y) hl (by omega) (by omega) (by omega) ?_ ?_
  · have : (-1 + (vs.size : Int)).toNat = xs.length - 1 := by omega
    rw [this]; simpa using hy
  · exact hQ (τ ++ τ₂) _ _ (m₁.trans m₂) (SR_as S₂) (VR_as hyx)⟩

theorem EvalTo.itemT {vE sE : Expr} {k i : Nat} {xs : List V} {x : V} (h1 : EvalTo d fi vE σ (.ref k) σ₁) (h2 : EvalTo d fi sE σ₁ (.nat i) σ₂) (hk : σ₂.heap[k]? = some (.tup xs)) (hx : xs[i]? = some x) (hi : i < 2 ^ 62) :
    EvalTo d fi (.Subscript vE sE pos) σ x σ₂ := ⟨fun C ρ s Q S hQ => by
  with_reducible refine Subscript_ ?_
  refine h1.run C ρ s _ S fun τ u s₁ m₁ S₁ hu => ?_
  refine h2.run C _ s₁ _ S₁ fun τ₂ v s₂ m₂ S₂ hv => ?_
  obtain ⟨a, vs, n, ha, hg, hvs⟩ := SR_tup S₂ hk
  obtain ⟨t, rfl⟩ := hv
  rw [ref_eq hu.mono ha]
  obtain ⟨y, hy, hyx⟩ := hvs.get hx
  obtain ⟨ops, hops⟩ := subscripted_ops sE (.ref a) (.int (i : Int) t)
  have hl : IsTup s₂.heap a vs.toList.toArray := ⟨_, hg, rfl, n, by simp⟩
  have hT : s₂.TypeIs (.ref a) "tuple" := ⟨_, hg, rfl⟩
  with_reducible refine tail_any hT slot_tuple_getitem.lookup ?_ hops
  have hlt : i < vs.toList.length := (List.getElem?_eq_some_iff.mp hy).1
  have hlt' : i < vs.size := by simpa using hlt
  have hl' : IsTup s₂.heap a vs := ⟨_, hg, rfl, n, rfl⟩
  with_reducible refine getItem_tuple (x := y) (j := i) (items := vs) hl' (by omega) (by omega) ?_ ?_ ?_
  · simp only [seqIndex?]
    have e1 : ¬ ((i : Int) < 0) := by omega
    simp only [e1, if_false]
    simp [hlt']
  · simpa using hy
  · exact hQ (τ ++ τ₂) _ _ (m₁.trans m₂) (SR_as S₂) (VR_as hyx)⟩

/-! ## objects that are only passing -/
theorem SR_unwth {C : RC d fi} {ex : Led} {ρ : List Addr} {h : Heap} (S : (C.wth (ex ++ C.extra)).SR σ ρ h) : C.SR σ ρ h := by
  obtain ⟨m, news, F, N, R, nd, l⟩ := S.ex
  refine ⟨m, news, F, fun p hp => N p ?_, R, ?_, l⟩
  · rcases List.mem_append.mp hp with hp | hp
    · exact List.mem_append_left _ hp
    · exact List.mem_append_right _ (List.mem_append_right _ hp)
  · have : ((news ++ C.extra).map (·.1)).Sublist ((news ++ (ex ++ C.extra)).map (·.1)) := List.Sublist.map _ ((List.append_sublist_append_left _).mpr (List.sublist_append_right _ _))
    exact nd.sublist this

theorem SR_wth {C : RC d fi} {ρ : List Addr} {h h' : Heap} {o : Obj} {m : Str → Option Value} {news : Led} (F' : Fr C.h₀ C.L h' m) (N' : News C.h₀ C.L h' ((h.objs.size, o) :: (news ++ C.extra)))
    (N : News C.h₀ C.L h (news ++ C.extra)) (R : HR ρ σ.heap news) (nd : ((news ++ C.extra).map (·.1)).Nodup) (l : LR ρ fi.names fi.cells C.cl σ.loc m) : (C.wth ([(h.objs.size, o)] ++ C.extra)).SR σ ρ h' := by
  refine ⟨m, news, F', fun p hp => N' p ?_, R, ?_, l⟩
  · simp only [List.mem_append, List.mem_cons, List.not_mem_nil, or_false] at hp ⊢
    rcases hp with h1 | h1 | h1
    · exact .inr (.inl h1)
    · exact .inl h1
    · exact .inr (.inr h1)
  · have hlt : ∀ a ∈ (news ++ C.extra).map (·.1), a < h.objs.size := fun a ha => by
      obtain ⟨p, hp, rfl⟩ := List.mem_map.mp ha
      exact Heap.lt_size (N p hp).1
    simp only [List.map_append, List.nodup_append, List.mem_append, List.map_cons, List.map_nil, List.mem_cons, List.not_mem_nil, or_false, List.nodup_cons, List.nodup_nil, not_false_eq_true, true_and, and_true] at nd hlt ⊢
    obtain ⟨n1, n2, n3⟩ := nd
    refine ⟨n1, ⟨n2, ?_⟩, ?_⟩
    · intro a ha b hb e
      subst ha; subst e
      exact Nat.lt_irrefl _ (hlt _ (.inr hb))
    · intro a ha b hb
      rcases hb with hb | hb
      · intro e
        subst hb; subst e
        exact Nat.lt_irrefl _ (hlt _ (.inl ha))
      · exact n3 a ha b hb

theorem SR_mem {C : RC d fi} {p : Addr × Obj} {ρ : List Addr} {h : Heap} (S : C.SR σ ρ h) (hp : p ∈ C.extra) : h.get? p.1 = some p.2 := by
  obtain ⟨m, news, F, N, R, nd, l⟩ := S.ex
  exact (N p (List.mem_append_right _ hp)).1

theorem listTemp {es : List Expr} {vs : List V} (h : EvalsTo d fi es σ vs σ₁) (hlen : vs.length ≤ 2 ^ 20) (C : RC d fi) (ρ : List Addr) (s : Shared) (Q : Value → Shared → Prop) (S : C.SR σ ρ s.heap)
    (hQ : ∀ τ a us s', Same s s' → (C.wth ([(a, listOf us.toArray 0)] ++ C.extra)).SR σ₁ (ρ ++ τ) s'.heap → VRs (ρ ++ τ) vs us → Q (.ref a) s') : wpAny C.M C.A (eval (.List es pos) C.env) Q NoE s := by
  with_reducible refine List_ ?_
  refine h.run C pos ρ s _ S fun τ us s₁ m₁ S₁ hu => ?_
  obtain ⟨m, news, F, N, R, nd, l⟩ := S₁.ex
  refine newList_N F N (fun h' F' N' => ?_) (by rw [← hu.length, sizeLine_eq]; omega)
  exact hQ τ _ us _ (m₁.trans ⟨_, s₁.toks, rfl⟩) (SR_wth F' N' N R nd l) hu
theorem tupleTemp {es : List Expr} {vs : List V} {k : Nat} (h : EvalsTo d fi es σ vs σ₁) (hlen : vs.length ≤ 2 ^ 20) (C : RC d fi) (ρ : List Addr) (s : Shared) (Q : Value → Shared → Prop) (S : C.SR σ ρ s.heap)
    (hQ : ∀ τ a us s', Same s s' → (C.wth ([(a, ({ cls := .type "tuple", data := .seq us.toArray } : Obj))] ++ C.extra)).SR σ₁ (ρ ++ τ) s'.heap → VRs (ρ ++ τ) vs us → Q (.ref a) s') : wpAny C.M C.A (eval (.Tuple es k pos) C.env) Q NoE s := by
  with_reducible refine Tuple_ ?_
  refine h.run C pos ρ s _ S fun τ us s₁ m₁ S₁ hu => ?_
  obtain ⟨m, news, F, N, R, nd, l⟩ := S₁.ex
  refine newTuple_N F N (fun h' F' N' => ?_) (by rw [← hu.length, sizeLine_eq]; omega)
  exact hQ τ _ us _ (m₁.trans ⟨_, s₁.toks, rfl⟩) (SR_wth F' N' N R nd l) hu

theorem flat_replicate {α : Type} (x : α) : ∀ (n : Nat) (acc : Array α), ((List.replicate n #[x]).foldl (fun a b => a ++ b) acc).toList = acc.toList ++ List.replicate n x
  | 0, acc => by simp
  | n + 1, acc => by
    rw [List.replicate_succ, List.foldl_cons, flat_replicate x n]
    simp [List.replicate_succ]

/-- [e] * n -/
theorem EvalTo.repl {e r : Expr} {lp : Pos} {v : V} {n : Nat} (h1 : EvalTo d fi e σ v σ₁) (he : ∀ env, starEach [e] env = (false, eval e env) :: starEach [] env) (h2 : EvalTo d fi r σ₁ (.nat n) σ₂) (hn : n ≤ 2 ^ 20) :
    EvalTo d fi (.BinOp (.List [e] lp) .Mult r pos) σ (.ref σ₂.heap.length) ⟨σ₂.loc, σ₂.heap ++ [.list (List.replicate n v)]⟩ := ⟨fun C ρ s Q S hQ => by
  with_reducible refine wpAny_BinOp ?_
  refine listTemp (EvalsTo.cons h1 .nil he) (by simp) C ρ s _ S fun τ a us s₁ m₁ S₁ hus => ?_
  obtain ⟨u, rfl⟩ : ∃ u, us = [u] := len1 hus.length
  refine h2.run (C.wth ([(a, listOf [u].toArray 0)] ++ C.extra)) _ s₁ _ S₁ fun τ₂ w s₂ m₂ S₂ hw => ?_
  obtain ⟨t, rfl⟩ := hw
  have hg := SR_mem S₂ (p := (a, listOf [u].toArray 0)) (List.mem_append_left _ (.head _))
  obtain ⟨m, news, F, N, R, nd, l⟩ := (SR_unwth S₂).ex
  refine mul_list F N hg (by omega) (by omega) (by simp; omega) fun h' F' N' => ?_
  refine hQ (τ ++ τ₂ ++ [s₂.heap.objs.size]) _ _ (m₁.trans (m₂.trans ⟨_, s₂.toks, rfl⟩)) ?_ ?_
  · rw [← List.append_assoc, ← List.append_assoc]
    refine SR_alloc F' N' N R nd l ⟨_, _, rfl, ?_⟩
    rw [if_neg (by simp), show ((n : Int).toNat) = n by omega, flat_replicate]
    exact VRs.replicate hus.1.mono n
  · rw [← List.append_assoc, ← List.append_assoc]
    exact VR_new (SR_len S₂)⟩

/-- two lists of the ledger, one behind the other -/
theorem EvalTo.cat {l r : Expr} {k j : Nat} {xs ys : List V} (h1 : EvalTo d fi l σ (.ref k) σ₁) (h2 : EvalTo d fi r σ₁ (.ref j) σ₂) (hk : σ₂.heap[k]? = some (.list xs)) (hj : σ₂.heap[j]? = some (.list ys)) (hlen : xs.length + ys.length ≤ 2 ^ 20) :
    EvalTo d fi (.BinOp l .Add r pos) σ (.ref σ₂.heap.length) ⟨σ₂.loc, σ₂.heap ++ [.list (xs ++ ys)]⟩ := ⟨fun C ρ s Q S hQ => by
  with_reducible refine wpAny_BinOp ?_
  refine h1.run C ρ s _ S fun τ u s₁ m₁ S₁ hu => ?_
  refine h2.run C _ s₁ _ S₁ fun τ₂ w s₂ m₂ S₂ hw => ?_
  obtain ⟨a, vs, n, ha, hga, hvs⟩ := SR_list S₂ hk
  obtain ⟨b, us, n', hb, hgb, hus⟩ := SR_list S₂ hj
  rw [ref_eq hu.mono ha, ref_eq hw hb]
  obtain ⟨m, news, F, N, R, nd, l⟩ := S₂.ex
  have e1 := hvs.length
  have e2 := hus.length
  refine add_arrays F N ⟨_, hga, rfl, n, rfl⟩ ⟨_, hgb, rfl, n', rfl⟩ (fun h' F' N' => ?_) (by rw [sizeLine_eq]; simp at e1 e2; omega)
  refine hQ (τ ++ τ₂ ++ [s₂.heap.objs.size]) _ _ (m₁.trans (m₂.trans ⟨_, s₂.toks, rfl⟩)) ?_ ?_
  · rw [← List.append_assoc, ← List.append_assoc]
    exact SR_alloc F' N' N R nd l ⟨_, _, rfl, VRs_toList (hvs.append hus)⟩
  · rw [← List.append_assoc, ← List.append_assoc]
    exact VR_new (SR_len S₂)⟩

/-! ## slices -/
theorem sliceCore {C : RC d fi} {ρ : List Addr} {s : Shared} {vE sE : Expr} {k : Nat} {xs zs : List V} {vl vu : Value} {lo hi : Option Int} {u : Value} {Q : Value → Shared → Prop} (S : C.SR σ ρ s.heap) (hk : σ.heap[k]? = some (.list xs))
    (hu : VR ρ (.ref k) u) (hl : IsPart vl lo) (hh : IsPart vu hi) (hlen : xs.length ≤ 2 ^ 20) (hz : ∀ vs : Array Value, VRs ρ xs vs.toList → VRs ρ zs (slicePick vs lo hi none).toList)
    (hQ : ∀ τ u s', Same s s' → C.SR ⟨σ.loc, σ.heap ++ [.list zs]⟩ (ρ ++ τ) s'.heap → VR (ρ ++ τ) (.ref σ.heap.length) u → Q u s') :
    wpAny C.M C.A (subscriptTail vE sE u (.ref s.heap.objs.size)) Q NoE { s with heap := s.heap.push { cls := .type "slice", data := .fields #[vl, vu, .none] } } := by
  obtain ⟨a, vs, n, ha, hg, hvs⟩ := SR_list S hk
  rw [ref_eq hu ha]
  obtain ⟨m, news, F, N, R, nd, l⟩ := S.ex
  obtain ⟨ops, hops⟩ := subscripted_ops sE (.ref a) (.ref s.heap.objs.size)
  have F1 := F.push { cls := .type "slice", data := .fields #[vl, vu, .none] }
  have N1 := News.grown N (Heap_keep_push (o := { cls := .type "slice", data := .fields #[vl, vu, .none] }))
  have hl1 : (s.heap.push { cls := .type "slice", data := .fields #[vl, vu, .none] }).IsList a vs := ⟨_, Heap.get?_push_of_some _ hg, rfl, n, rfl⟩
  have e1 := hvs.length
  have hT : Shared.TypeIs { s with heap := s.heap.push { cls := .type "slice", data := .fields #[vl, vu, .none] } } (.ref a) "list" := hl1.typeIs
  with_reducible refine tail_any hT slot_list_getitem.lookup ?_ hops
  refine wpAny_getItem_list_slice (lo := lo) (hi := hi) (st := none) hl1 ⟨_, Heap.get?_push_size _ rfl, rfl, rfl⟩ hl hh .none (by simp) ?_ (by rw [sizeLine_eq]; simp at e1; omega)
  refine hQ [(s.heap.push { cls := .type "slice", data := .fields #[vl, vu, .none] }).objs.size] _ _ ⟨_, s.toks, rfl⟩ ?_ (VR_new (SR_len S))
  exact SR_alloc (F1.push _) (News.push F1 N1 _) N1 R nd l ⟨_, _, rfl, hz vs hvs⟩
end
end Mine

namespace Mine
/-! L6 -/
open PySem PySem.W PyProof.Rows PySem.Spec PySem.Calls
set_option maxRecDepth 100000
section
variable {d : Nat} {fi : FI} {σ σ₁ σ₂ σ₃ : St} {pos : Pos}

theorem EvalTo.sliceTo {vE e : Expr} {sp : Pos} {k n : Nat} {xs : List V} (h1 : EvalTo d fi vE σ (.ref k) σ₁) (h2 : EvalTo d fi e σ₁ (.nat n) σ₂) (hk : σ₂.heap[k]? = some (.list xs)) (hn : n ≤ xs.length) (hlen : xs.length ≤ 2 ^ 20) :
    EvalTo d fi (.Subscript vE (.Slice none (some e) none sp) pos) σ (.ref σ₂.heap.length) ⟨σ₂.loc, σ₂.heap ++ [.list (xs.take n)]⟩ := ⟨fun C ρ s Q S hQ => by
  with_reducible refine Subscript_ ?_
  refine h1.run C ρ s _ S fun τ u s₁ m₁ S₁ hu => ?_
  with_reducible refine wpAny_Slice ?_
  with_reducible refine evalPart_none_step ?_
  with_reducible refine evalPart_some_step ?_
  refine h2.run C _ s₁ _ S₁ fun τ₂ w s₂ m₂ S₂ hw => ?_
  with_reducible refine evalPart_none_step ?_
  obtain ⟨t, rfl⟩ := hw
  refine sliceCore S₂ hk hu.mono .none (.int n t) hlen (zs := xs.take n) (fun vs hv => ?_) fun τ₃ u' s' m' S' hu' => hQ (τ ++ (τ₂ ++ τ₃)) _ _ (m₁.trans (m₂.trans m')) (SR_as (SR_as S')) (VR_as (VR_as hu'))
  have e := hv.length
  rw [slicePick_upto vs n (by simp at e; omega)]
  simpa using hv.take⟩

theorem EvalTo.sliceAll {vE : Expr} {sp : Pos} {k : Nat} {xs : List V} (h1 : EvalTo d fi vE σ (.ref k) σ₁) (hk : σ₁.heap[k]? = some (.list xs)) (hlen : xs.length ≤ 2 ^ 20) :
    EvalTo d fi (.Subscript vE (.Slice none none none sp) pos) σ (.ref σ₁.heap.length) ⟨σ₁.loc, σ₁.heap ++ [.list xs]⟩ := ⟨fun C ρ s Q S hQ => by
  with_reducible refine Subscript_ ?_
  refine h1.run C ρ s _ S fun τ u s₁ m₁ S₁ hu => ?_
  with_reducible refine wpAny_Slice ?_
  with_reducible refine evalPart_none_step ?_
  with_reducible refine evalPart_none_step ?_
  with_reducible refine evalPart_none_step ?_
  refine sliceCore S₁ hk hu .none .none hlen (zs := xs) (fun vs hv => ?_) fun τ₃ u' s' m' S' hu' => hQ (τ ++ τ₃) _ _ (m₁.trans m') (SR_as S') (VR_as hu')
  rw [slicePick_all]
  exact hv⟩

theorem EvalTo.sliceRun {vE e f : Expr} {sp : Pos} {k a b : Nat} {xs : List V} (h1 : EvalTo d fi vE σ (.ref k) σ₁) (h2 : EvalTo d fi e σ₁ (.nat a) σ₂) (h3 : EvalTo d fi f σ₂ (.nat b) σ₃) (hk : σ₃.heap[k]? = some (.list xs))
    (hab : a ≤ b) (hb : b ≤ xs.length) (hlen : xs.length ≤ 2 ^ 20) :
    EvalTo d fi (.Subscript vE (.Slice (some e) (some f) none sp) pos) σ (.ref σ₃.heap.length) ⟨σ₃.loc, σ₃.heap ++ [.list ((xs.drop a).take (b - a))]⟩ := ⟨fun C ρ s Q S hQ => by
  with_reducible refine Subscript_ ?_
  refine h1.run C ρ s _ S fun τ u s₁ m₁ S₁ hu => ?_
  with_reducible refine wpAny_Slice ?_
  with_reducible refine evalPart_some_step ?_
  refine h2.run C _ s₁ _ S₁ fun τ₂ w s₂ m₂ S₂ hw => ?_
  with_reducible refine evalPart_some_step ?_
  refine h3.run C _ s₂ _ S₂ fun τ₃ w' s₃ m₃ S₃ hw' => ?_
  with_reducible refine evalPart_none_step ?_
  obtain ⟨t, rfl⟩ := hw
  obtain ⟨t', rfl⟩ := hw'
  refine sliceCore S₃ hk hu.mono.mono (.int a t) (.int b t') hlen (zs := (xs.drop a).take (b - a)) (fun vs hv => ?_) fun τ₄ u' s' m' S' hu' => hQ (τ ++ (τ₂ ++ (τ₃ ++ τ₄))) _ _ (m₁.trans (m₂.trans (m₃.trans m'))) (SR_as (SR_as (SR_as S'))) (VR_as (VR_as (VR_as hu')))
  have e := hv.length
  rw [slicePick_run vs a b (by simp at e; omega) hab]
  simpa using hv.drop.take⟩

/-! ## comparisons of objects -/
theorem nats_ints (ns : List Nat) : ns.map V.nat = (ns.map (fun n : Nat => (n : Int))).map V.int := by simp
theorem nats_inj {ns ms : List Nat} : (ns.map (fun n : Nat => (n : Int)) = ms.map (fun n : Nat => (n : Int))) ↔ ns = ms := by
  constructor
  · intro h
    induction ns generalizing ms with
    | nil => cases ms with
      | nil => rfl
      | cons => simp at h
    | cons a r ih => cases ms with
      | nil => simp at h
      | cons b t => simp only [List.map_cons, List.cons.injEq] at h; rw [ih h.2, Int.ofNat.inj h.1]
  · rintro rfl; rfl

theorem units_room {C : RC d fi} : C.A.units + 64 < cLine := by
  have := C.hu
  show C.un + 64 < cLine
  omega

theorem eqLists {C : RC d fi} {ρ : List Addr} {s : Shared} {a b : Addr} {vs us : Array Value} {n n' : Nat} {ns ms : List Nat} {Q : Value → Shared → Prop} (ha : s.heap.get? a = some (listOf vs n)) (hb : s.heap.get? b = some (listOf us n'))
    (hv : VRs ρ (ns.map V.nat) vs.toList) (hu : VRs ρ (ms.map V.nat) us.toList) (hQ : Q (.bool (decide (ns = ms))) s) : wpAny C.M C.A (compareOp .Eq (.ref a) (.ref b)) Q NoE s := by
  rw [nats_ints] at hv hu
  have l1 : s.heap.IsList a vs.toList.toArray := ⟨_, ha, rfl, n, by simp⟩
  have l2 : s.heap.IsList b us.toList.toArray := ⟨_, hb, rfl, n', by simp⟩
  with_reducible refine eq_intsK l1 hv.intsAre l2 hu.intsAre units_room ?_
  rwa [decide_cast nats_inj]
theorem neLists {C : RC d fi} {ρ : List Addr} {s : Shared} {a b : Addr} {vs us : Array Value} {n n' : Nat} {ns ms : List Nat} {Q : Value → Shared → Prop} (ha : s.heap.get? a = some (listOf vs n)) (hb : s.heap.get? b = some (listOf us n'))
    (hv : VRs ρ (ns.map V.nat) vs.toList) (hu : VRs ρ (ms.map V.nat) us.toList) (hQ : Q (.bool (!decide (ns = ms))) s) : wpAny C.M C.A (compareOp .NotEq (.ref a) (.ref b)) Q NoE s := by
  rw [nats_ints] at hv hu
  have l1 : s.heap.IsList a vs.toList.toArray := ⟨_, ha, rfl, n, by simp⟩
  have l2 : s.heap.IsList b us.toList.toArray := ⟨_, hb, rfl, n', by simp⟩
  with_reducible refine ne_intsK l1 hv.intsAre l2 hu.intsAre units_room ?_
  rwa [decide_cast nats_inj]

/-- a list against a written one -/
theorem TestTo.eqLit {l : Expr} {es : List Expr} {lp : Pos} {k : Nat} {ns ms : List Nat} (h1 : EvalTo d fi l σ (.ref k) σ₁) (h2 : EvalsTo d fi es σ₁ (ms.map V.nat) σ₂) (hk : σ₂.heap[k]? = some (.nats ns)) (hm : ms.length ≤ 2 ^ 20) :
    TestTo d fi (.Compare l [.Eq] [.List es lp] pos) σ (decide (ns = ms)) σ₂ := ⟨fun C ρ s Q S hQ => by
  with_reducible refine wpAny_isTrue_Compare1 ?_ rfl
  refine h1.run C ρ s _ S fun τ u s₁ m₁ S₁ hu => ?_
  refine listTemp h2 (by simpa using hm) C _ s₁ _ S₁ fun τ₂ b us s₂ m₂ S₂ hus => ?_
  obtain ⟨a, vs, n, ha, hg, hvs⟩ := SR_list S₂ hk
  rw [ref_eq hu.mono ha]
  have hb := SR_mem S₂ (p := (b, listOf us.toArray 0)) (List.mem_append_left _ (.head _))
  refine eqLists hg hb hvs (VRs_toList hus) ?_
  with_reducible refine wpAny_truthy_bool ?_
  exact hQ (τ ++ τ₂) _ (m₁.trans m₂) (SR_as (SR_unwth S₂))⟩

theorem EvalTo.eqRef {l r : Expr} {k j : Nat} {ns ms : List Nat} (h1 : EvalTo d fi l σ (.ref k) σ₁) (h2 : EvalTo d fi r σ₁ (.ref j) σ₂) (hk : σ₂.heap[k]? = some (.nats ns)) (hj : σ₂.heap[j]? = some (.nats ms)) (hm : behindInMarks .Eq r = false) :
    EvalTo d fi (.Compare l [.Eq] [r] pos) σ (.bool (decide (ns = ms))) σ₂ := ⟨fun C ρ s Q S hQ => by
  with_reducible refine wpAny_Compare1 ?_ hm
  refine h1.run C ρ s _ S fun τ u s₁ m₁ S₁ hu => ?_
  refine h2.run C _ s₁ _ S₁ fun τ₂ w s₂ m₂ S₂ hw => ?_
  obtain ⟨a, vs, n, ha, hg, hvs⟩ := SR_list S₂ hk
  obtain ⟨b, us, n', hb, hg', hus⟩ := SR_list S₂ hj
  rw [ref_eq hu.mono ha, ref_eq hw hb]
  refine eqLists hg hg' hvs hus ?_
  exact hQ (τ ++ τ₂) _ _ (m₁.trans m₂) (SR_as S₂) rfl⟩
theorem TestTo.neRef {l r : Expr} {k j : Nat} {ns ms : List Nat} (h1 : EvalTo d fi l σ (.ref k) σ₁) (h2 : EvalTo d fi r σ₁ (.ref j) σ₂) (hk : σ₂.heap[k]? = some (.nats ns)) (hj : σ₂.heap[j]? = some (.nats ms)) (hm : behindInMarks .NotEq r = false) :
    TestTo d fi (.Compare l [.NotEq] [r] pos) σ (!decide (ns = ms)) σ₂ := ⟨fun C ρ s Q S hQ => by
  with_reducible refine wpAny_isTrue_Compare1 ?_ hm
  refine h1.run C ρ s _ S fun τ u s₁ m₁ S₁ hu => ?_
  refine h2.run C _ s₁ _ S₁ fun τ₂ w s₂ m₂ S₂ hw => ?_
  obtain ⟨a, vs, n, ha, hg, hvs⟩ := SR_list S₂ hk
  obtain ⟨b, us, n', hb, hg', hus⟩ := SR_list S₂ hj
  rw [ref_eq hu.mono ha, ref_eq hw hb]
  refine neLists hg hg' hvs hus ?_
  with_reducible refine wpAny_truthy_bool ?_
  exact hQ (τ ++ τ₂) _ (m₁.trans m₂) (SR_as S₂)⟩

noncomputable def V.isNone : V → Bool
  | .none => true
  | _ => false
theorem VR_none {ρ : List Addr} {v : V} {u : Value} (h : VR ρ v u) (hv : ∀ x, v ≠ .val x) : (u == Value.none) = v.isNone := by
  cases v with
  | undef => exact h.elim
  | none => cases h; rfl
  | bool b => cases h; rfl
  | int i => obtain ⟨t, rfl⟩ := h; rfl
  | ref k => obtain ⟨a, _, rfl⟩ := h; rfl
  | val x => exact absurd rfl (hv x)
theorem TestTo.isNone {l : Expr} {p : Pos} {c : Nat} {v : V} (h1 : EvalTo d fi l σ v σ₁) (hv : ∀ x, v ≠ .val x) : TestTo d fi (.Compare l [.Is] [.Constant .none c p] pos) σ v.isNone σ₁ := ⟨fun C ρ s Q S hQ => by
  with_reducible refine wpAny_isTrue_Compare1 ?_ rfl
  refine h1.run C ρ s _ S fun τ u s₁ m₁ S₁ hu => ?_
  with_reducible refine Constant_none ?_
  with_reducible refine is_none ?_
  with_reducible refine wpAny_truthy_bool ?_
  rw [VR_none hu hv]
  exact hQ τ _ m₁ S₁⟩
theorem TestTo.isNotNone {l : Expr} {p : Pos} {c : Nat} {v : V} (h1 : EvalTo d fi l σ v σ₁) (hv : ∀ x, v ≠ .val x) : TestTo d fi (.Compare l [.IsNot] [.Constant .none c p] pos) σ (!v.isNone) σ₁ := ⟨fun C ρ s Q S hQ => by
  with_reducible refine wpAny_isTrue_Compare1 ?_ rfl
  refine h1.run C ρ s _ S fun τ u s₁ m₁ S₁ hu => ?_
  with_reducible refine Constant_none ?_
  with_reducible refine isNot_none ?_
  with_reducible refine wpAny_truthy_bool ?_
  rw [VR_none hu hv]
  exact hQ τ _ m₁ S₁⟩

theorem TestTo.inTuple {l : Expr} {es : List Expr} {tp : Pos} {c : Nat} {i : Int} {ns : List Int} (h1 : EvalTo d fi l σ (.int i) σ₁) (h2 : EvalsTo d fi es σ₁ (ns.map V.int) σ₂) (hm : behindInMarks .In (.Tuple es c tp) = false) (hlen : ns.length ≤ 2 ^ 20) :
    TestTo d fi (.Compare l [.In] [.Tuple es c tp] pos) σ (ns.any (· == i)) σ₂ := ⟨fun C ρ s Q S hQ => by
  with_reducible refine wpAny_isTrue_Compare1 ?_ hm
  refine h1.run C ρ s _ S fun τ u s₁ m₁ S₁ hu => ?_
  refine tupleTemp h2 (by simpa using hlen) C _ s₁ _ S₁ fun τ₂ b us s₂ m₂ S₂ hus => ?_
  obtain ⟨t, rfl⟩ := hu
  have hb := SR_mem S₂ (p := (b, ({ cls := .type "tuple", data := .seq us.toArray } : Obj))) (List.mem_append_left _ (.head _))
  have hT : IsTup s₂.heap b us.toArray := ⟨_, hb, rfl, _, rfl⟩
  have hI : IntsAre us.toArray.toList ns := by simpa using hus.intsAre
  with_reducible refine in_tuple_ints hT hI ?_
  with_reducible refine wpAny_truthy_bool ?_
  exact hQ (τ ++ τ₂) _ (m₁.trans m₂) (SR_as (SR_unwth S₂))⟩
end
end Mine

namespace Mine
/-! L7 -/
open PySem PySem.W PyProof.Rows PySem.Spec PySem.Calls
set_option maxRecDepth 100000
section
variable {d : Nat} {fi : FI} {σ σ₁ σ₂ σ₃ : St} {pos : Pos}

theorem EvalTo.glo (ok : fi.Ok) {x : Str} {v : Value} {i j : Nat} (hi : AtN fi.gl i x) (hj : AtN globT j (x, v)) : EvalTo d fi (.Name x pos) σ (.val v) σ := ⟨fun C ρ s Q S hQ => by
  obtain ⟨m, news, F, N, R, nd, l⟩ := S.ex
  have h2 := ok.glo x hi.mem
  exact nameX_K F C.X (topRead_of C.T) (globT_ok C.w _ hj.mem) (hQ [] _ _ (Same.refl s) (SR_refl S) rfl) ok.kind h2.1 h2.2⟩
theorem EvalTo.blt (ok : fi.Ok) {x : Str} {v : Value} {i j : Nat} (hi : AtN fi.gl i x) (hj : AtN builtT j (x, v)) : EvalTo d fi (.Name x pos) σ (.val v) σ := ⟨fun C ρ s Q S hQ => by
  obtain ⟨m, news, F, N, R, nd, l⟩ := S.ex
  have h2 := ok.glo x hi.mem
  obtain ⟨b1, b2, b3⟩ := builtT_ok C.w _ hj.mem
  exact nameX_B F C.X (topRead_of C.T) b1 b2 b3 (hQ [] _ _ (Same.refl s) (SR_refl S) rfl) ok.kind h2.1 h2.2⟩

theorem call_Name_eq (x : Str) (p : Pos) (args : List Expr) (pos : Pos) (env : Env) : eval (.Call (.Name x p) args [] pos) env = (do
    let f ← eval (.Name x p) env
    callWith pos f [] (backTo pos (starEach args env)) (backToKw pos (keywordEach [] env))) := rfl

/-- a built-in of the machine, called by its name upon plain arguments -/
theorem callBuilt {x : Str} {p : Pos} {e : Expr} {rest : List Expr} {id : String} {vs : List V} (h1 : EvalTo d fi (.Name x p) σ (.val (.builtin id)) σ₁) (h2 : EvalsTo d fi (e :: rest) σ₁ vs σ₂) (hs : ∀ env, starEach (e :: rest) env = (false, eval e env) :: starEach rest env)
    (hp : ∀ env, (backTo pos (starEach rest env)).any (·.1) = false) (C : RC d fi) (ρ : List Addr) (s : Shared) (Q : Value → Shared → Prop) (S : C.SR σ ρ s.heap)
    (hQ : ∀ τ us s', Same s s' → C.SR σ₂ (ρ ++ τ) s'.heap → VRs (ρ ++ τ) vs us → wpAny C.M C.A (call (.builtin id) us) Q NoE s') : wpAny C.M C.A (eval (.Call (.Name x p) (e :: rest) [] pos) C.env) Q NoE s := by
  with_reducible refine Call_ ?_ (call_Name_eq _ _ _ _ _)
  refine h1.run C ρ s _ S fun τ u s₁ m₁ S₁ hu => ?_
  cases hu
  with_reducible refine PyProof.Rows.callWith_builtin1 ?_ (hs _) (hp _)
  refine h2.run C pos _ s₁ _ S₁ fun τ₂ us s₂ m₂ S₂ hus => ?_
  exact hQ (τ ++ τ₂) _ _ (m₁.trans m₂) (SR_as S₂) (VRs_as hus)

theorem EvalTo.len {x : Str} {p : Pos} {e : Expr} {k : Nat} {xs : List V} (h1 : EvalTo d fi (.Name x p) σ (.val (.builtin "len")) σ) (h2 : EvalTo d fi e σ (.ref k) σ₂) (hk : σ₂.heap[k]? = some (.list xs)) (hn : xs.length ≤ 2 ^ 20) (hs : ∀ env, starEach [e] env = (false, eval e env) :: starEach [] env) :
    EvalTo d fi (.Call (.Name x p) [e] [] pos) σ (.nat xs.length) σ₂ := ⟨fun C ρ s Q S hQ => by
  refine callBuilt h1 (.cons h2 .nil hs) hs (fun _ => rfl) C ρ s Q S fun τ us s₂ m₂ S₂ hus => ?_
  obtain ⟨u, rfl⟩ : ∃ u, us = [u] := len1 hus.length
  obtain ⟨a, vs, n, ha, hg, hvs⟩ := SR_list S₂ hk
  rw [ref_eq hus.1 ha]
  have e1 : vs.size = xs.length := by rw [hvs.length]; simp
  have hl : s₂.heap.IsList a vs := ⟨_, hg, rfl, n, rfl⟩
  with_reducible refine Calls.call_len_list hl (by omega) ?_
  exact hQ τ _ _ (m₂.trans Same.tok) S₂ ⟨s₂.toks + 1, by rw [e1]⟩⟩

theorem EvalTo.max2 {x : Str} {p : Pos} {e f : Expr} {a b : Int} (h1 : EvalTo d fi (.Name x p) σ (.val (.builtin "max")) σ) (h2 : EvalTo d fi e σ (.int a) σ₁) (h3 : EvalTo d fi f σ₁ (.int b) σ₂) (hs : ∀ env, starEach [e, f] env = (false, eval e env) :: starEach [f] env) (hs' : ∀ env, starEach [f] env = (false, eval f env) :: starEach [] env) :
    EvalTo d fi (.Call (.Name x p) [e, f] [] pos) σ (.int (if b > a then b else a)) σ₂ := ⟨fun C ρ s Q S hQ => by
  refine callBuilt h1 (.cons h2 (.cons h3 .nil hs') hs) hs (fun env => by rw [hs']; rfl) C ρ s Q S fun τ us s₂ m₂ S₂ hus => ?_
  obtain ⟨u, v, rfl⟩ : ∃ u v, us = [u, v] := len2 hus.length
  obtain ⟨⟨t, rfl⟩, ⟨t', rfl⟩, _⟩ := hus
  have hh : C.A.handled = none := rfl
  with_reducible refine max_two_ints hh fun h' tk hk => ?_
  refine hQ τ _ _ (m₂.trans ⟨_, _, rfl⟩) (SR_keeps S₂ hk) ?_
  by_cases h : b > a
  · rw [if_pos h, if_pos h]; exact ⟨_, rfl⟩
  · rw [if_neg h, if_neg h]; exact ⟨_, rfl⟩⟩
theorem EvalTo.min2 {x : Str} {p : Pos} {e f : Expr} {a b : Nat} (h1 : EvalTo d fi (.Name x p) σ (.val (.builtin "min")) σ) (h2 : EvalTo d fi e σ (.nat a) σ₁) (h3 : EvalTo d fi f σ₁ (.nat b) σ₂) (hs : ∀ env, starEach [e, f] env = (false, eval e env) :: starEach [f] env) (hs' : ∀ env, starEach [f] env = (false, eval f env) :: starEach [] env) :
    EvalTo d fi (.Call (.Name x p) [e, f] [] pos) σ (.nat (min a b)) σ₂ := ⟨fun C ρ s Q S hQ => by
  refine callBuilt h1 (.cons h2 (.cons h3 .nil hs') hs) hs (fun env => by rw [hs']; rfl) C ρ s Q S fun τ us s₂ m₂ S₂ hus => ?_
  obtain ⟨u, v, rfl⟩ : ∃ u v, us = [u, v] := len2 hus.length
  obtain ⟨⟨t, rfl⟩, ⟨t', rfl⟩, _⟩ := hus
  have hh : C.A.handled = none := rfl
  with_reducible refine min_two_ints hh fun h' tk hk => ?_
  refine hQ τ _ _ (m₂.trans ⟨_, _, rfl⟩) (SR_keeps S₂ hk) ?_
  by_cases h : (b : Int) < a
  · rw [if_pos h]; exact ⟨_, by congr 2; omega⟩
  · rw [if_neg h]; exact ⟨_, by congr 2; omega⟩⟩

noncomputable def bitLen (n : Nat) : Nat := if n = 0 then 0 else n.log2 + 1
theorem intBits_nat (n : Nat) : Builtin.Int.intBits (n : Int) = bitLen n := by
  unfold Builtin.Int.intBits bitLen
  by_cases h : n = 0
  · subst h; rfl
  · rw [if_neg h, if_neg (by simp; omega)]; simp

theorem method_eq0 (o : Expr) (name : Str) (apos pos : Pos) (env : Env) (h : eval (.Call (.Attribute o name apos) [] [] pos) env = (do
    let ov ← eval o env
    standAt apos.atName
    let (f, first) ← holding [ov] (getMethod ov name (pure false))
    callWith pos f first (backTo pos (starEach [] env)) [])) : True := trivial

/-- (e).bit_length() of a natural -/
theorem EvalTo.bitLen {e : Expr} {ap : Pos} {n : Nat} (h1 : EvalTo d fi e σ (.nat n) σ₁) (pl : Env → Sem Bool) (he : ∀ env, eval (.Call (.Attribute e "bit_length" ap) [] [] pos) env = (do
    let ov ← eval e env
    standAt ap.atName
    let __x ← holding [ov] (getMethod ov "bit_length" (pl env))
    match __x with
      | (f, first) => callWith pos f first (backTo pos (starEach [] env)) [])) :
    EvalTo d fi (.Call (.Attribute e "bit_length" ap) [] [] pos) σ (.nat (Mine.bitLen n)) σ₁ := ⟨fun C ρ s Q S hQ => by
  with_reducible refine MethodCall_ ?_ (he _)
  refine h1.run C ρ s _ S fun τ u s₁ m₁ S₁ hu => ?_
  obtain ⟨t, rfl⟩ := hu
  with_reducible refine getMethod_int_bit_length ?_
  with_reducible refine callWith_method0 ?_
  with_reducible refine call_int_bit_length ?_
  exact hQ τ _ _ (m₁.trans Same.tok) S₁ ⟨_, by rw [intBits_nat]⟩⟩
end
end Mine

namespace Mine
/-! L8 -/
open PySem PySem.W PyProof.Rows PySem.Spec PySem.Calls
set_option maxRecDepth 100000

noncomputable abbrev fnAddrs : List Addr := [58, 65, 72, 79, 86, 93, 100, 107, 114, 121, 128, 135, 142, 149, 156, 163, 168, 175, 182, 189, 196, 203, 210, 217, 224, 231, 238, 245, 252, 259, 266]
theorem keeps_ok (w : World) : ∀ a ∈ fnAddrs, keepIn (KK w) (.ref a) = true := by
  have h : ∀ P : Params, (fnAddrs.all fun a => keepIn (heapK P) (.ref a)) = true := fun P => by
    kernel_rfl
  exact fun a ha => List.all_eq_true.mp (h w.params) a ha

/-- the def at its place: what the written heap says of it -/
structure FI.At (fi : FI) (n : Nat) : Prop where
  at_ : ∀ P : Params, ∃ oc od osl dV kV doc pm an ct, (heapK P).lookup fi.addr = some ⟨oc, od, .func (fnOf fi.name fi.name fi.params fi.body fi.scope dV kV doc pm an (.ref fi.code) ct), osl⟩ ∧
    ∀ vs : List Value, vs.length = n → bindArgs (fnOf fi.name fi.name fi.params fi.body fi.scope dV kV doc pm an (.ref fi.code) ct) ⟨vs, []⟩ = pure ((fi.names.take n).zip vs)
  code : ∀ P : Params, codeIn (heapK P) (.ref fi.code) fi.name = true
structure FI.Look (fi : FI) (n : Nat) : Prop extends FI.At fi n where
  nocell : ∀ x ∈ fi.scope.names, x.2 ≠ .cell
  nocl : ([], []) = (fi.cells, ([] : List (Str × Addr)))

theorem lookup_zip_rev {ks : List Str} {vs : List Value} (hn : ks.Nodup) : ∀ {i : Nat} {x : Str} {v : Value}, ks[i]? = some x → vs[i]? = some v → List.lookup x (ks.zip vs).reverse = some v := by
  intro i x v hi hv
  have hz : (ks.zip vs)[i]? = some (x, v) := by rw [List.getElem?_zip_eq_some]; exact ⟨hi, hv⟩
  have hm : (x, v) ∈ (ks.zip vs).reverse := List.mem_reverse.mpr (List.mem_of_getElem? hz)
  have uniq : ∀ u, (x, u) ∈ (ks.zip vs).reverse → u = v := by
    intro u hu
    obtain ⟨j, hj⟩ := List.mem_iff_getElem?.mp (List.mem_reverse.mp hu)
    rw [List.getElem?_zip_eq_some] at hj
    obtain ⟨h1, h1'⟩ := List.getElem?_eq_some_iff.mp hi
    obtain ⟨h2, h2'⟩ := List.getElem?_eq_some_iff.mp hj.1
    have : i = j := (List.getElem_inj hn).mp (h1'.trans h2'.symm)
    subst this
    rw [hv] at hj
    exact (Option.some.inj hj.2).symm
  clear hz hi hv
  generalize (ks.zip vs).reverse = l at hm uniq ⊢
  induction l with
  | nil => cases hm
  | cons p r ih =>
    obtain ⟨y, u⟩ := p
    rw [List.lookup_cons]
    by_cases hxy : x = y
    · subst hxy
      simp only [beq_self_eq_true]
      rw [uniq u (.head _)]
    · have : (x == y) = false := beq_false_of_ne hxy
      rw [this]
      refine ih ?_ fun u hu => uniq u (.tail _ hu)
      rcases List.mem_cons.mp hm with e | e
      · cases e; exact absurd rfl hxy
      · exact e

theorem LR_start {ρ : List Addr} {names : List Str} {n : Nat} {args : List V} {vs : List Value} (hn : names.Nodup) (hlen : args.length = n) (hle : n ≤ names.length) (hv : VRs ρ args vs) :
    LR ρ names [] [] (args ++ List.replicate (names.length - n) .undef) (fun y => List.lookup y ((names.take n).zip vs).reverse) := by
  refine ⟨trivial, by simp; omega, fun {i x v} hi hx => ?_⟩
  by_cases h : i < args.length
  · rw [List.getElem?_append_left h] at hx
    obtain ⟨u, hu, hr⟩ := hv.get hx
    have : (names.take n)[i]? = some x := by rw [List.getElem?_take_of_lt (by omega)]; exact hi
    show VRo ρ v (List.lookup x ((names.take n).zip vs).reverse)
    rw [lookup_zip_rev (hn.sublist (List.take_sublist _ _)) this hu]
    exact VRo.of hr
  · rw [List.getElem?_append_right (by omega)] at hx
    have := List.mem_of_getElem? hx
    rw [List.mem_replicate] at this
    rw [this.2]
    trivial

theorem LR_nocl {ρ : List Addr} {names : List Str} {cells : List (Str × Nat)} {loc : List V} {m : Str → Option Value} (e : ([], []) = (cells, ([] : List (Str × Addr)))) (h : LR ρ names [] [] loc m) : LR ρ names cells [] loc m := by
  cases e; exact h
/-- a def's contract out of its body -/
theorem CallTo.of_body {d n : Nat} {fi : FI} {args : List V} {H H' : List O} {v : V} {loc' : List V} (ok : fi.Ok) (lk : fi.Look n) (hlen : args.length = n) (hle : n ≤ fi.names.length)
    (h : ExecsTo d fi fi.body ⟨args ++ List.replicate (fi.names.length - n) .undef, H⟩ (.ret v) ⟨loc', H'⟩) : CallTo (d + 1) (.val (.ref fi.addr)) args H v H' := ⟨by
  intro w p loose mean mg mb A₀ base h₀ outer dp un gd cn cs L a ccd cl m news extra ρ s fv vs Q B F X N T hk R nd hd hu hf hvs hQ
  cases hf
  obtain ⟨oc, od, osl, dV, kV, doc, pm, an, ct, hlook, hbind⟩ := lk.at_ w.params
  refine wpAny_call ?_
  refine code_def (A := ktrTop dp un gd cn cs L a ccd cl outer) B F X N T rfl rfl hk hlook (lk.code _) (show dp < recursionLimit by omega) (BindsTo.of_eq (hbind vs (by rw [← hvs.length, hlen]))) ?_ ?_ ok.noco ok.nogen ok.kind lk.nocell
  · intro y hy
    exact (ok.loc y.1 (List.mem_of_mem_take (List.of_mem_zip hy).1)).1
  · intro g L' h₁ F₀ F₁ N₁ B₁ X₁ T₁
    let C' : RC d fi := ⟨w, p, loose, mean, mg, mb, _, base, envX cn cs L a ccd cl :: outer, dp + 1, un + 3, gd, L', g, extra, [], B₁, X₁, T₁, by omega, by omega⟩
    have S : C'.SR ⟨args ++ List.replicate (fi.names.length - n) .undef, H⟩ ρ h₁ := ⟨_, news, F₁, N₁, R, nd, LR_nocl lk.nocl (LR_start ok.nd hlen hle hvs)⟩
    refine wpAny_mono (h.run C' ρ { s with heap := h₁, toks := s.toks + ((fi.names.take n).zip vs).length } (fun fl s' => LeaveK h₀ L m g _ (match fl with | .ret v => v | _ => .none) s') S fun τ fl s' m' S' hfl => ?_) (fun _ _ x => x) fun _ _ x => x.elim
    obtain ⟨u, rfl, hu'⟩ := hfl
    obtain ⟨m₂, news₂, F₂, N₂, R₂, nd₂, l₂⟩ := S'.ex
    have hs : Same s s' := by obtain ⟨h, tk, rfl⟩ := m'; exact ⟨h, tk, rfl⟩
    exact leaveK_ F₂ N₂ fun kF kN => hQ τ u s' news₂ hs kF kN R₂ nd₂ hu'⟩

section
variable {d : Nat} {fi : FI} {σ σ₁ σ₂ σ₃ : St} {pos : Pos}

/-- a def of the text called by a name (its own, or a parameter that holds it) -/
theorem EvalTo.call (ok : fi.Ok) {x : Str} {p : Pos} {e : Expr} {rest : List Expr} {f : Addr} {vs : List V} {v : V} {H' : List O} (h1 : EvalTo d fi (.Name x p) σ (.val (.ref f)) σ) (hf : f ∈ fnAddrs) (h2 : EvalsTo d fi (e :: rest) σ vs σ₂)
    (hs : ∀ env, starEach (e :: rest) env = (false, eval e env) :: starEach rest env) (hp : ∀ env, (backTo pos (starEach rest env)).any (·.1) = false) (hc : CallTo d (.val (.ref f)) vs σ₂.heap v H') :
    EvalTo d fi (.Call (.Name x p) (e :: rest) [] pos) σ v ⟨σ₂.loc, H'⟩ := ⟨fun C ρ s Q S hQ => by
  with_reducible refine Call_ ?_ (call_Name_eq _ _ _ _ _)
  refine h1.run C ρ s _ S fun τ u s₁ m₁ S₁ hu => ?_
  cases hu
  with_reducible refine callWith_K C.X (keeps_ok C.w f hf) ?_ (hs _) (hp _)
  refine h2.run C pos _ s₁ _ S₁ fun τ₂ us s₂ m₂ S₂ hus => ?_
  obtain ⟨m, news, F, N, R, nd, l⟩ := S₂.ex
  refine ⟨C.X.keeps F.keep, ?_⟩
  rw [List.nil_append]
  refine hc.run C.w C.p C.loose C.mean C.mg C.mb C.A₀ C.base C.h₀ C.outer C.dp C.un C.gd fi.name fi.scope C.L fi.addr (.ref fi.code) C.cl m news C.extra _ s₂ _ us Q C.B F C.X N C.T ok.kind R nd C.hd C.hu rfl hus fun τ₃ u s' news' hs' F' N' R' nd' hu' => ?_
  exact hQ (τ ++ (τ₂ ++ τ₃)) u s' (m₁.trans (m₂.trans hs')) (SR_as (SR_as ⟨m, news', F', N', R', nd', l.mono⟩)) (VR_as (VR_as hu'))⟩
end
end Mine

namespace Mine
/-! L9 -/
open PySem PySem.W PyProof.Rows PySem.Spec PySem.Calls
set_option maxRecDepth 100000
section
variable {d : Nat} {fi : FI} {σ σ₁ σ₂ σ₃ σ' : St} {pos : Pos}

theorem FR_as {ρ τ τ' : List Addr} {f : Fl} {g : Flow} (h : FR (ρ ++ τ ++ τ') f g) : FR (ρ ++ (τ ++ τ')) f g := by rwa [← List.append_assoc]

theorem ExecsTo.nil : ExecsTo d fi [] σ .next σ := ⟨fun C ρ s Q S hQ => wpAny_execs_nil (hQ [] _ _ (Same.refl s) (SR_refl S) rfl)⟩
theorem ExecsTo.cons {st : Stmt} {rest : List Stmt} {f : Fl} (h1 : ExecTo d fi st σ .next σ₁) (h2 : ExecsTo d fi rest σ₁ f σ₂) : ExecsTo d fi (st :: rest) σ f σ₂ := ⟨fun C ρ s Q S hQ => by
  with_reducible refine wpAny_execs_cons ?_
  refine h1.run C ρ s _ S fun τ g s₁ m₁ S₁ hg => ?_
  cases hg
  exact h2.run C _ s₁ _ S₁ fun τ₂ g s₂ m₂ S₂ hg => hQ (τ ++ τ₂) _ _ (m₁.trans m₂) (SR_as S₂) (FR_as hg)⟩
theorem ExecsTo.stop {st : Stmt} {rest : List Stmt} {f : Fl} (h1 : ExecTo d fi st σ f σ₁) (hf : f ≠ .next) : ExecsTo d fi (st :: rest) σ f σ₁ := ⟨fun C ρ s Q S hQ => by
  with_reducible refine wpAny_execs_cons ?_
  refine h1.run C ρ s _ S fun τ g s₁ m₁ S₁ hg => ?_
  cases f with
  | next => exact absurd rfl hf
  | cont => cases hg; exact hQ τ _ _ m₁ S₁ rfl
  | ret v => obtain ⟨u, rfl, hu⟩ := hg; exact hQ τ _ _ m₁ S₁ ⟨u, rfl, hu⟩⟩

theorem ExecTo.ret {e : Expr} {v : V} (h : EvalTo d fi e σ v σ₁) : ExecTo d fi (.Return (some e) pos) σ (.ret v) σ₁ := ⟨fun C ρ s Q S hQ => by
  with_reducible refine wpAny_Return_some ?_
  exact h.run C ρ s _ S fun τ u s₁ m₁ S₁ hu => hQ τ _ _ m₁ S₁ ⟨u, rfl, hu⟩⟩
theorem ExecTo.cont : ExecTo d fi (.Continue pos) σ .cont σ := ⟨fun C ρ s Q S hQ => wpAny_Continue (hQ [] _ _ (Same.refl s) (SR_refl S) rfl)⟩

theorem ExecTo.ifT {test : Expr} {body orelse : List Stmt} {b : Bool} {f : Fl} (h1 : TestTo d fi test σ b σ₁) (e : b = true) (h2 : ExecsTo d fi body σ₁ f σ₂) : ExecTo d fi (.If test body orelse pos) σ f σ₂ := ⟨fun C ρ s Q S hQ => by
  subst e
  with_reducible refine wpAny_If ?_
  refine h1.run C ρ s _ S fun τ s₁ m₁ S₁ => ?_
  rw [if_pos rfl]
  exact h2.run C _ s₁ _ S₁ fun τ₂ g s₂ m₂ S₂ hg => hQ (τ ++ τ₂) _ _ (m₁.trans m₂) (SR_as S₂) (FR_as hg)⟩
theorem ExecTo.ifF {test : Expr} {body orelse : List Stmt} {b : Bool} {f : Fl} (h1 : TestTo d fi test σ b σ₁) (e : b = false) (h2 : ExecsTo d fi orelse σ₁ f σ₂) : ExecTo d fi (.If test body orelse pos) σ f σ₂ := ⟨fun C ρ s Q S hQ => by
  subst e
  with_reducible refine wpAny_If ?_
  refine h1.run C ρ s _ S fun τ s₁ m₁ S₁ => ?_
  rw [if_neg (by decide)]
  exact h2.run C _ s₁ _ S₁ fun τ₂ g s₂ m₂ S₂ hg => hQ (τ ++ τ₂) _ _ (m₁.trans m₂) (SR_as S₂) (FR_as hg)⟩

theorem ExecTo.assign (ok : fi.Ok) {x : Str} {p : Pos} {e : Expr} {i : Nat} {v : V} (hi : AtN fi.names i x) (h : EvalTo d fi e σ v σ₁) (hs : ∀ env, swapsWith e (some (.Name x p)) pos.line env = pure false) :
    ExecTo d fi (.Assign [.Name x p] e pos) σ .next ⟨σ₁.loc.set i v, σ₁.heap⟩ := ⟨fun C ρ s Q S hQ => by
  with_reducible refine wpAny_Assign_Name ?_ (hs _)
  refine h.run C ρ s _ S fun τ u s₁ m₁ S₁ hu => ?_
  exact storeLocal ok S₁ hi hu fun s' m' S' => hQ τ _ _ (m₁.trans m') S' rfl⟩

theorem ExecTo.aug (ok : fi.Ok) {x : Str} {p : Pos} {op : Operator} {e : Expr} {i : Nat} {a b c : V} (hi : AtN fi.names i x) (ha : σ.loc[i]? = some a) (hu : a ≠ .undef) (h : EvalTo d fi e σ b σ₁) (hop : AugTo op a b c) :
    ExecTo d fi (.AugAssign (.Name x p) op e pos) σ .next ⟨σ₁.loc.set i c, σ₁.heap⟩ := ⟨fun C ρ s Q S hQ => by
  with_reducible refine wpAny_AugAssign_Name ?_
  refine loadLocal ok S hi ha hu fun u hu' => ?_
  refine h.run C ρ s _ S fun τ v s₁ m₁ S₁ hv => ?_
  refine hop.run _ _ _ _ _ _ _ _ hu'.mono hv fun t tk ht => ?_
  exact storeLocal (s := { s₁ with toks := tk }) ok S₁ hi ht fun s' m' S' => hQ τ _ _ (m₁.trans (Same.tok.trans m')) S' rfl⟩

/-- xs[i] = v -/
theorem ExecTo.setItem {oE iE e : Expr} {p : Pos} {k i : Nat} {xs : List V} {v : V} (h : EvalTo d fi e σ v σ₁) (h1 : EvalTo d fi oE σ₁ (.ref k) σ₂) (h2 : EvalTo d fi iE σ₂ (.nat i) σ₃) (hk : σ₃.heap[k]? = some (.list xs)) (hi : i < xs.length) (hb : i < 2 ^ 62)
    (hs : ∀ env, swapsWith e (some (.Subscript oE iE p)) pos.line env = pure false) : ExecTo d fi (.Assign [.Subscript oE iE p] e pos) σ .next ⟨σ₃.loc, σ₃.heap.set k (.list (xs.set i v))⟩ := ⟨fun C ρ s Q S hQ => by
  with_reducible refine wpAny_Assign_Subscript ?_ (hs _)
  refine h.run C ρ s _ S fun τ u s₁ m₁ S₁ hu => ?_
  refine h1.run C _ s₁ _ S₁ fun τ₂ o s₂ m₂ S₂ ho => ?_
  refine h2.run C _ s₂ _ S₂ fun τ₃ w s₃ m₃ S₃ hw => ?_
  obtain ⟨t, rfl⟩ := hw
  obtain ⟨m, news, F, N, R, nd, l⟩ := S₃.ex
  obtain ⟨a, ob, ha, hm, _, vs, n, rfl, hvs⟩ := R.get hk
  rw [ref_eq ho.mono ha]
  have hg := (N _ (List.mem_append_left _ hm)).1
  have e1 : vs.size = xs.length := by rw [hvs.length]; simp
  have hl : s₃.heap.IsList a vs := ⟨_, hg, rfl, n, rfl⟩
  have hg' : s₃.heap.get? a = some (listOf vs n) := hg
  refine ki_setAt hg' (by omega) (by omega) (by omega) ?_
  have hidx : ((i : Int).toNat) = i := by omega
  have hobj : (s₃.heap.update a (Obj.mapSeq (·.setIfInBounds (i : Int).toNat u))).get? a = some (Obj.mapSeq (·.setIfInBounds (i : Int).toNat u) (listOf vs n)) := Heap.get?_update_self _ hg' rfl
  refine hQ (τ ++ (τ₂ ++ τ₃)) _ _ (m₁.trans (m₂.trans (m₃.trans ⟨_, s₃.toks, rfl⟩))) (SR_as (SR_as ?_)) rfl
  refine SR_update F N R nd l ha ⟨vs.setIfInBounds i u, _, rfl, ?_⟩ (Heap.SameBut.update ..) (by rw [hobj, hidx]; rfl)
  simpa using hvs.set hu.mono.mono⟩
end
end Mine

namespace Mine
/-! L10 -/
open PySem PySem.W PyProof.Rows PySem.Spec PySem.Calls
set_option maxRecDepth 100000
section
variable {d : Nat} {fi : FI} {σ σ₁ σ₂ σ₃ σ' : St} {pos : Pos}

theorem storesNil {M : Model} {A : Around} {s : Shared} {E : Value → Shared → Prop} {Q : Unit → Shared → Prop} (h : Q () s) : wpAny M A (assignInOrder [] []) Q E s := wpAny_pure h
theorem storesCons {M : Model} {A : Around} {s : Shared} {E : Value → Shared → Prop} {Q : Unit → Shared → Prop} {f : Value → Sem Unit} {fs : List (Value → Sem Unit)} {v : Value} {vs : List Value} (h : wpAny M A (f v) (fun _ s' => wpAny M A (assignInOrder fs vs) Q E s') E s) :
    wpAny M A (assignInOrder (f :: fs) (v :: vs)) Q E s := by
  show wpAny M A (do holding vs (f v); assignInOrder fs vs) Q E s
  exact wpAny_bind (wpAny_holding h)

/-- x, y = e1, e2 -/
theorem ExecTo.tup2 (ok : fi.Ok) {x y : Str} {px py tp vp : Pos} {k k' : Nat} {e₁ e₂ : Expr} {i j : Nat} {v₁ v₂ : V} (hx : AtN fi.names i x) (hy : AtN fi.names j y) (h1 : EvalTo d fi e₁ σ v₁ σ₁) (h2 : EvalTo d fi e₂ σ₁ v₂ σ₂)
    (a1 : ∀ env, starEach [e₁, e₂] env = (false, eval e₁ env) :: starEach [e₂] env) (a2 : ∀ env, starEach [e₂] env = (false, eval e₂ env) :: starEach [] env)
    (hs : ∀ env, swapsWithSole [.Tuple [.Name x px, .Name y py] k tp] (.Tuple [e₁, e₂] k' vp) pos.line env = pure false)
    (hw : ∀ L cl, swappedStores [.Tuple [.Name x px, .Name y py] k tp] (.Tuple [e₁, e₂] k' vp) (envX fi.name fi.scope L fi.addr (.ref fi.code) cl) = pure (some [x, y])) :
    ExecTo d fi (.Assign [.Tuple [.Name x px, .Name y py] k tp] (.Tuple [e₁, e₂] k' vp) pos) σ .next ⟨(σ₂.loc.set j v₂).set i v₁, σ₂.heap⟩ := ⟨fun C ρ s Q S hQ => by
  with_reducible refine Assign_Tuple_swapped ?_ (hs _) (hw _ _)
  refine tupleTemp (.cons h1 (.cons h2 .nil a2) a1) (by simp) C ρ s _ S fun τ a us s₁ m₁ S₁ hus => ?_
  obtain ⟨u, v, rfl⟩ : ∃ u v, us = [u, v] := len2 hus.length
  obtain ⟨hu, hv, _⟩ := hus
  have hb := SR_mem S₁ (p := (a, ({ cls := .type "tuple", data := .seq [u, v].toArray } : Obj))) (List.mem_append_left _ (.head _))
  have hT : IsTup s₁.heap a [u, v].toArray := ⟨_, hb, rfl, _, rfl⟩
  obtain ⟨m, news, F, N, R, nd, l⟩ := (SR_unwth S₁).ex
  refine unpackItemsN_ F N hT rfl rfl fun h' F' N' => ?_
  have S₂ : C.SR σ₂ (ρ ++ τ) h' := ⟨m, news, F', N', R, nd, l⟩
  show wpAny C.M C.A (assignInOrder [fun w => bindName C.env y w, fun w => bindName C.env x w] [v, u]) _ NoE { s₁ with heap := h' }
  refine storesCons (bindName_ (storeLocal ok S₂ hy hv fun s₃ m₃ S₃ => storesCons (bindName_ (storeLocal ok S₃ hx hu fun s₄ m₄ S₄ => storesNil ?_))))
  exact hQ τ _ _ (m₁.trans (Same.trans ⟨h', s₁.toks, rfl⟩ (m₃.trans m₄))) S₄ rfl⟩

theorem ExecTo.tup3 (ok : fi.Ok) {x y z : Str} {px py pz tp vp : Pos} {k k' : Nat} {e₁ e₂ e₃ : Expr} {i j n : Nat} {v₁ v₂ v₃ : V} (hx : AtN fi.names i x) (hy : AtN fi.names j y) (hz : AtN fi.names n z) (h1 : EvalTo d fi e₁ σ v₁ σ₁) (h2 : EvalTo d fi e₂ σ₁ v₂ σ₂) (h3 : EvalTo d fi e₃ σ₂ v₃ σ₃)
    (a1 : ∀ env, starEach [e₁, e₂, e₃] env = (false, eval e₁ env) :: starEach [e₂, e₃] env) (a2 : ∀ env, starEach [e₂, e₃] env = (false, eval e₂ env) :: starEach [e₃] env) (a3 : ∀ env, starEach [e₃] env = (false, eval e₃ env) :: starEach [] env)
    (hs : ∀ env, swapsWithSole [.Tuple [.Name x px, .Name y py, .Name z pz] k tp] (.Tuple [e₁, e₂, e₃] k' vp) pos.line env = pure false)
    (hw : ∀ L cl, swappedStores [.Tuple [.Name x px, .Name y py, .Name z pz] k tp] (.Tuple [e₁, e₂, e₃] k' vp) (envX fi.name fi.scope L fi.addr (.ref fi.code) cl) = pure (some [x, y, z])) :
    ExecTo d fi (.Assign [.Tuple [.Name x px, .Name y py, .Name z pz] k tp] (.Tuple [e₁, e₂, e₃] k' vp) pos) σ .next ⟨((σ₃.loc.set n v₃).set j v₂).set i v₁, σ₃.heap⟩ := ⟨fun C ρ s Q S hQ => by
  with_reducible refine Assign_Tuple_swapped ?_ (hs _) (hw _ _)
  refine tupleTemp (.cons h1 (.cons h2 (.cons h3 .nil a3) a2) a1) (by simp) C ρ s _ S fun τ a us s₁ m₁ S₁ hus => ?_
  obtain ⟨u, v, w, rfl⟩ : ∃ u v w, us = [u, v, w] := len3 hus.length
  obtain ⟨hu, hv, hw', _⟩ := hus
  have hb := SR_mem S₁ (p := (a, ({ cls := .type "tuple", data := .seq [u, v, w].toArray } : Obj))) (List.mem_append_left _ (.head _))
  have hT : IsTup s₁.heap a [u, v, w].toArray := ⟨_, hb, rfl, _, rfl⟩
  obtain ⟨m, news, F, N, R, nd, l⟩ := (SR_unwth S₁).ex
  refine unpackItemsN_ F N hT rfl rfl fun h' F' N' => ?_
  have S₂ : C.SR σ₃ (ρ ++ τ) h' := ⟨m, news, F', N', R, nd, l⟩
  show wpAny C.M C.A (assignInOrder [fun w => bindName C.env z w, fun w => bindName C.env y w, fun w => bindName C.env x w] [w, v, u]) _ NoE { s₁ with heap := h' }
  refine storesCons (bindName_ (storeLocal ok S₂ hz hw' fun s₃ m₃ S₃ => storesCons (bindName_ (storeLocal ok S₃ hy hv fun s₄ m₄ S₄ => storesCons (bindName_ (storeLocal ok S₄ hx hu fun s₅ m₅ S₅ => storesNil ?_))))))
  exact hQ τ _ _ (m₁.trans (Same.trans ⟨h', s₁.toks, rfl⟩ (m₃.trans (m₄.trans m₅)))) S₅ rfl⟩

/-- x, y = call that hands back a pair -/
theorem ExecTo.tupCall2 (ok : fi.Ok) {x y : Str} {px py tp : Pos} {k : Nat} {e : Expr} {i j n : Nat} {v₁ v₂ : V} (hx : AtN fi.names i x) (hy : AtN fi.names j y) (h : EvalTo d fi e σ (.ref n) σ₁) (hk : σ₁.heap[n]? = some (.tup [v₁, v₂]))
    (hs : ∀ env, swapsWithSole [.Tuple [.Name x px, .Name y py] k tp] e pos.line env = pure false)
    (hw : ∀ env, swappedStores [.Tuple [.Name x px, .Name y py] k tp] e env = pure none) :
    ExecTo d fi (.Assign [.Tuple [.Name x px, .Name y py] k tp] e pos) σ .next ⟨(σ₁.loc.set i v₁).set j v₂, σ₁.heap⟩ := ⟨fun C ρ s Q S hQ => by
  with_reducible refine Assign_Tuple ?_ (hs _) (hw _)
  refine h.run C ρ s _ S fun τ u s₁ m₁ S₁ hu => ?_
  obtain ⟨a, vs, n', ha, hg, hvs⟩ := SR_tup S₁ hk
  rw [ref_eq hu ha]
  obtain ⟨u₁, u₂, e0⟩ : ∃ u v, vs.toList = [u, v] := len2 hvs.length
  rw [e0] at hvs
  obtain ⟨h₁, h₂, _⟩ := hvs
  have e1 : vs = #[u₁, u₂] := by rw [← Array.toList_inj]; exact e0
  subst e1
  refine wpAny_assign_Tuple rfl ⟨_, hg, rfl, n', rfl⟩ rfl rfl fun h' hx' => ?_
  replace hx' : Heap.ExtBut s₁.heap.objs.size s₁.heap h' := hx'
  have S₂ : C.SR σ₁ (ρ ++ τ) h' := SR_keeps S₁ fun b o hb => hx' b o (Nat.ne_of_lt (Heap.lt_size hb)) hb
  show wpAny C.M C.A (assignInOrder [fun w => PySem.assign (.Name x px) C.env w, fun w => PySem.assign (.Name y py) C.env w] [u₁, u₂]) _ NoE { s₁ with heap := h' }
  refine storesCons (assign_Name (storeLocal ok S₂ hx h₁ fun s₃ m₃ S₃ => storesCons (assign_Name (storeLocal ok S₃ hy h₂ fun s₄ m₄ S₄ => storesNil ?_))))
  exact hQ τ _ _ (m₁.trans (Same.trans ⟨h', s₁.toks, rfl⟩ (m₃.trans m₄))) S₄ rfl⟩

theorem methodCall_eq (x : Str) (p ap : Pos) (nm : Str) (args : List Expr) (pos : Pos) (env : Env) : True := trivial

/-- xs.append(e) as a statement -/
theorem ExecTo.append {oE e : Expr} {ap p : Pos} {k : Nat} {xs ys : List V} {v : V} (h1 : EvalTo d fi oE σ (.ref k) σ₁) (hy : σ₁.heap[k]? = some (.list ys)) (h2 : EvalTo d fi e σ₁ v σ₂) (hk : σ₂.heap[k]? = some (.list xs)) (hn : xs.length ≤ 2 ^ 20) (pl : Env → Sem Bool)
    (he : ∀ env, eval (.Call (.Attribute oE "append" ap) [e] [] p) env = (do
      let ov ← eval oE env
      standAt ap.atName
      let __x ← holding [ov] (getMethod ov "append" (pl env))
      match __x with
        | (f, first) => callWith p f first (backTo p (starEach [e] env)) []))
    (a1 : ∀ env, starEach [e] env = (false, eval e env) :: starEach [] env) (hs : ∀ env, swapsWith (.Call (.Attribute oE "append" ap) [e] [] p) none pos.line env = pure false) (hk' : fi.scope.kind = .function) :
    ExecTo d fi (.Expr (.Call (.Attribute oE "append" ap) [e] [] p) pos) σ .next ⟨σ₂.loc, σ₂.heap.set k (.list (xs ++ [v]))⟩ := ⟨fun C ρ s Q S hQ => by
  have hi : interactive C.env = false := by unfold interactive; rw [show C.env.scope.kind = ScopeKind.function from hk']; rfl
  with_reducible refine wpAny_Expr_any ?_ hi (hs _)
  with_reducible refine MethodCall_ ?_ (he _)
  refine h1.run C ρ s _ S fun τ u s₁ m₁ S₁ hu => ?_
  obtain ⟨a, vs, n, ha, hg, hvs⟩ := SR_list S₁ hy
  rw [ref_eq hu ha]
  with_reducible refine getMethod_list_append hg rfl rfl ?_
  with_reducible refine callWith_method1 ?_ (a1 _) rfl
  refine EvalsTo.run (.cons h2 .nil a1) C p _ s₁ _ S₁ fun τ₂ us s₂ m₂ S₂ hus => ?_
  obtain ⟨w, rfl⟩ : ∃ w, us = [w] := len1 hus.length
  obtain ⟨m, news, F, N, R, nd, l⟩ := S₂.ex
  obtain ⟨b, ob, hb, hm, _, vs', n', rfl, hvs'⟩ := R.get hk
  have hab : b = a := by
    have := getElem?_app (τ := τ₂) ha
    rw [hb] at this; exact Option.some.inj this
  subst hab
  have hg' := (N _ (List.mem_append_left _ hm)).1
  have e1 : vs'.size = xs.length := by rw [hvs'.length]; simp
  show wpAny C.M C.A (call (.builtin "list.append") [.ref b, w]) _ NoE s₂
  refine append_at hg' (fun h' hs' ho' => ?_) (by rw [sizeLine_eq]; omega)
  refine hQ (τ ++ τ₂) _ _ (m₁.trans (m₂.trans ⟨h', s₂.toks, rfl⟩)) (SR_as ?_) rfl
  refine SR_update F N R nd l hb ⟨_, _, rfl, ?_⟩ hs' ho'
  have := hvs'.append (ys := [v]) (us := [w]) ⟨hus.1, trivial⟩
  simpa using this⟩
end
end Mine

namespace Mine
/-! L11 -/
open PySem PySem.W PyProof.Rows PySem.Spec PySem.Calls
set_option maxRecDepth 100000

noncomputable def Fl.goes : Fl → Prop
  | .next => True
  | .cont => True
  | .ret _ => False

inductive WRun (d : Nat) (fi : FI) (test : Expr) (body : List Stmt) : Nat → St → Fl → St → Prop
  | stop {σ σ'} : TestTo d fi test σ false σ' → WRun d fi test body 0 σ .next σ'
  | step {n σ σ₁ σ₂ σ₃ f g} : TestTo d fi test σ true σ₁ → ExecsTo d fi body σ₁ f σ₂ → f.goes → WRun d fi test body n σ₂ g σ₃ → WRun d fi test body (n + 1) σ g σ₃
  | ret {σ σ₁ σ₂ v} : TestTo d fi test σ true σ₁ → ExecsTo d fi body σ₁ (.ret v) σ₂ → WRun d fi test body 0 σ (.ret v) σ₂

/-- over values that are known ahead (a range) -/
inductive RunR (d : Nat) (fi : FI) (body : List Stmt) (i : Nat) : List V → St → Fl → St → Prop
  | nil {σ} : RunR d fi body i [] σ .next σ
  | step {v vs σ σ₁ σ₂ f g} : ExecsTo d fi body ⟨σ.loc.set i v, σ.heap⟩ f σ₁ → f.goes → RunR d fi body i vs σ₁ g σ₂ → RunR d fi body i (v :: vs) σ g σ₂
  | ret {v vs σ σ₁ u} : ExecsTo d fi body ⟨σ.loc.set i v, σ.heap⟩ (.ret u) σ₁ → RunR d fi body i (v :: vs) σ (.ret u) σ₁

noncomputable def upFrom (a : Int) (c : Int) : Nat → List V
  | 0 => []
  | n + 1 => .int a :: upFrom (a + c) c n
section
variable {d : Nat} {fi : FI} {σ σ₁ σ₂ σ₃ σ' : St} {pos : Pos}

/-! ## while -/
theorem flow_goes {ρ : List Addr} {f : Fl} {g : Flow} (h : FR ρ f g) (hf : f.goes) : g = .next ∨ g = .cont := by
  cases f with
  | next => exact .inl h
  | cont => exact .inr h
  | ret v => exact hf.elim

theorem ExecTo.while {test : Expr} {body : List Stmt} {n : Nat} {g : Fl} (h : WRun d fi test body n σ g σ') : ExecTo d fi (.While test body [] pos) σ g σ' := ⟨fun C ρ s Q S hQ => by
  with_reducible refine wpAny_While ?_
  refine codeAny_whileLoop (fun n s' => ∃ σ₁ τ, WRun d fi test body n σ₁ g σ' ∧ Same s s' ∧ C.SR σ₁ (ρ ++ τ) s'.heap) ?_ n ⟨σ, [], h, Same.refl s, SR_refl S⟩
  rintro n s' ⟨σ₁, τ, hr, hs, S'⟩
  cases hr with
  | stop h1 =>
    refine wpAny_mono (h1.run C _ s' (fun b s₂ => if b = true then False else wpAny C.M C.A (execs [] C.env) (fun f s₃ => Q f s₃) NoE s₂) S' fun τ₂ s₂ m₂ S₂ => ?_) (fun b s₂ hb => ?_) fun _ _ x => x.elim
    · rw [if_neg (by decide)]
      exact wpAny_execs_nil (hQ (τ ++ τ₂) _ _ (hs.trans m₂) (SR_as S₂) rfl)
    · split at hb
      · exact hb.elim
      · rename_i hn
        rw [if_neg hn]
        exact wpAny_mono hb (fun _ _ x => x) fun _ _ x => x.elim
  | step h1 h2 hf h3 =>
    rename_i n' σ₂ σ₃ f
    refine wpAny_mono (h1.run C _ s' (fun b s₂ => if b = true then wpAny C.M C.A (execs body C.env) (fun f s₃ => (f = .next ∨ f = .cont) ∧ ∃ m, m < n' + 1 ∧ ∃ σ₁ τ, WRun d fi test body m σ₁ g σ' ∧ Same s s₃ ∧ C.SR σ₁ (ρ ++ τ) s₃.heap) NoE s₂ else False) S' fun τ₂ s₂ m₂ S₂ => ?_) (fun b s₂ hb => ?_) fun _ _ x => x.elim
    · rw [if_pos rfl]
      refine h2.run C _ s₂ _ S₂ fun τ₃ fl s₃ m₃ S₃ hfl => ?_
      exact ⟨flow_goes hfl hf, n', Nat.lt_succ_self _, _, τ ++ (τ₂ ++ τ₃), h3, hs.trans (m₂.trans m₃), SR_as (SR_as S₃)⟩
    · split at hb
      · rename_i hb'
        rw [if_pos hb']
        refine wpAny_mono hb (fun f s₃ x => ?_) fun _ _ x => x.elim
        obtain ⟨rfl | rfl, x⟩ := x
        · exact x
        · exact x
      · exact hb.elim
  | ret h1 h2 =>
    rename_i σ₂ v
    refine wpAny_mono (h1.run C _ s' (fun b s₂ => if b = true then wpAny C.M C.A (execs body C.env) (fun f s₃ => ∃ u, f = .ret u ∧ Q (.ret u) s₃) NoE s₂ else False) S' fun τ₂ s₂ m₂ S₂ => ?_) (fun b s₂ hb => ?_) fun _ _ x => x.elim
    · rw [if_pos rfl]
      refine h2.run C _ s₂ _ S₂ fun τ₃ fl s₃ m₃ S₃ hfl => ?_
      obtain ⟨u, rfl, hu⟩ := hfl
      exact ⟨u, rfl, hQ (τ ++ (τ₂ ++ τ₃)) _ _ (hs.trans (m₂.trans m₃)) (SR_as (SR_as S₃)) ⟨u, rfl, VR_as (VR_as hu)⟩⟩
    · split at hb
      · rename_i hb'
        rw [if_pos hb']
        refine wpAny_mono hb (fun f s₃ x => ?_) fun _ _ x => x.elim
        obtain ⟨u, rfl, hq⟩ := x
        exact hq
      · exact hb.elim⟩

/-! ## for -/
theorem SR_own {C : RC d fi} {own own' : Led} {ρ : List Addr} {h h' : Heap} (S : (C.wth (own ++ C.extra)).SR σ ρ h) (hk : ∀ b o, b ∉ own.map (·.1) → h.get? b = some o → h'.get? b = some o) (ha : (own'.map (·.1)).Sublist (own.map (·.1)))
    (ho : ∀ p ∈ own', h'.get? p.1 = some p.2) : (C.wth (own' ++ C.extra)).SR σ ρ h' := by
  obtain ⟨m, news, F, N, R, nd, l⟩ := S.ex
  have hown : ∀ a ∈ own.map (·.1), a ≠ C.L ∧ C.h₀.get? a = none := fun a ha => by
    obtain ⟨p, hp, rfl⟩ := List.mem_map.mp ha
    exact (N p (List.mem_append_right _ (List.mem_append_left _ hp))).2
  have hL : C.L ∉ own.map (·.1) := fun h => (hown _ h).1 rfl
  have nd' := nd
  simp only [List.map_append, List.nodup_append] at nd'
  obtain ⟨n1, ⟨n2, n3, n4⟩, n5⟩ := nd'
  refine ⟨m, news, ⟨F.ns.at' fun o e => hk _ o hL e, fun b o e => hk b o (fun hb => ?_) (F.keep b o e), F.above⟩, fun p hp => ?_, R, ?_, l⟩
  · rw [(hown b hb).2] at e; cases e
  · rcases List.mem_append.mp hp with hp | hp
    · have z := N p (List.mem_append_left _ hp)
      refine ⟨hk _ _ (fun hb => ?_) z.1, z.2⟩
      exact n5 p.1 (List.mem_map_of_mem hp) p.1 (List.mem_append_left _ hb) rfl
    · rcases List.mem_append.mp hp with hp | hp
      · have hm : p.1 ∈ own.map (·.1) := ha.subset (List.mem_map_of_mem hp)
        exact ⟨ho p hp, (hown _ hm).1, (hown _ hm).2⟩
      · have z := N p (List.mem_append_right _ (List.mem_append_right _ hp))
        refine ⟨hk _ _ (fun hb => ?_) z.1, z.2⟩
        exact n4 p.1 hb p.1 (List.mem_map_of_mem hp) rfl
  · have e : ((news ++ (own' ++ C.extra)).map (·.1)).Sublist ((news ++ (own ++ C.extra)).map (·.1)) := by
      simp only [List.map_append]
      exact (List.append_sublist_append_left _).mpr ((List.append_sublist_append_right _).mpr ha)
    show ((news ++ (own' ++ C.extra)).map (·.1)).Nodup
    exact nd.sublist e
theorem SR_gone {C : RC d fi} {own : Led} {ρ : List Addr} {h h' : Heap} (S : (C.wth (own ++ C.extra)).SR σ ρ h) (hk : ∀ b o, b ∉ own.map (·.1) → h.get? b = some o → h'.get? b = some o) : C.SR σ ρ h' :=
  SR_own (own' := []) S hk (List.nil_sublist _) (fun _ hp => nomatch hp)

noncomputable abbrev rIter (a left c : Int) : Obj := { cls := .type "range_iterator", dict := none, data := .fields #[rawInt a, rawInt left, rawInt c], slots := #[] }

theorem forRange_core {C : RC d fi} (ok : fi.Ok) {ρ : List Addr} {s : Shared} {I : Addr} {a c : Int} {n i : Nat} {body : List Stmt} {x : Str} {px : Pos} {g : Fl} {R : Result → Shared → Prop} (hi : AtN fi.names i x)
    (S : (C.wth ([(I, rIter a n c)] ++ C.extra)).SR σ ρ s.heap) (hr : RunR d fi body i (upFrom a c n) σ g σ')
    (hR : ∀ τ f s', Same s s' → C.SR σ' (ρ ++ τ) s'.heap → FR (ρ ++ τ) g f → R (.ok f) s') : codeAny C.M C.A (.forLoop (.Name x px) (.ref I) body [] C.env) R s := by
  refine codeAny_forLoop (fun n s' => ∃ σ₁ τ a', RunR d fi body i (upFrom a' c n) σ₁ g σ' ∧ Same s s' ∧ (C.wth ([(I, rIter a' n c)] ++ C.extra)).SR σ₁ (ρ ++ τ) s'.heap) ?_ n ⟨σ, [], a, hr, Same.refl s, SR_refl S⟩
  rintro n s' ⟨σ₁, τ, a', hr, hs, S'⟩
  have hit : IsRangeIter s'.heap I a' n c := SR_mem S' (p := (I, rIter a' n c)) (List.mem_append_left _ (.head _))
  cases n with
  | zero =>
    refine wpAny_pyNext_range_end rfl hit (by simp) fun h' hx => ?_
    replace hx : Heap.ExtBut I s'.heap h' := hx
    cases hr
    refine wpAny_execs_nil (hR τ .next _ (hs.trans ⟨h', s'.toks, rfl⟩) ?_ rfl)
    exact SR_gone S' fun b o hb e => hx b o (fun e' => hb (by simp [e'])) e
  | succ n =>
    refine wpAny_pyNext_range_item hit (by omega) fun h' hit' hsb => ?_
    replace hsb : Heap.SameBut I s'.heap h' := hsb
    have S₂ : (C.wth ([(I, rIter (a' + c) n c)] ++ C.extra)).SR σ₁ (ρ ++ τ) h' := by
      refine SR_own S' (fun b o hb e => hsb.extBut b o (fun e' => hb (by simp [e'])) e) (List.Sublist.refl _) fun p hp => ?_
      simp only [List.mem_cons, List.not_mem_nil, or_false] at hp
      subst hp
      have : ((n + 1 : Nat) : Int) - 1 = n := by omega
      rw [this] at hit'
      exact hit'
    refine assign_Name (storeLocal (C := C.wth ([(I, rIter (a' + c) n c)] ++ C.extra)) (s := { s' with heap := h', toks := s'.toks + 1 }) (v := .int a') ok S₂ hi ⟨_, rfl⟩ fun s₃ m₃ S₃ => ?_)
    have hs₃ : Same s s₃ := hs.trans (Same.trans ⟨h', s'.toks + 1, rfl⟩ m₃)
    cases hr with
    | step h1 hg h2 =>
      refine wpAny_mono (h1.run (C.wth ([(I, rIter (a' + c) n c)] ++ C.extra)) _ s₃ _ S₃ fun τ₂ f s₄ m₄ S₄ hf => ?_) (fun f s₄ x => x) fun _ _ x => x.elim
      rcases flow_goes hf hg with rfl | rfl
      · exact ⟨n, Nat.lt_succ_self _, _, τ ++ τ₂, a' + c, h2, hs₃.trans m₄, SR_as S₄⟩
      · exact ⟨n, Nat.lt_succ_self _, _, τ ++ τ₂, a' + c, h2, hs₃.trans m₄, SR_as S₄⟩
    | ret h1 =>
      refine wpAny_mono (h1.run (C.wth ([(I, rIter (a' + c) n c)] ++ C.extra)) _ s₃ _ S₃ fun τ₂ f s₄ m₄ S₄ hf => ?_) (fun f s₄ x => x) fun _ _ x => x.elim
      obtain ⟨u, rfl, hu⟩ := hf
      exact hR (τ ++ τ₂) _ _ (hs₃.trans m₄) (SR_as (SR_unwth S₄)) ⟨u, rfl, VR_as hu⟩
end
end Mine

namespace Mine
/-! L12 -/
open PySem PySem.W PyProof.Rows PySem.Spec PySem.Calls
set_option maxRecDepth 100000

/-- over a list that lies in the ledger -/
inductive RunL (d : Nat) (fi : FI) (body : List Stmt) (i k : Nat) : Nat → Nat → St → Fl → St → Prop
  | nil {pos : Nat} {σ : St} {xs : List V} : σ.heap[k]? = some (.list xs) → xs.length ≤ pos → RunL d fi body i k 0 pos σ .next σ
  | step {n pos : Nat} {σ σ₁ σ₂ : St} {xs : List V} {v : V} {f g : Fl} : σ.heap[k]? = some (.list xs) → xs[pos]? = some v → ExecsTo d fi body ⟨σ.loc.set i v, σ.heap⟩ f σ₁ → f.goes → RunL d fi body i k n (pos + 1) σ₁ g σ₂ → RunL d fi body i k (n + 1) pos σ g σ₂
  | ret {n pos : Nat} {σ σ₁ : St} {xs : List V} {v u : V} : σ.heap[k]? = some (.list xs) → xs[pos]? = some v → ExecsTo d fi body ⟨σ.loc.set i v, σ.heap⟩ (.ret u) σ₁ → RunL d fi body i k (n + 1) pos σ (.ret u) σ₁
/-- over enumerate of a list of the ledger -/
inductive RunE (d : Nat) (fi : FI) (body : List Stmt) (i j k : Nat) : Nat → Nat → St → Fl → St → Prop
  | nil {pos : Nat} {σ : St} {xs : List V} : σ.heap[k]? = some (.list xs) → xs.length ≤ pos → RunE d fi body i j k 0 pos σ .next σ
  | step {n pos : Nat} {σ σ₁ σ₂ : St} {xs : List V} {v : V} {f g : Fl} : σ.heap[k]? = some (.list xs) → xs[pos]? = some v → ExecsTo d fi body ⟨(σ.loc.set i (.int (pos : Int))).set j v, σ.heap⟩ f σ₁ → f.goes → RunE d fi body i j k n (pos + 1) σ₁ g σ₂ → RunE d fi body i j k (n + 1) pos σ g σ₂
  | ret {n pos : Nat} {σ σ₁ : St} {xs : List V} {v u : V} : σ.heap[k]? = some (.list xs) → xs[pos]? = some v → ExecsTo d fi body ⟨(σ.loc.set i (.int (pos : Int))).set j v, σ.heap⟩ (.ret u) σ₁ → RunE d fi body i j k (n + 1) pos σ (.ret u) σ₁

noncomputable def LIter (a : Addr) (pos : Nat) (o : Obj) : Prop := o.cls = .type "list_iterator" ∧ o.data = .fields #[.ref a, .int (pos : Int) 0]
noncomputable abbrev eIter (it : Addr) (i : Int) (old : Value) : Obj := { cls := .type "enumerate", dict := none, data := .fields #[.none, .bool false, .ref it, rawInt i, .none, old], slots := #[] }

section
variable {d : Nat} {fi : FI} {σ σ₁ σ₂ σ₃ σ' : St} {pos : Pos}

theorem forList_core {C : RC d fi} (ok : fi.Ok) {ρ : List Addr} {s : Shared} {I a : Addr} {n i k p₀ : Nat} {body : List Stmt} {x : Str} {px : Pos} {g : Fl} {R : Result → Shared → Prop} {o : Obj} (hi : AtN fi.names i x) (ha : ρ[k]? = some a) (hio : LIter a p₀ o)
    (S : (C.wth ([(I, o)] ++ C.extra)).SR σ ρ s.heap) (hr : RunL d fi body i k n p₀ σ g σ')
    (hR : ∀ τ f s', Same s s' → C.SR σ' (ρ ++ τ) s'.heap → FR (ρ ++ τ) g f → R (.ok f) s') : codeAny C.M C.A (.forLoop (.Name x px) (.ref I) body [] C.env) R s := by
  refine codeAny_forLoop (fun n s' => ∃ σ₁ τ p o, RunL d fi body i k n p σ₁ g σ' ∧ LIter a p o ∧ Same s s' ∧ (C.wth ([(I, o)] ++ C.extra)).SR σ₁ (ρ ++ τ) s'.heap) ?_ n ⟨σ, [], p₀, o, hr, hio, Same.refl s, SR_refl S⟩
  rintro n s' ⟨σ₁, τ, p, o, hr, hio, hs, S'⟩
  have hgo : s'.heap.get? I = some o := SR_mem S' (p := (I, o)) (List.mem_append_left _ (.head _))
  have hit : s'.heap.IsListIter I a p := ⟨o, hgo, hio.1, hio.2⟩
  have hxs : ∀ {xs}, σ₁.heap[k]? = some (.list xs) → ∃ vs, s'.heap.IsList a vs ∧ VRs (ρ ++ τ) xs vs.toList := fun h => by
    obtain ⟨b, vs, m, hb, hg, hvs⟩ := SR_list S' h
    have : b = a := by rw [getElem?_app ha] at hb; exact (Option.some.inj hb).symm
    subst this
    exact ⟨vs, ⟨_, hg, rfl, m, rfl⟩, hvs⟩
  cases hr with
  | nil h1 h2 =>
    obtain ⟨vs, hl, hvs⟩ := hxs h1
    have := hvs.length
    refine wpAny_pyNext_list_end rfl hit hl (by simp at this ⊢; omega) fun h' hx => ?_
    replace hx : Heap.ExtBut I s'.heap h' := hx
    refine wpAny_execs_nil (hR τ .next _ (hs.trans ⟨h', s'.toks, rfl⟩) ?_ rfl)
    exact SR_gone S' fun b o hb e => hx b o (fun e' => hb (by simp [e'])) e
  | step h1 h2 h3 h4 h5 =>
    rename_i n' σ₂ xs v f
    obtain ⟨vs, hl, hvs⟩ := hxs h1
    obtain ⟨y, hy, hyx⟩ := hvs.get h2
    refine wpAny_pyNext_list_item hit hl (x := y) (by simpa using hy) fun h' hit' hsb => ?_
    replace hsb : Heap.SameBut I s'.heap h' := hsb
    obtain ⟨o', ho', hc', hd'⟩ := hit'
    have S₂ : (C.wth ([(I, o')] ++ C.extra)).SR σ₁ (ρ ++ τ) h' := by
      refine SR_own S' (fun b o hb e => hsb.extBut b o (fun e' => hb (by simp [e'])) e) (List.Sublist.refl _) fun q hq => ?_
      simp only [List.mem_cons, List.not_mem_nil, or_false] at hq
      subst hq
      exact ho'
    refine assign_Name (storeLocal (C := C.wth ([(I, o')] ++ C.extra)) (s := { s' with heap := h' }) ok S₂ hi hyx fun s₃ m₃ S₃ => ?_)
    have hs₃ : Same s s₃ := hs.trans (Same.trans ⟨h', s'.toks, rfl⟩ m₃)
    refine wpAny_mono (h3.run (C.wth ([(I, o')] ++ C.extra)) _ s₃ _ S₃ fun τ₂ f s₄ m₄ S₄ hf => ?_) (fun f s₄ x => x) fun _ _ x => x.elim
    rcases flow_goes hf h4 with rfl | rfl
    · exact ⟨n', Nat.lt_succ_self _, _, τ ++ τ₂, p + 1, o', h5, ⟨hc', hd'⟩, hs₃.trans m₄, SR_as S₄⟩
    · exact ⟨n', Nat.lt_succ_self _, _, τ ++ τ₂, p + 1, o', h5, ⟨hc', hd'⟩, hs₃.trans m₄, SR_as S₄⟩
  | ret h1 h2 h3 =>
    rename_i n' xs v u
    obtain ⟨vs, hl, hvs⟩ := hxs h1
    obtain ⟨y, hy, hyx⟩ := hvs.get h2
    refine wpAny_pyNext_list_item hit hl (x := y) (by simpa using hy) fun h' hit' hsb => ?_
    replace hsb : Heap.SameBut I s'.heap h' := hsb
    obtain ⟨o', ho', hc', hd'⟩ := hit'
    have S₂ : (C.wth ([(I, o')] ++ C.extra)).SR σ₁ (ρ ++ τ) h' := by
      refine SR_own S' (fun b o hb e => hsb.extBut b o (fun e' => hb (by simp [e'])) e) (List.Sublist.refl _) fun q hq => ?_
      simp only [List.mem_cons, List.not_mem_nil, or_false] at hq
      subst hq
      exact ho'
    refine assign_Name (storeLocal (C := C.wth ([(I, o')] ++ C.extra)) (s := { s' with heap := h' }) ok S₂ hi hyx fun s₃ m₃ S₃ => ?_)
    have hs₃ : Same s s₃ := hs.trans (Same.trans ⟨h', s'.toks, rfl⟩ m₃)
    refine wpAny_mono (h3.run (C.wth ([(I, o')] ++ C.extra)) _ s₃ _ S₃ fun τ₂ f s₄ m₄ S₄ hf => ?_) (fun f s₄ x => x) fun _ _ x => x.elim
    obtain ⟨u, rfl, hu⟩ := hf
    exact hR (τ ++ τ₂) _ _ (hs₃.trans m₄) (SR_as (SR_unwth S₄)) ⟨u, rfl, VR_as hu⟩

theorem forEnum_core {C : RC d fi} (ok : fi.Ok) {ρ : List Addr} {s : Shared} {I It a : Addr} {n i j k p₀ x1 : Nat} {body : List Stmt} {x y : Str} {px py pt : Pos} {g : Fl} {R : Result → Shared → Prop} {o : Obj} {old₀ : Value} (hi : AtN fi.names i x) (hj : AtN fi.names j y) (ha : ρ[k]? = some a) (hio : LIter a p₀ o) (hne : I ≠ It)
    (S : (C.wth ([(I, eIter It p₀ old₀), (It, o)] ++ C.extra)).SR σ ρ s.heap) (hr : RunE d fi body i j k n p₀ σ g σ')
    (hR : ∀ τ f s', Same s s' → C.SR σ' (ρ ++ τ) s'.heap → FR (ρ ++ τ) g f → R (.ok f) s') : codeAny C.M C.A (.forLoop (.Tuple [.Name x px, .Name y py] x1 pt) (.ref I) body [] C.env) R s := by
  refine codeAny_forLoop_any (fun n s' => ∃ σ₁ τ p o old, RunE d fi body i j k n p σ₁ g σ' ∧ LIter a p o ∧ Same s s' ∧ (C.wth ([(I, eIter It p old), (It, o)] ++ C.extra)).SR σ₁ (ρ ++ τ) s'.heap) ?_ n ⟨σ, [], p₀, o, old₀, hr, hio, Same.refl s, SR_refl S⟩
  rintro n s' ⟨σ₁, τ, p, o, old, hr, hio, hs, S'⟩
  have hgo : s'.heap.get? It = some o := SR_mem S' (p := (It, o)) (List.mem_append_left _ (.tail _ (.head _)))
  have hen : IsEnum s'.heap I It p old := SR_mem S' (p := (I, eIter It p old)) (List.mem_append_left _ (.head _))
  have hit : s'.heap.IsListIter It a p := ⟨o, hgo, hio.1, hio.2⟩
  have hxs : ∀ {xs}, σ₁.heap[k]? = some (.list xs) → ∃ vs, s'.heap.IsList a vs ∧ VRs (ρ ++ τ) xs vs.toList := fun h => by
    obtain ⟨b, vs, m, hb, hg, hvs⟩ := SR_list S' h
    have : b = a := by rw [getElem?_app ha] at hb; exact (Option.some.inj hb).symm
    subst this
    exact ⟨vs, ⟨_, hg, rfl, m, rfl⟩, hvs⟩
  -- one turn, up to the body
  have turn : ∀ {xs : List V} {v : V} {Nn : Shared → Prop} {Q' : Flow → Shared → Prop} {E' : Value → Shared → Prop}, σ₁.heap[k]? = some (.list xs) → xs[p]? = some v →
      (∀ o' x₂ s₃, LIter a (p + 1) o' → Same s s₃ → (C.wth ([(I, eIter It (p + 1 : Nat) x₂), (It, o')] ++ C.extra)).SR ⟨(σ₁.loc.set i (.int (p : Int))).set j v, σ₁.heap⟩ (ρ ++ τ) s₃.heap → wpAny C.M C.A (execs body C.env) Q' E' s₃) →
      wpAny C.M C.A (pyNext (.ref I)) (fun r s₁ => match r with
        | none => Nn s₁
        | some v => wpAny C.M C.A (letOwnedTupleGo (.Tuple [.Name x px, .Name y py] x1 pt) (.ref I) v) (fun _ s₁' =>
          wpAny C.M C.A (PySem.assign (.Tuple [.Name x px, .Name y py] x1 pt) C.env v) (fun _ s₂ => wpAny C.M C.A (execs body C.env) Q' E' s₂) E' s₁') E' s₁) E' s' := by
    intro xs v Nn Q' E' h1 h2 hb
    obtain ⟨vs, hl, hvs⟩ := hxs h1
    obtain ⟨w, hy, hyx⟩ := hvs.get h2
    refine wpAny_pyNext_enum_item hen hit hl (x := w) (by simpa using hy) hne fun h' he' hit' hT hsz hk => ?_
    obtain ⟨o', ho', hc', hd'⟩ := hit'
    refine wpAny_letOwnedTupleGo_enum he' fun h'' he'' hsb => ?_
    replace hsb : Heap.SameBut I h' h'' := hsb
    have hTI : s'.heap.objs.size ≠ I := fun e => by
      have := Heap.lt_size hen
      rw [e] at this
      exact Nat.lt_irrefl _ this
    have S₂ : (C.wth ([(I, eIter It (p + 1 : Nat) w), (It, o')] ++ C.extra)).SR σ₁ (ρ ++ τ) h'' := by
      refine SR_own S' (fun b ob hb e => ?_) (List.Sublist.refl _) fun q hq => ?_
      · have b1 : b ≠ I := fun e' => hb (by simp [e'])
        have b2 : b ≠ It := fun e' => hb (by simp [e'])
        exact (hsb.2 b b1).trans (hk b ob b1 b2 e)
      · simp only [List.mem_cons, List.not_mem_nil, or_false] at hq
        rcases hq with rfl | rfl
        · exact he''
        · exact (hsb.2 It (Ne.symm hne)).trans ho'
    have hT' : h''.IsTuple s'.heap.objs.size #[.int (p : Int) s'.toks, w] := ⟨_, (hsb.2 _ hTI).trans hT, rfl, _, rfl⟩
    refine wpAny_assign_Tuple rfl hT' rfl rfl fun h₃ hx₃ => ?_
    replace hx₃ : Heap.ExtBut h''.objs.size h'' h₃ := hx₃
    have S₃ := SR_keeps S₂ fun b o hb => hx₃ b o (Nat.ne_of_lt (Heap.lt_size hb)) hb
    refine storesCons (assign_Name (storeLocal (C := C.wth ([(I, eIter It (p + 1 : Nat) w), (It, o')] ++ C.extra)) (s := { s' with heap := h₃, toks := s'.toks + 1 }) ok S₃ hi (v := .int (p : Int)) ⟨_, rfl⟩ fun s₄ m₄ S₄ => storesCons (assign_Name (storeLocal (C := C.wth ([(I, eIter It (p + 1 : Nat) w), (It, o')] ++ C.extra)) ok S₄ hj hyx fun s₅ m₅ S₅ => storesNil ?_))))
    exact hb o' w s₅ ⟨hc', hd'⟩ (hs.trans (Same.trans ⟨h₃, s'.toks + 1, rfl⟩ (m₄.trans m₅))) S₅
  cases hr with
  | nil h1 h2 =>
    obtain ⟨vs, hl, hvs⟩ := hxs h1
    have := hvs.length
    refine wpAny_pyNext_enum_end rfl hen hit hl (by simp at this ⊢; omega) fun h' hx => ?_
    replace hx : Heap.ExtBut It s'.heap h' := hx
    refine wpAny_execs_nil (hR τ .next _ (hs.trans ⟨h', s'.toks, rfl⟩) ?_ rfl)
    exact SR_gone S' fun b o hb e => hx b o (fun e' => hb (by simp [e'])) e
  | step h1 h2 h3 h4 h5 =>
    rename_i n' σ₂ xs v f
    refine turn h1 h2 fun o' w s₃ hio' hs₃ S₃ => wpAny_mono (h3.run (C.wth ([(I, eIter It (p + 1 : Nat) w), (It, o')] ++ C.extra)) _ s₃ _ S₃ fun τ₂ f s₄ m₄ S₄ hf => ?_) (fun f s₄ x => x) fun _ _ x => x.elim
    rcases flow_goes hf h4 with rfl | rfl
    · exact ⟨n', Nat.lt_succ_self _, _, τ ++ τ₂, p + 1, o', w, h5, hio', hs₃.trans m₄, SR_as S₄⟩
    · exact ⟨n', Nat.lt_succ_self _, _, τ ++ τ₂, p + 1, o', w, h5, hio', hs₃.trans m₄, SR_as S₄⟩
  | ret h1 h2 h3 =>
    rename_i n' xs v u
    refine turn h1 h2 fun o' w s₃ hio' hs₃ S₃ => wpAny_mono (h3.run (C.wth ([(I, eIter It (p + 1 : Nat) w), (It, o')] ++ C.extra)) _ s₃ _ S₃ fun τ₂ f s₄ m₄ S₄ hf => ?_) (fun f s₄ x => x) fun _ _ x => x.elim
    obtain ⟨u, rfl, hu⟩ := hf
    exact hR (τ ++ τ₂) _ _ (hs₃.trans m₄) (SR_as (SR_unwth S₄)) ⟨u, rfl, VR_as hu⟩
end
end Mine

namespace Mine
/-! L13 -/
open PySem PySem.W PyProof.Rows PySem.Spec PySem.Calls
set_option maxRecDepth 100000

structure IterR (d : Nat) (fi : FI) (e : Expr) (σ : St) (a c : Int) (n : Nat) (σ' : St) : Prop where
  run : ∀ (C : RC d fi) (ρ : List Addr) (s : Shared) (Q : Value → Shared → Prop), C.SR σ ρ s.heap →
    (∀ τ r b t u v s', Same s s' → C.SR σ' (ρ ++ τ) s'.heap → IsRange s'.heap r a b c t u v → Builtin.Range.small a b c = true → Builtin.Range.rangeSize a b c = (n : Int) → Q (.ref r) s') → wpAny C.M C.A (eval e C.env) Q NoE s

theorem fits63 {i : Int} (h : i.natAbs < 2 ^ 50) : Builtin.Range.rangeFitsLong i = true := by
  unfold Builtin.Range.rangeFitsLong
  simp only [Bool.and_eq_true, decide_eq_true_eq]
  omega
theorem size_up {a b : Int} : Builtin.Range.rangeSize a b 1 = ((b - a).toNat : Int) := by
  unfold Builtin.Range.rangeSize
  rw [if_pos (by decide)]
  split <;> omega
theorem size_down {a b : Int} : Builtin.Range.rangeSize a b (-1) = ((a - b).toNat : Int) := by
  unfold Builtin.Range.rangeSize
  rw [if_neg (by decide), show (- -1 : Int) = 1 by decide, Int.ediv_one]
  split <;> omega
theorem small_up {a b : Int} (ha : a.natAbs < 2 ^ 48) (hb : b.natAbs < 2 ^ 48) : Builtin.Range.small a b 1 = true := by
  unfold Builtin.Range.small
  rw [size_up, fits63 (i := a) (by omega), fits63 (i := b) (by omega), fits63 (i := 1) (by decide), fits63 (by omega), if_pos (by decide), fits63 (by omega)]
  simp
theorem small_down {a b : Int} (ha : a.natAbs < 2 ^ 48) (hb : b.natAbs < 2 ^ 48) : Builtin.Range.small a b (-1) = true := by
  unfold Builtin.Range.small
  rw [size_down, fits63 (i := a) (by omega), fits63 (i := b) (by omega), fits63 (i := -1) (by decide), fits63 (by omega), if_neg (by decide), fits63 (by omega)]
  simp

section
variable {d : Nat} {fi : FI} {σ σ₁ σ₂ σ₃ σ' : St} {pos : Pos}

theorem callType {x : Str} {p : Pos} {e : Expr} {rest : List Expr} {id : String} {vs : List V} (h1 : EvalTo d fi (.Name x p) σ (.val (.type id)) σ₁) (h2 : EvalsTo d fi (e :: rest) σ₁ vs σ₂) (hs : ∀ env, starEach (e :: rest) env = (false, eval e env) :: starEach rest env)
    (hp : ∀ env, (backTo pos (starEach rest env)).any (·.1) = false) (C : RC d fi) (ρ : List Addr) (s : Shared) (Q : Value → Shared → Prop) (S : C.SR σ ρ s.heap)
    (hQ : ∀ τ us s', Same s s' → C.SR σ₂ (ρ ++ τ) s'.heap → VRs (ρ ++ τ) vs us → wpAny C.M C.A (call (.type id) us) Q NoE s') : wpAny C.M C.A (eval (.Call (.Name x p) (e :: rest) [] pos) C.env) Q NoE s := by
  with_reducible refine Call_ ?_ (call_Name_eq _ _ _ _ _)
  refine h1.run C ρ s _ S fun τ u s₁ m₁ S₁ hu => ?_
  cases hu
  with_reducible refine PyProof.Rows.callWith_type1 ?_ (hs _) (hp _)
  refine h2.run C pos _ s₁ _ S₁ fun τ₂ us s₂ m₂ S₂ hus => ?_
  exact hQ (τ ++ τ₂) _ _ (m₁.trans m₂) (SR_as S₂) (VRs_as hus)

theorem iterRange1 {x : Str} {p : Pos} {e : Expr} {n : Nat} (h0 : EvalTo d fi (.Name x p) σ (.val (.type "range")) σ) (h1 : EvalTo d fi e σ (.nat n) σ₁) (hn : n < 2 ^ 48) (hs : ∀ env, starEach [e] env = (false, eval e env) :: starEach [] env) :
    IterR d fi (.Call (.Name x p) [e] [] pos) σ 0 1 n σ₁ := ⟨fun C ρ s Q S hQ => by
  refine callType h0 (.cons h1 .nil hs) hs (fun _ => rfl) C ρ s Q S fun τ us s₂ m₂ S₂ hus => ?_
  obtain ⟨u, rfl⟩ : ∃ u, us = [u] := len1 hus.length
  obtain ⟨⟨t, rfl⟩, _⟩ := hus
  obtain ⟨m, news, F, N, R, nd, l⟩ := S₂.ex
  refine range1_rows F N fun h' tk t₁ u₁ v₁ hr F' N' hk => ?_
  exact hQ τ _ _ _ _ _ _ (m₂.trans ⟨h', tk, rfl⟩) ⟨m, news, F', N', R, nd, l⟩ hr (small_up (by decide) (by omega)) (by rw [size_up]; omega)⟩
theorem iterRange2 {x : Str} {p : Pos} {e f : Expr} {a b : Nat} (h0 : EvalTo d fi (.Name x p) σ (.val (.type "range")) σ) (h1 : EvalTo d fi e σ (.nat a) σ₁) (h2 : EvalTo d fi f σ₁ (.nat b) σ₂) (ha : a < 2 ^ 48) (hb : b < 2 ^ 48)
    (hs : ∀ env, starEach [e, f] env = (false, eval e env) :: starEach [f] env) (hs' : ∀ env, starEach [f] env = (false, eval f env) :: starEach [] env) :
    IterR d fi (.Call (.Name x p) [e, f] [] pos) σ (a : Int) 1 (b - a) σ₂ := ⟨fun C ρ s Q S hQ => by
  refine callType h0 (.cons h1 (.cons h2 .nil hs') hs) hs (fun env => by rw [hs']; rfl) C ρ s Q S fun τ us s₂ m₂ S₂ hus => ?_
  obtain ⟨u, v, rfl⟩ : ∃ u v, us = [u, v] := len2 hus.length
  obtain ⟨⟨t, rfl⟩, ⟨t', rfl⟩, _⟩ := hus
  obtain ⟨m, news, F, N, R, nd, l⟩ := S₂.ex
  refine range2_rows F N fun h' tk t₁ u₁ v₁ hr F' N' hk => ?_
  exact hQ τ _ _ _ _ _ _ (m₂.trans ⟨h', tk, rfl⟩) ⟨m, news, F', N', R, nd, l⟩ hr (small_up (by omega) (by omega)) (by rw [size_up]; omega)⟩
theorem iterRange3 {x : Str} {p : Pos} {e f g : Expr} {a b : Int} (h0 : EvalTo d fi (.Name x p) σ (.val (.type "range")) σ) (h1 : EvalTo d fi e σ (.int a) σ₁) (h2 : EvalTo d fi f σ₁ (.int b) σ₂) (h3 : EvalTo d fi g σ₂ (.int (-1)) σ₃) (ha : a.natAbs < 2 ^ 48) (hb : b.natAbs < 2 ^ 48)
    (hs : ∀ env, starEach [e, f, g] env = (false, eval e env) :: starEach [f, g] env) (hs' : ∀ env, starEach [f, g] env = (false, eval f env) :: starEach [g] env) (hs'' : ∀ env, starEach [g] env = (false, eval g env) :: starEach [] env) :
    IterR d fi (.Call (.Name x p) [e, f, g] [] pos) σ a (-1) (a - b).toNat σ₃ := ⟨fun C ρ s Q S hQ => by
  refine callType h0 (.cons h1 (.cons h2 (.cons h3 .nil hs'') hs') hs) hs (fun env => by rw [hs', hs'']; rfl) C ρ s Q S fun τ us s₂ m₂ S₂ hus => ?_
  obtain ⟨u, v, w, rfl⟩ : ∃ u v w, us = [u, v, w] := len3 hus.length
  obtain ⟨⟨t, rfl⟩, ⟨t', rfl⟩, ⟨t'', rfl⟩, _⟩ := hus
  obtain ⟨m, news, F, N, R, nd, l⟩ := S₂.ex
  refine range3_rows F N (by decide) (fun h' tk t₁ u₁ v₁ hr F' N' hk => ?_) (.inl (noPylong (by decide)))
  exact hQ τ _ _ _ _ _ _ (m₂.trans ⟨h', tk, rfl⟩) ⟨m, news, F', N', R, nd, l⟩ hr (small_down ha hb) size_down⟩

theorem ExecTo.forR (ok : fi.Ok) {x : Str} {px : Pos} {iter : Expr} {body : List Stmt} {i n : Nat} {a c : Int} {g : Fl} (hi : AtN fi.names i x) (hit : IterR d fi iter σ a c n σ₁) (hr : RunR d fi body i (upFrom a c n) σ₁ g σ')
    (hs : ∀ env v, foldedSetIterable iter env v = pure v) : ExecTo d fi (.For (.Name x px) iter body [] pos) σ g σ' := ⟨fun C ρ s Q S hQ => by
  refine wpAny_For ?_ (hs _)
  refine hit.run C ρ s _ S fun τ r b t u v s₁ m₁ S₁ hR hsm hsz => ?_
  refine wpAny_pyIter_range hR hsm ?_
  rw [hsz]
  obtain ⟨m, news, F, N, R, nd, l⟩ := S₁.ex
  have S₂ : (C.wth ([(s₁.heap.objs.size, rIter a n c)] ++ C.extra)).SR σ₁ (ρ ++ τ) (s₁.heap.push (rIter a n c)) := SR_wth (F.push _) (News.push F N _) N R nd l
  refine forRange_core (s := { s₁ with heap := s₁.heap.push (rIter a n c) }) ok hi S₂ hr fun τ₂ f s' m' S' hf => ?_
  exact hQ (τ ++ τ₂) _ _ (m₁.trans (Same.trans ⟨_, s₁.toks, rfl⟩ m')) (SR_as S') (FR_as hf)⟩

theorem ExecTo.forL (ok : fi.Ok) {x : Str} {px : Pos} {iter : Expr} {body : List Stmt} {i n k : Nat} {xs : List V} {g : Fl} (hi : AtN fi.names i x) (hit : EvalTo d fi iter σ (.ref k) σ₁) (hk : σ₁.heap[k]? = some (.list xs)) (hr : RunL d fi body i k n 0 σ₁ g σ')
    (hs : ∀ env v, foldedSetIterable iter env v = pure v) : ExecTo d fi (.For (.Name x px) iter body [] pos) σ g σ' := ⟨fun C ρ s Q S hQ => by
  refine wpAny_For ?_ (hs _)
  refine hit.run C ρ s _ S fun τ u s₁ m₁ S₁ hu => ?_
  obtain ⟨a, vs, m', ha, hg, hvs⟩ := SR_list S₁ hk
  rw [ref_eq hu ha]
  have hl : s₁.heap.IsList a vs := ⟨_, hg, rfl, m', rfl⟩
  refine wpAny_pyIter_list hl ?_
  obtain ⟨m, news, F, N, R, nd, l⟩ := S₁.ex
  have S₂ : (C.wth ([(s₁.heap.objs.size, ({ cls := .type "list_iterator", data := .fields #[.ref a, .int 0 0] } : Obj))] ++ C.extra)).SR σ₁ (ρ ++ τ) (s₁.heap.push { cls := .type "list_iterator", data := .fields #[.ref a, .int 0 0] }) := SR_wth (F.push _) (News.push F N _) N R nd l
  refine forList_core (s := { s₁ with heap := s₁.heap.push { cls := .type "list_iterator", data := .fields #[.ref a, .int 0 0] } }) (p₀ := 0) ok hi ha ⟨rfl, rfl⟩ S₂ hr fun τ₂ f s' m' S' hf => ?_
  exact hQ (τ ++ τ₂) _ _ (m₁.trans (Same.trans ⟨_, s₁.toks, rfl⟩ m')) (SR_as S') (FR_as hf)⟩

theorem ExecTo.forE (ok : fi.Ok) {x y xf : Str} {px py pt pf : Pos} {e : Expr} {body : List Stmt} {i j n k x1 : Nat} {xs : List V} {g : Fl} {cp : Pos} (hi : AtN fi.names i x) (hj : AtN fi.names j y) (h0 : EvalTo d fi (.Name xf pf) σ (.val (.type "enumerate")) σ)
    (he : EvalTo d fi e σ (.ref k) σ₁) (hk : σ₁.heap[k]? = some (.list xs)) (hr : RunE d fi body i j k n 0 σ₁ g σ') (hse : ∀ env, starEach [e] env = (false, eval e env) :: starEach [] env)
    (hs : ∀ env v, foldedSetIterable (.Call (.Name xf pf) [e] [] cp) env v = pure v) : ExecTo d fi (.For (.Tuple [.Name x px, .Name y py] x1 pt) (.Call (.Name xf pf) [e] [] cp) body [] pos) σ g σ' := ⟨fun C ρ s Q S hQ => by
  refine wpAny_For ?_ (hs _)
  refine callType h0 (.cons he .nil hse) hse (fun _ => rfl) C ρ s _ S fun τ us s₁ m₁ S₁ hus => ?_
  obtain ⟨u, rfl⟩ : ∃ u, us = [u] := len1 hus.length
  obtain ⟨a, vs, m', ha, hg, hvs⟩ := SR_list S₁ hk
  rw [ref_eq hus.1 ha]
  have hl : s₁.heap.IsList a vs := ⟨_, hg, rfl, m', rfl⟩
  obtain ⟨m, news, F, N, R, nd, l⟩ := S₁.ex
  refine enum_rows F hl fun h' hen hit hl' F' hk' hne _ _ _ _ => ?_
  refine wpAny_pyIter_enum hen ?_
  obtain ⟨o, ho, hc, hd⟩ := hit
  have S₂ : (C.wth ([(s₁.heap.objs.size + 1, eIter s₁.heap.objs.size ((0 : Nat) : Int) .none), (s₁.heap.objs.size, o)] ++ C.extra)).SR σ₁ (ρ ++ τ) h' := by
    have hfresh : ∀ b, s₁.heap.objs.size ≤ b → C.h₀.get? b = none := fun b hb => by
      cases e : C.h₀.get? b with
      | none => rfl
      | some o' => exact absurd (Heap.lt_size (F.keep _ _ e)) (Nat.not_lt.mpr hb)
    have hLlt : C.L < s₁.heap.objs.size := F.ns.lt
    have hlt : ∀ p ∈ news ++ C.extra, p.1 < s₁.heap.objs.size := fun p hp => Heap.lt_size (N p hp).1
    refine ⟨m, news, F', fun p hp => ?_, R, ?_, l⟩
    · rcases List.mem_append.mp hp with hp | hp
      · exact ⟨hk' _ _ (N p (List.mem_append_left _ hp)).1, (N p (List.mem_append_left _ hp)).2⟩
      · rcases List.mem_append.mp hp with hp | hp
        · simp only [List.mem_cons, List.not_mem_nil, or_false] at hp
          rcases hp with rfl | rfl
          · exact ⟨hen, Nat.ne_of_gt (Nat.lt_succ_of_lt hLlt), hfresh _ (Nat.le_succ _)⟩
          · exact ⟨ho, Nat.ne_of_gt hLlt, hfresh _ (Nat.le_refl _)⟩
        · exact ⟨hk' _ _ (N p (List.mem_append_right _ hp)).1, (N p (List.mem_append_right _ hp)).2⟩
    · show ((news ++ ([(s₁.heap.objs.size + 1, eIter s₁.heap.objs.size ((0 : Nat) : Int) .none), (s₁.heap.objs.size, o)] ++ C.extra)).map (·.1)).Nodup
      have hl1 : ∀ a ∈ news.map (·.1), a < s₁.heap.objs.size := fun a ha => by
        obtain ⟨p, hp, rfl⟩ := List.mem_map.mp ha
        exact hlt p (List.mem_append_left _ hp)
      have hl2 : ∀ a ∈ C.extra.map (·.1), a < s₁.heap.objs.size := fun a ha => by
        obtain ⟨p, hp, rfl⟩ := List.mem_map.mp ha
        exact hlt p (List.mem_append_right _ hp)
      simp only [List.map_append, List.nodup_append, List.map_cons, List.map_nil] at nd ⊢
      obtain ⟨n1, n2, n3⟩ := nd
      refine ⟨n1, ⟨by simp, n2, ?_⟩, ?_⟩
      · intro x hx y hy e
        subst e
        have h1 := hl2 _ hy
        rcases List.mem_cons.mp hx with h2 | hx
        · exact absurd h1 (by rw [h2]; exact Nat.not_lt.mpr (Nat.le_succ _))
        · rcases List.mem_cons.mp hx with h2 | hx
          · exact absurd h1 (by rw [h2]; exact Nat.lt_irrefl _)
          · cases hx
      · intro x hx y hy e
        subst e
        rcases List.mem_append.mp hy with hy | hy
        · have h1 := hl1 _ hx
          rcases List.mem_cons.mp hy with h2 | hy
          · exact absurd h1 (by rw [h2]; exact Nat.not_lt.mpr (Nat.le_succ _))
          · rcases List.mem_cons.mp hy with h2 | hy
            · exact absurd h1 (by rw [h2]; exact Nat.lt_irrefl _)
            · cases hy
        · exact n3 _ hx _ hy rfl
  refine forEnum_core (s := { s₁ with heap := h' }) (p₀ := 0) ok hi hj ha ⟨hc, hd⟩ hne S₂ hr fun τ₂ f s' m' S' hf => ?_
  exact hQ (τ ++ τ₂) _ _ (m₁.trans (Same.trans ⟨_, s₁.toks, rfl⟩ m')) (SR_as S') (FR_as hf)⟩
end
end Mine

namespace Mine
/-! F0 -/
open PySem PySem.W PyProof.Rows PySem.Spec PySem.Calls
set_option maxRecDepth 100000
noncomputable abbrev fi_normal : FI := { name := "normal", params := fdArgs (stAt 4), body := fdBody (stAt 4), scope := fdScope (stAt 4), addr := 58, code := 57, names := ["a", "end"], gl := ["len"] }
theorem ok_normal : FI.Ok fi_normal := ⟨by decide +kernel, by decide +kernel, by decide +kernel, rfl, rfl, rfl, (fun _ h => nomatch h), List.nodup_nil⟩
theorem lk_normal : FI.Look fi_normal 1 := ⟨⟨fun P => ⟨_, _, _, _, _, _, _, _, _, rfl, fun vs h => by
  obtain ⟨v0, rfl⟩ := len1 h.symm
  rfl⟩, fun P => by kernel_rfl⟩, by decide +kernel, rfl⟩
noncomputable abbrev fi_is_even : FI := { name := "is_even", params := fdArgs (stAt 5), body := fdBody (stAt 5), scope := fdScope (stAt 5), addr := 65, code := 64, names := ["a"], gl := ["len"] }
theorem ok_is_even : FI.Ok fi_is_even := ⟨by decide +kernel, by decide +kernel, by decide +kernel, rfl, rfl, rfl, (fun _ h => nomatch h), List.nodup_nil⟩
theorem lk_is_even : FI.Look fi_is_even 1 := ⟨⟨fun P => ⟨_, _, _, _, _, _, _, _, _, rfl, fun vs h => by
  obtain ⟨v0, rfl⟩ := len1 h.symm
  rfl⟩, fun P => by kernel_rfl⟩, by decide +kernel, rfl⟩
noncomputable abbrev fi_compare : FI := { name := "compare", params := fdArgs (stAt 6), body := fdBody (stAt 6), scope := fdScope (stAt 6), addr := 72, code := 71, names := ["a", "b", "at"], gl := ["len", "range"] }
theorem ok_compare : FI.Ok fi_compare := ⟨by decide +kernel, by decide +kernel, by decide +kernel, rfl, rfl, rfl, (fun _ h => nomatch h), List.nodup_nil⟩
theorem lk_compare : FI.Look fi_compare 2 := ⟨⟨fun P => ⟨_, _, _, _, _, _, _, _, _, rfl, fun vs h => by
  obtain ⟨v0, v1, rfl⟩ := len2 h.symm
  rfl⟩, fun P => by kernel_rfl⟩, by decide +kernel, rfl⟩
noncomputable abbrev fi_divrem_limb : FI := { name := "divrem_limb", params := fdArgs (stAt 7), body := fdBody (stAt 7), scope := fdScope (stAt 7), addr := 79, code := 78, names := ["a", "limb", "w", "found", "rest", "at"], gl := ["len", "range", "normal"] }
theorem ok_divrem_limb : FI.Ok fi_divrem_limb := ⟨by decide +kernel, by decide +kernel, by decide +kernel, rfl, rfl, rfl, (fun _ h => nomatch h), List.nodup_nil⟩
theorem lk_divrem_limb : FI.Look fi_divrem_limb 3 := ⟨⟨fun P => ⟨_, _, _, _, _, _, _, _, _, rfl, fun vs h => by
  obtain ⟨v0, v1, v2, rfl⟩ := len3 h.symm
  rfl⟩, fun P => by kernel_rfl⟩, by decide +kernel, rfl⟩
noncomputable abbrev fi_shift_left : FI := { name := "shift_left", params := fdArgs (stAt 8), body := fdBody (stAt 8), scope := fdScope (stAt 8), addr := 86, code := 85, names := ["a", "n", "w", "spots", "few", "found", "carry", "mask", "one"], gl := ["len"] }
theorem ok_shift_left : FI.Ok fi_shift_left := ⟨by decide +kernel, by decide +kernel, by decide +kernel, rfl, rfl, rfl, (fun _ h => nomatch h), List.nodup_nil⟩
theorem lk_shift_left : FI.Look fi_shift_left 3 := ⟨⟨fun P => ⟨_, _, _, _, _, _, _, _, _, rfl, fun vs h => by
  obtain ⟨v0, v1, v2, rfl⟩ := len3 h.symm
  rfl⟩, fun P => by kernel_rfl⟩, by decide +kernel, rfl⟩
noncomputable abbrev fi_shift_right : FI := { name := "shift_right", params := fdArgs (stAt 9), body := fdBody (stAt 9), scope := fdScope (stAt 9), addr := 93, code := 92, names := ["a", "n", "w", "spots", "few", "found", "mask", "at", "above"], gl := ["range", "len", "normal"] }
theorem ok_shift_right : FI.Ok fi_shift_right := ⟨by decide +kernel, by decide +kernel, by decide +kernel, rfl, rfl, rfl, (fun _ h => nomatch h), List.nodup_nil⟩
theorem lk_shift_right : FI.Look fi_shift_right 3 := ⟨⟨fun P => ⟨_, _, _, _, _, _, _, _, _, rfl, fun vs h => by
  obtain ⟨v0, v1, v2, rfl⟩ := len3 h.symm
  rfl⟩, fun P => by kernel_rfl⟩, by decide +kernel, rfl⟩
noncomputable abbrev fi_bits : FI := { name := "bits", params := fdArgs (stAt 10), body := fdBody (stAt 10), scope := fdScope (stAt 10), addr := 100, code := 99, names := ["a", "w"], gl := ["len"] }
theorem ok_bits : FI.Ok fi_bits := ⟨by decide +kernel, by decide +kernel, by decide +kernel, rfl, rfl, rfl, (fun _ h => nomatch h), List.nodup_nil⟩
theorem lk_bits : FI.Look fi_bits 2 := ⟨⟨fun P => ⟨_, _, _, _, _, _, _, _, _, rfl, fun vs h => by
  obtain ⟨v0, v1, rfl⟩ := len2 h.symm
  rfl⟩, fun P => by kernel_rfl⟩, by decide +kernel, rfl⟩
noncomputable abbrev fi_bit : FI := { name := "bit", params := fdArgs (stAt 11), body := fdBody (stAt 11), scope := fdScope (stAt 11), addr := 107, code := 106, names := ["a", "n", "w"], gl := ["len"] }
theorem ok_bit : FI.Ok fi_bit := ⟨by decide +kernel, by decide +kernel, by decide +kernel, rfl, rfl, rfl, (fun _ h => nomatch h), List.nodup_nil⟩
theorem lk_bit : FI.Look fi_bit 3 := ⟨⟨fun P => ⟨_, _, _, _, _, _, _, _, _, rfl, fun vs h => by
  obtain ⟨v0, v1, v2, rfl⟩ := len3 h.symm
  rfl⟩, fun P => by kernel_rfl⟩, by decide +kernel, rfl⟩
noncomputable abbrev fi_trailing : FI := { name := "trailing", params := fdArgs (stAt 12), body := fdBody (stAt 12), scope := fdScope (stAt 12), addr := 114, code := 113, names := ["a", "w", "at", "limb"], gl := ["enumerate"] }
theorem ok_trailing : FI.Ok fi_trailing := ⟨by decide +kernel, by decide +kernel, by decide +kernel, rfl, rfl, rfl, (fun _ h => nomatch h), List.nodup_nil⟩
theorem lk_trailing : FI.Look fi_trailing 2 := ⟨⟨fun P => ⟨_, _, _, _, _, _, _, _, _, rfl, fun vs h => by
  obtain ⟨v0, v1, rfl⟩ := len2 h.symm
  rfl⟩, fun P => by kernel_rfl⟩, by decide +kernel, rfl⟩
noncomputable abbrev fi_odd_powers : FI := { name := "odd_powers", params := fdArgs (stAt 14), body := fdBody (stAt 14), scope := fdScope (stAt 14), addr := 121, code := 120, names := ["base", "size", "times", "found", "square", "turn"], gl := ["range"] }
theorem ok_odd_powers : FI.Ok fi_odd_powers := ⟨by decide +kernel, by decide +kernel, by decide +kernel, rfl, rfl, rfl, (fun _ h => nomatch h), List.nodup_nil⟩
theorem lk_odd_powers : FI.Look fi_odd_powers 3 := ⟨⟨fun P => ⟨_, _, _, _, _, _, _, _, _, rfl, fun vs h => by
  obtain ⟨v0, v1, v2, rfl⟩ := len3 h.symm
  rfl⟩, fun P => by kernel_rfl⟩, by decide +kernel, rfl⟩
noncomputable abbrev fi_window_at : FI := { name := "window_at", params := fdArgs (stAt 15), body := fdBody (stAt 15), scope := fdScope (stAt 15), addr := 128, code := 127, names := ["e", "top", "size", "w", "last", "value", "spot"], gl := ["max", "bit", "range"] }
theorem ok_window_at : FI.Ok fi_window_at := ⟨by decide +kernel, by decide +kernel, by decide +kernel, rfl, rfl, rfl, (fun _ h => nomatch h), List.nodup_nil⟩
theorem lk_window_at : FI.Look fi_window_at 4 := ⟨⟨fun P => ⟨_, _, _, _, _, _, _, _, _, rfl, fun vs h => by
  obtain ⟨v0, v1, v2, v3, rfl⟩ := len4 h.symm
  rfl⟩, fun P => by kernel_rfl⟩, by decide +kernel, rfl⟩
noncomputable abbrev fi_by_windows : FI := { name := "by_windows", params := fdArgs (stAt 16), body := fdBody (stAt 16), scope := fdScope (stAt 16), addr := 135, code := 134, names := ["base", "e", "size", "w", "one", "times", "table", "found", "spot", "value", "many", "turn"], gl := ["odd_powers", "bits", "bit", "window_at", "range"] }
theorem ok_by_windows : FI.Ok fi_by_windows := ⟨by decide +kernel, by decide +kernel, by decide +kernel, rfl, rfl, rfl, (fun _ h => nomatch h), List.nodup_nil⟩
theorem lk_by_windows : FI.Look fi_by_windows 6 := ⟨⟨fun P => ⟨_, _, _, _, _, _, _, _, _, rfl, fun vs h => by
  obtain ⟨v0, v1, v2, v3, v4, v5, rfl⟩ := len6 h.symm
  rfl⟩, fun P => by kernel_rfl⟩, by decide +kernel, rfl⟩
noncomputable abbrev fi_check_modulus : FI := { name := "check_modulus", params := fdArgs (stAt 17), body := fdBody (stAt 17), scope := fdScope (stAt 17), addr := 142, code := 141, names := ["m"], gl := [] }
theorem ok_check_modulus : FI.Ok fi_check_modulus := ⟨by decide +kernel, by decide +kernel, by decide +kernel, rfl, rfl, rfl, (fun _ h => nomatch h), List.nodup_nil⟩
theorem lk_check_modulus : FI.Look fi_check_modulus 1 := ⟨⟨fun P => ⟨_, _, _, _, _, _, _, _, _, rfl, fun vs h => by
  obtain ⟨v0, rfl⟩ := len1 h.symm
  rfl⟩, fun P => by kernel_rfl⟩, by decide +kernel, rfl⟩
noncomputable abbrev fi_unit_rest : FI := { name := "unit_rest", params := fdArgs (stAt 18), body := fdBody (stAt 18), scope := fdScope (stAt 18), addr := 149, code := 148, names := ["m"], gl := [] }
theorem ok_unit_rest : FI.Ok fi_unit_rest := ⟨by decide +kernel, by decide +kernel, by decide +kernel, rfl, rfl, rfl, (fun _ h => nomatch h), List.nodup_nil⟩
theorem lk_unit_rest : FI.Look fi_unit_rest 1 := ⟨⟨fun P => ⟨_, _, _, _, _, _, _, _, _, rfl, fun vs h => by
  obtain ⟨v0, rfl⟩ := len1 h.symm
  rfl⟩, fun P => by kernel_rfl⟩, by decide +kernel, rfl⟩
noncomputable abbrev fi_power_mod : FI := { name := "power_mod", params := fdArgs (stAt 20), body := fdBody (stAt 20), scope := fdScope (stAt 20), addr := 163, code := 162, names := ["a", "e", "m", "w", "size", "mul", "divrem", "base"], gl := ["check_modulus", "by_windows", "unit_rest", "divided_times"] }
theorem ok_power_mod : FI.Ok fi_power_mod := ⟨by decide +kernel, by decide +kernel, by decide +kernel, rfl, rfl, rfl, (fun _ h => nomatch h), List.nodup_nil⟩
theorem lk_power_mod : FI.Look fi_power_mod 7 := ⟨⟨fun P => ⟨_, _, _, _, _, _, _, _, _, rfl, fun vs h => by
  obtain ⟨v0, v1, v2, v3, v4, v5, v6, rfl⟩ := len7 h.symm
  rfl⟩, fun P => by kernel_rfl⟩, by decide +kernel, rfl⟩
noncomputable abbrev fi_two_sign : FI := { name := "two_sign", params := fdArgs (stAt 23), body := fdBody (stAt 23), scope := fdScope (stAt 23), addr := 175, code := 174, names := ["twos", "a", "w"], gl := ["last_bits"] }
theorem ok_two_sign : FI.Ok fi_two_sign := ⟨by decide +kernel, by decide +kernel, by decide +kernel, rfl, rfl, rfl, (fun _ h => nomatch h), List.nodup_nil⟩
theorem lk_two_sign : FI.Look fi_two_sign 3 := ⟨⟨fun P => ⟨_, _, _, _, _, _, _, _, _, rfl, fun vs h => by
  obtain ⟨v0, v1, v2, rfl⟩ := len3 h.symm
  rfl⟩, fun P => by kernel_rfl⟩, by decide +kernel, rfl⟩
noncomputable abbrev fi_jacobi : FI := { name := "jacobi", params := fdArgs (stAt 24), body := fdBody (stAt 24), scope := fdScope (stAt 24), addr := 182, code := 181, names := ["a", "n", "w", "divrem", "found", "twos"], gl := ["is_even", "len", "trailing", "shift_right", "two_sign", "last_bits", "compare"] }
theorem ok_jacobi : FI.Ok fi_jacobi := ⟨by decide +kernel, by decide +kernel, by decide +kernel, rfl, rfl, rfl, (fun _ h => nomatch h), List.nodup_nil⟩
theorem lk_jacobi : FI.Look fi_jacobi 4 := ⟨⟨fun P => ⟨_, _, _, _, _, _, _, _, _, rfl, fun vs h => by
  obtain ⟨v0, v1, v2, v3, rfl⟩ := len4 h.symm
  rfl⟩, fun P => by kernel_rfl⟩, by decide +kernel, rfl⟩
noncomputable abbrev fi_mul_school : FI := { name := "mul_school", params := fdArgs (stAt 26), body := fdBody (stAt 26), scope := fdScope (stAt 26), addr := 189, code := 188, names := ["a", "b", "w", "found", "mask", "at", "limb", "carry", "spot", "other"], gl := ["len", "enumerate", "normal"] }
theorem ok_mul_school : FI.Ok fi_mul_school := ⟨by decide +kernel, by decide +kernel, by decide +kernel, rfl, rfl, rfl, (fun _ h => nomatch h), List.nodup_nil⟩
theorem lk_mul_school : FI.Look fi_mul_school 3 := ⟨⟨fun P => ⟨_, _, _, _, _, _, _, _, _, rfl, fun vs h => by
  obtain ⟨v0, v1, v2, rfl⟩ := len3 h.symm
  rfl⟩, fun P => by kernel_rfl⟩, by decide +kernel, rfl⟩
noncomputable abbrev fi_divrem_small : FI := { name := "divrem_small", params := fdArgs (stAt 27), body := fdBody (stAt 27), scope := fdScope (stAt 27), addr := 196, code := 195, names := ["a", "b", "w", "quotient", "rest"], gl := ["divrem_limb"] }
theorem ok_divrem_small : FI.Ok fi_divrem_small := ⟨by decide +kernel, by decide +kernel, by decide +kernel, rfl, rfl, rfl, (fun _ h => nomatch h), List.nodup_nil⟩
theorem lk_divrem_small : FI.Look fi_divrem_small 3 := ⟨⟨fun P => ⟨_, _, _, _, _, _, _, _, _, rfl, fun vs h => by
  obtain ⟨v0, v1, v2, rfl⟩ := len3 h.symm
  rfl⟩, fun P => by kernel_rfl⟩, by decide +kernel, rfl⟩
noncomputable abbrev fi_guessed_limb : FI := { name := "guessed_limb", params := fdArgs (stAt 28), body := fdBody (stAt 28), scope := fdScope (stAt 28), addr := 203, code := 202, names := ["top", "first", "second", "w", "high", "base", "limb", "rest"], gl := ["min"] }
theorem ok_guessed_limb : FI.Ok fi_guessed_limb := ⟨by decide +kernel, by decide +kernel, by decide +kernel, rfl, rfl, rfl, (fun _ h => nomatch h), List.nodup_nil⟩
theorem lk_guessed_limb : FI.Look fi_guessed_limb 4 := ⟨⟨fun P => ⟨_, _, _, _, _, _, _, _, _, rfl, fun vs h => by
  obtain ⟨v0, v1, v2, v3, rfl⟩ := len4 h.symm
  rfl⟩, fun P => by kernel_rfl⟩, by decide +kernel, rfl⟩
noncomputable abbrev fi_take_away : FI := { name := "take_away", params := fdArgs (stAt 29), body := fdBody (stAt 29), scope := fdScope (stAt 29), addr := 210, code := 209, names := ["rest", "b", "limb", "at", "w", "carry", "base", "spot", "other", "here"], gl := ["enumerate", "len"] }
theorem ok_take_away : FI.Ok fi_take_away := ⟨by decide +kernel, by decide +kernel, by decide +kernel, rfl, rfl, rfl, (fun _ h => nomatch h), List.nodup_nil⟩
theorem lk_take_away : FI.Look fi_take_away 5 := ⟨⟨fun P => ⟨_, _, _, _, _, _, _, _, _, rfl, fun vs h => by
  obtain ⟨v0, v1, v2, v3, v4, rfl⟩ := len5 h.symm
  rfl⟩, fun P => by kernel_rfl⟩, by decide +kernel, rfl⟩
noncomputable abbrev fi_put_back : FI := { name := "put_back", params := fdArgs (stAt 30), body := fdBody (stAt 30), scope := fdScope (stAt 30), addr := 217, code := 216, names := ["rest", "b", "at", "w", "carry", "mask", "spot", "other"], gl := ["enumerate", "len"] }
theorem ok_put_back : FI.Ok fi_put_back := ⟨by decide +kernel, by decide +kernel, by decide +kernel, rfl, rfl, rfl, (fun _ h => nomatch h), List.nodup_nil⟩
theorem lk_put_back : FI.Look fi_put_back 4 := ⟨⟨fun P => ⟨_, _, _, _, _, _, _, _, _, rfl, fun vs h => by
  obtain ⟨v0, v1, v2, v3, rfl⟩ := len4 h.symm
  rfl⟩, fun P => by kernel_rfl⟩, by decide +kernel, rfl⟩
noncomputable abbrev fi_divide_rows : FI := { name := "divide_rows", params := fdArgs (stAt 31), body := fdBody (stAt 31), scope := fdScope (stAt 31), addr := 224, code := 223, names := ["rest", "b", "w", "size", "quotient", "at", "limb"], gl := ["len", "range", "guessed_limb", "take_away", "put_back"] }
theorem ok_divide_rows : FI.Ok fi_divide_rows := ⟨by decide +kernel, by decide +kernel, by decide +kernel, rfl, rfl, rfl, (fun _ h => nomatch h), List.nodup_nil⟩
theorem lk_divide_rows : FI.Look fi_divide_rows 3 := ⟨⟨fun P => ⟨_, _, _, _, _, _, _, _, _, rfl, fun vs h => by
  obtain ⟨v0, v1, v2, rfl⟩ := len3 h.symm
  rfl⟩, fun P => by kernel_rfl⟩, by decide +kernel, rfl⟩
noncomputable abbrev fi_divrem_school : FI := { name := "divrem_school", params := fdArgs (stAt 32), body := fdBody (stAt 32), scope := fdScope (stAt 32), addr := 231, code := 230, names := ["a", "b", "w", "shift", "divisor", "rest", "quotient"], gl := ["len", "compare", "divrem_small", "bits", "shift_left", "divide_rows", "normal", "shift_right"] }
theorem ok_divrem_school : FI.Ok fi_divrem_school := ⟨by decide +kernel, by decide +kernel, by decide +kernel, rfl, rfl, rfl, (fun _ h => nomatch h), List.nodup_nil⟩
theorem lk_divrem_school : FI.Look fi_divrem_school 3 := ⟨⟨fun P => ⟨_, _, _, _, _, _, _, _, _, rfl, fun vs h => by
  obtain ⟨v0, v1, v2, rfl⟩ := len3 h.symm
  rfl⟩, fun P => by kernel_rfl⟩, by decide +kernel, rfl⟩
noncomputable abbrev fi_law_dug : FI := { name := "_law_dug", params := fdArgs (stAt 34), body := fdBody (stAt 34), scope := fdScope (stAt 34), addr := 238, code := 237, names := ["mine", "many"], gl := ["len"] }
theorem ok_law_dug : FI.Ok fi_law_dug := ⟨by decide +kernel, by decide +kernel, by decide +kernel, rfl, rfl, rfl, (fun _ h => nomatch h), List.nodup_nil⟩
theorem lk_law_dug : FI.Look fi_law_dug 2 := ⟨⟨fun P => ⟨_, _, _, _, _, _, _, _, _, rfl, fun vs h => by
  obtain ⟨v0, v1, rfl⟩ := len2 h.symm
  rfl⟩, fun P => by kernel_rfl⟩, by decide +kernel, rfl⟩
noncomputable abbrev fi_law_limbs : FI := { name := "_law_limbs", params := fdArgs (stAt 35), body := fdBody (stAt 35), scope := fdScope (stAt 35), addr := 245, code := 244, names := ["number", "w", "found"], gl := [] }
theorem ok_law_limbs : FI.Ok fi_law_limbs := ⟨by decide +kernel, by decide +kernel, by decide +kernel, rfl, rfl, rfl, (fun _ h => nomatch h), List.nodup_nil⟩
theorem lk_law_limbs : FI.Look fi_law_limbs 2 := ⟨⟨fun P => ⟨_, _, _, _, _, _, _, _, _, rfl, fun vs h => by
  obtain ⟨v0, v1, rfl⟩ := len2 h.symm
  rfl⟩, fun P => by kernel_rfl⟩, by decide +kernel, rfl⟩
noncomputable abbrev fi_law_raised : FI := { name := "_law_raised", params := fdArgs (stAt 36), body := fdBody (stAt 36), scope := fdScope (stAt 36), addr := 252, code := 251, names := ["a", "many", "n", "w"], gl := ["power_mod", "_law_limbs", "mul_school", "divrem_school"] }
theorem ok_law_raised : FI.Ok fi_law_raised := ⟨by decide +kernel, by decide +kernel, by decide +kernel, rfl, rfl, rfl, (fun _ h => nomatch h), List.nodup_nil⟩
theorem lk_law_raised : FI.Look fi_law_raised 4 := ⟨⟨fun P => ⟨_, _, _, _, _, _, _, _, _, rfl, fun vs h => by
  obtain ⟨v0, v1, v2, v3, rfl⟩ := len4 h.symm
  rfl⟩, fun P => by kernel_rfl⟩, by decide +kernel, rfl⟩
noncomputable abbrev fi_law_times : FI := { name := "_law_times", params := fdArgs (stAt 37), body := fdBody (stAt 37), scope := fdScope (stAt 37), addr := 259, code := 258, names := ["a", "b", "n", "w"], gl := ["divrem_school", "mul_school"] }
theorem ok_law_times : FI.Ok fi_law_times := ⟨by decide +kernel, by decide +kernel, by decide +kernel, rfl, rfl, rfl, (fun _ h => nomatch h), List.nodup_nil⟩
theorem lk_law_times : FI.Look fi_law_times 4 := ⟨⟨fun P => ⟨_, _, _, _, _, _, _, _, _, rfl, fun vs h => by
  obtain ⟨v0, v1, v2, v3, rfl⟩ := len4 h.symm
  rfl⟩, fun P => by kernel_rfl⟩, by decide +kernel, rfl⟩
noncomputable abbrev fi_law_squarings : FI := { name := "_law_squarings", params := fdArgs (stAt 38), body := fdBody (stAt 38), scope := fdScope (stAt 38), addr := 266, code := 265, names := ["a", "n", "w", "most", "many"], gl := ["range", "_law_times"] }
theorem ok_law_squarings : FI.Ok fi_law_squarings := ⟨by decide +kernel, by decide +kernel, by decide +kernel, rfl, rfl, rfl, (fun _ h => nomatch h), List.nodup_nil⟩
theorem lk_law_squarings : FI.Look fi_law_squarings 4 := ⟨⟨fun P => ⟨_, _, _, _, _, _, _, _, _, rfl, fun vs h => by
  obtain ⟨v0, v1, v2, v3, rfl⟩ := len4 h.symm
  rfl⟩, fun P => by kernel_rfl⟩, by decide +kernel, rfl⟩
end Mine

namespace Mine
/-! L14 -/
open PySem PySem.W PyProof.Rows PySem.Spec PySem.Calls
set_option maxRecDepth 100000
theorem nats_set (xs : List Nat) (i v : Nat) : O.nats (xs.set i v) = .list ((xs.map V.nat).set i (V.nat v)) := by simp [O.nats, List.map_set]
theorem nats_take (xs : List Nat) (n : Nat) : O.nats (xs.take n) = .list ((xs.map V.nat).take n) := by simp [O.nats, List.map_take]
theorem nats_run (xs : List Nat) (a b : Nat) : O.nats ((xs.drop a).take b) = .list (((xs.map V.nat).drop a).take b) := by simp [O.nats, List.map_take, List.map_drop]
theorem nats_rep (n v : Nat) : O.nats (List.replicate n v) = .list (List.replicate n (V.nat v)) := by simp [O.nats]
theorem nats_app (xs ys : List Nat) : O.nats (xs ++ ys) = .list (xs.map V.nat ++ ys.map V.nat) := by simp [O.nats]
section
variable {d : Nat} {fi : FI} {σ σ₁ σ₂ σ₃ σ' : St} {pos : Pos}
theorem EvalTo.kLit {n k : Nat} : EvalTo d fi (.Constant (.int (@OfNat.ofNat Int n instOfNat)) k pos) σ (.int ((@OfNat.ofNat Nat n (instOfNatNat n) : Nat) : Int)) σ := EvalTo.kInt
theorem V.ne_int {i : Int} : V.int i ≠ .undef := fun h => nomatch h
theorem V.ne_ref {k : Nat} : V.ref k ≠ .undef := fun h => nomatch h
theorem V.ne_none : V.none ≠ .undef := fun h => nomatch h
theorem V.ne_bool {b : Bool} : V.bool b ≠ .undef := fun h => nomatch h
theorem V.ne_val {v : Value} : V.val v ≠ .undef := fun h => nomatch h

theorem nats_get {ns : List Nat} {i : Nat} (h : i < ns.length) : (ns.map V.nat)[i]? = some (V.nat (ns.getD i 0)) := by
  simp [List.getElem?_map, List.getElem?_eq_getElem h, List.getD_eq_getElem?_getD]

theorem EvalTo.lenN {x : Str} {p : Pos} {e : Expr} {k : Nat} {xs : List Nat} (h1 : EvalTo d fi (.Name x p) σ (.val (.builtin "len")) σ) (h2 : EvalTo d fi e σ (.ref k) σ₂) (hk : σ₂.heap[k]? = some (.nats xs)) (hs : ∀ env, starEach [e] env = (false, eval e env) :: starEach [] env) (hn : xs.length ≤ 2 ^ 20) :
    EvalTo d fi (.Call (.Name x p) [e] [] pos) σ (.nat xs.length) σ₂ := by
  have := EvalTo.len (pos := pos) h1 h2 hk (by simpa using hn) hs
  simpa using this
theorem EvalTo.itemN {vE sE : Expr} {k i : Nat} {xs : List Nat} (h1 : EvalTo d fi vE σ (.ref k) σ₁) (h2 : EvalTo d fi sE σ₁ (.nat i) σ₂) (hk : σ₂.heap[k]? = some (.nats xs)) (hx : i < xs.length) (hi : xs.length ≤ 2 ^ 20) :
    EvalTo d fi (.Subscript vE sE pos) σ (.nat (xs.getD i 0)) σ₂ := EvalTo.item h1 h2 hk (nats_get hx) (by omega)
theorem EvalTo.itemLastN {vE sE : Expr} {k : Nat} {xs : List Nat} (h1 : EvalTo d fi vE σ (.ref k) σ₁) (h2 : EvalTo d fi sE σ₁ (.int (-((1 : Nat) : Int))) σ₂) (hk : σ₂.heap[k]? = some (.nats xs)) (hx : 0 < xs.length) (hi : xs.length ≤ 2 ^ 20) :
    EvalTo d fi (.Subscript vE sE pos) σ (.nat (xs.getD (xs.length - 1) 0)) σ₂ := EvalTo.itemLast h1 h2 hk (by simpa using nats_get (ns := xs) (i := xs.length - 1) (by omega)) (by simp; omega)
theorem ExecTo.setItemN {oE iE e : Expr} {p : Pos} {k i v : Nat} {xs : List Nat} (h : EvalTo d fi e σ (.nat v) σ₁) (h1 : EvalTo d fi oE σ₁ (.ref k) σ₂) (h2 : EvalTo d fi iE σ₂ (.nat i) σ₃) (hk : σ₃.heap[k]? = some (.nats xs))
    (hs : ∀ env, swapsWith e (some (.Subscript oE iE p)) pos.line env = pure false) (hi : i < xs.length) (hb : xs.length ≤ 2 ^ 20) : ExecTo d fi (.Assign [.Subscript oE iE p] e pos) σ .next ⟨σ₃.loc, σ₃.heap.set k (.nats (xs.set i v))⟩ := by
  rw [nats_set]
  exact ExecTo.setItem (pos := pos) (p := p) h h1 h2 hk (by simpa using hi) (by omega) hs
theorem EvalTo.sliceToN {vE e : Expr} {sp : Pos} {k n : Nat} {xs : List Nat} (h1 : EvalTo d fi vE σ (.ref k) σ₁) (h2 : EvalTo d fi e σ₁ (.nat n) σ₂) (hk : σ₂.heap[k]? = some (.nats xs)) (hn : n ≤ xs.length) (hlen : xs.length ≤ 2 ^ 20) :
    EvalTo d fi (.Subscript vE (.Slice Option.none (some e) Option.none sp) pos) σ (.ref σ₂.heap.length) ⟨σ₂.loc, σ₂.heap ++ [.nats (xs.take n)]⟩ := by
  rw [nats_take]
  exact EvalTo.sliceTo (pos := pos) (sp := sp) h1 h2 hk (by simpa using hn) (by simpa using hlen)
theorem EvalTo.sliceRunN {vE e f : Expr} {sp : Pos} {k a b : Nat} {xs : List Nat} (h1 : EvalTo d fi vE σ (.ref k) σ₁) (h2 : EvalTo d fi e σ₁ (.nat a) σ₂) (h3 : EvalTo d fi f σ₂ (.nat b) σ₃) (hk : σ₃.heap[k]? = some (.nats xs))
    (hab : a ≤ b) (hb : b ≤ xs.length) (hlen : xs.length ≤ 2 ^ 20) :
    EvalTo d fi (.Subscript vE (.Slice (some e) (some f) Option.none sp) pos) σ (.ref σ₃.heap.length) ⟨σ₃.loc, σ₃.heap ++ [.nats ((xs.drop a).take (b - a))]⟩ := by
  rw [nats_run]
  exact EvalTo.sliceRun (pos := pos) (sp := sp) h1 h2 h3 hk hab (by simpa using hb) (by simpa using hlen)
theorem EvalTo.sliceAllN {vE : Expr} {sp : Pos} {k : Nat} {xs : List Nat} (h1 : EvalTo d fi vE σ (.ref k) σ₁) (hk : σ₁.heap[k]? = some (.nats xs)) (hlen : xs.length ≤ 2 ^ 20) :
    EvalTo d fi (.Subscript vE (.Slice Option.none Option.none Option.none sp) pos) σ (.ref σ₁.heap.length) ⟨σ₁.loc, σ₁.heap ++ [.nats xs]⟩ := EvalTo.sliceAll h1 hk (by simpa using hlen)
theorem EvalTo.nilN {es : List Expr} (h : EvalsTo d fi es σ [] σ₁) : EvalTo d fi (.List es pos) σ (.ref σ₁.heap.length) ⟨σ₁.loc, σ₁.heap ++ [.nats []]⟩ := EvalTo.list h (by simp)
theorem EvalTo.replN {e r : Expr} {lp : Pos} {v n : Nat} (h1 : EvalTo d fi e σ (.nat v) σ₁) (he : ∀ env, starEach [e] env = (false, eval e env) :: starEach [] env) (h2 : EvalTo d fi r σ₁ (.nat n) σ₂) (hn : n ≤ 2 ^ 20) :
    EvalTo d fi (.BinOp (.List [e] lp) .Mult r pos) σ (.ref σ₂.heap.length) ⟨σ₂.loc, σ₂.heap ++ [.nats (List.replicate n v)]⟩ := by
  rw [nats_rep]
  exact EvalTo.repl (pos := pos) (lp := lp) h1 he h2 hn
theorem EvalTo.catN {l r : Expr} {k j : Nat} {xs ys : List Nat} (h1 : EvalTo d fi l σ (.ref k) σ₁) (h2 : EvalTo d fi r σ₁ (.ref j) σ₂) (hk : σ₂.heap[k]? = some (.nats xs)) (hj : σ₂.heap[j]? = some (.nats ys)) (hlen : xs.length + ys.length ≤ 2 ^ 20) :
    EvalTo d fi (.BinOp l .Add r pos) σ (.ref σ₂.heap.length) ⟨σ₂.loc, σ₂.heap ++ [.nats (xs ++ ys)]⟩ := by
  rw [nats_app]
  exact EvalTo.cat (pos := pos) h1 h2 hk hj (by simpa using hlen)
theorem ExecTo.appendN {oE e : Expr} {ap p : Pos} {k v : Nat} {xs ys : List Nat} (h1 : EvalTo d fi oE σ (.ref k) σ₁) (hy : σ₁.heap[k]? = some (.nats ys)) (h2 : EvalTo d fi e σ₁ (.nat v) σ₂) (hk : σ₂.heap[k]? = some (.nats xs)) (pl : Env → Sem Bool)
    (he : ∀ env, eval (.Call (.Attribute oE "append" ap) [e] [] p) env = (do
      let ov ← eval oE env
      standAt ap.atName
      let __x ← holding [ov] (getMethod ov "append" (pl env))
      match __x with
        | (f, first) => callWith p f first (backTo p (starEach [e] env)) []))
    (a1 : ∀ env, starEach [e] env = (false, eval e env) :: starEach [] env) (hs : ∀ env, swapsWith (.Call (.Attribute oE "append" ap) [e] [] p) none pos.line env = pure false) (hk' : fi.scope.kind = .function) (hn : xs.length ≤ 2 ^ 20) :
    ExecTo d fi (.Expr (.Call (.Attribute oE "append" ap) [e] [] p) pos) σ .next ⟨σ₂.loc, σ₂.heap.set k (.nats (xs ++ [v]))⟩ := by
  rw [nats_app]
  exact ExecTo.append (pos := pos) (p := p) (ap := ap) h1 hy h2 hk (by simpa using hn) pl he a1 hs hk'

theorem ExecsTo.as {sts : List Stmt} {f : Fl} (h : ExecsTo d fi sts σ f σ₁) (e : σ₁ = σ₂) : ExecsTo d fi sts σ f σ₂ := e ▸ h
theorem ExecTo.as {st : Stmt} {f : Fl} (h : ExecTo d fi st σ f σ₁) (e : σ₁ = σ₂) : ExecTo d fi st σ f σ₂ := e ▸ h
theorem EvalTo.as {e : Expr} {v w : V} (h : EvalTo d fi e σ v σ₁) (q' : σ₁ = σ₂) (q : v = w) : EvalTo d fi e σ w σ₂ := q ▸ q' ▸ h
theorem TestTo.as {e : Expr} {b c : Bool} (h : TestTo d fi e σ b σ₁) (q' : σ₁ = σ₂) (q : b = c) : TestTo d fi e σ c σ₂ := q ▸ q' ▸ h
theorem CallTo.as {f : V} {args : List V} {H H' : List O} {v w : V} (h : CallTo d f args H v H') (q : v = w) : CallTo d f args H w H' := q ▸ h
theorem CallTo.as' {f : V} {args : List V} {H H' H'' : List O} {v w : V} (h : CallTo d f args H v H') (q : v = w) (q' : H' = H'') : CallTo d f args H w H'' := q ▸ q' ▸ h
theorem St.eq {l l' : List V} {h h' : List O} (a : l = l') (b : h = h') : (⟨l, h⟩ : St) = ⟨l', h'⟩ := by subst a; subst b; rfl

theorem ExecsTo.ret {e : Expr} {rest : List Stmt} {v : V} (h : EvalTo d fi e σ v σ₁) : ExecsTo d fi (.Return (some e) pos :: rest) σ (.ret v) σ₁ := ExecsTo.stop (ExecTo.ret h) (fun h => nomatch h)
theorem ExecsTo.stopR {st : Stmt} {rest : List Stmt} {v : V} (h : ExecTo d fi st σ (.ret v) σ₁) : ExecsTo d fi (st :: rest) σ (.ret v) σ₁ := ExecsTo.stop h (fun h => nomatch h)
theorem ExecsTo.stopC {st : Stmt} {rest : List Stmt} (h : ExecTo d fi st σ .cont σ₁) : ExecsTo d fi (st :: rest) σ .cont σ₁ := ExecsTo.stop h (fun h => nomatch h)
theorem ExecsTo.one {st : Stmt} (h : ExecTo d fi st σ .next σ₁) : ExecsTo d fi [st] σ .next σ₁ := ExecsTo.cons h .nil

theorem ExecTo.whileE {test : Expr} {body : List Stmt} {g : Fl} (h : ∃ n, WRun d fi test body n σ g σ') : ExecTo d fi (.While test body [] pos) σ g σ' := by
  obtain ⟨n, h⟩ := h
  exact ExecTo.while h
theorem WRun.stopE {test : Expr} {body : List Stmt} (h : TestTo d fi test σ false σ') : ∃ n, WRun d fi test body n σ .next σ' := ⟨0, .stop h⟩
theorem WRun.stepE {test : Expr} {body : List Stmt} {f g : Fl} (h1 : TestTo d fi test σ true σ₁) (h2 : ExecsTo d fi body σ₁ f σ₂) (hf : f.goes) (h3 : ∃ n, WRun d fi test body n σ₂ g σ₃) : ∃ n, WRun d fi test body n σ g σ₃ := by
  obtain ⟨n, h⟩ := h3
  exact ⟨n + 1, .step h1 h2 hf h⟩
theorem WRun.stepN {test : Expr} {body : List Stmt} {g : Fl} (h1 : TestTo d fi test σ true σ₁) (h2 : ExecsTo d fi body σ₁ .next σ₂) (h3 : ∃ n, WRun d fi test body n σ₂ g σ₃) : ∃ n, WRun d fi test body n σ g σ₃ := WRun.stepE h1 h2 trivial h3
theorem dT {p : Prop} [Decidable p] (h : p) : decide p = true := decide_eq_true h
theorem dF {p : Prop} [Decidable p] (h : ¬ p) : decide p = false := decide_eq_false h

theorem up_down (n : Nat) : upFrom (((n + 1 : Nat) : Int) - 1) (-1) (n + 1) = V.nat n :: upFrom ((n : Int) - 1) (-1) n := by
  show V.int _ :: upFrom _ (-1) n = _
  have e1 : ((n + 1 : Nat) : Int) - 1 = n := by omega
  rw [e1, Int.sub_eq_add_neg]
theorem up_up (a n : Nat) : upFrom (a : Int) 1 (n + 1) = V.nat a :: upFrom ((a + 1 : Nat) : Int) 1 n := by
  show V.int _ :: upFrom _ 1 n = _
  have e1 : (a : Int) + 1 = ((a + 1 : Nat) : Int) := by omega
  rw [e1]
noncomputable def stmtOf (l : List Stmt) (n : Nat) : Stmt := (l[n]?).getD (.Pass ⟨0, 0, 0, 0⟩)
noncomputable def bodyOf : Stmt → List Stmt
  | .For _ _ b _ _ => b
  | .While _ b _ _ => b
  | .If _ b _ _ => b
  | _ => []
noncomputable def testOf : Stmt → Expr
  | .While t _ _ _ => t
  | .If t _ _ _ => t
  | _ => .Constant .none 0 ⟨0, 0, 0, 0⟩
theorem ExecTo.forRE (ok : fi.Ok) {x : Str} {px : Pos} {iter : Expr} {body : List Stmt} {i n : Nat} {a c : Int} {g : Fl} (hi : AtN fi.names i x) (hit : IterR d fi iter σ a c n σ₁) (hs : ∀ env v, foldedSetIterable iter env v = pure v) (hr : RunR d fi body i (upFrom a c n) σ₁ g σ') : ExecTo d fi (.For (.Name x px) iter body [] pos) σ g σ' := ExecTo.forR ok hi hit hr hs

theorem iterDown {x : Str} {p : Pos} {e f g : Expr} {n : Nat} (h0 : EvalTo d fi (.Name x p) σ (.val (.type "range")) σ) (h1 : EvalTo d fi e σ (.int ((n : Int) - ((1 : Nat) : Int))) σ₁) (h2 : EvalTo d fi f σ₁ (.int (-((1 : Nat) : Int))) σ₂) (h3 : EvalTo d fi g σ₂ (.int (-((1 : Nat) : Int))) σ₃) (hn : n < 2 ^ 40)
    (hs : ∀ env, starEach [e, f, g] env = (false, eval e env) :: starEach [f, g] env) (hs' : ∀ env, starEach [f, g] env = (false, eval f env) :: starEach [g] env) (hs'' : ∀ env, starEach [g] env = (false, eval g env) :: starEach [] env) :
    IterR d fi (.Call (.Name x p) [e, f, g] [] pos) σ ((n : Int) - 1) (-1) n σ₃ := by
  have := iterRange3 (pos := pos) h0 h1 h2 h3 (by omega) (by omega) hs hs' hs''
  have e1 : (((n : Int) - ((1 : Nat) : Int)) - (-((1 : Nat) : Int))).toNat = n := by omega
  rw [e1] at this
  exact this

/-! ## places of the heap -/
theorem hp_old {H T : List O} {k : Nat} {o : O} (h : H[k]? = some o) : (H ++ T)[k]? = some o := getElem?_app h
theorem hp_new {H : List O} {o : O} : (H ++ [o])[H.length]? = some o := by simp
theorem hp_set {H : List O} {k : Nat} {o o' : O} (h : H[k]? = some o') : (H.set k o)[k]? = some o := by
  rw [List.getElem?_set_self (List.getElem?_eq_some_iff.mp h).1]
theorem hp_off {H : List O} {k j : Nat} {o o' : O} (h : H[k]? = some o) (hne : j ≠ k) : (H.set j o')[k]? = some o := by
  rw [List.getElem?_set_ne hne]; exact h
theorem hp_ne {H : List O} {k : Nat} {o : O} (h : H[k]? = some o) : H.length ≠ k := by
  have := (List.getElem?_eq_some_iff.mp h).1
  omega
theorem set_new {H : List O} {o o' : O} : (H ++ [o]).set H.length o' = H ++ [o'] := by
  rw [List.set_append_right _ _ (Nat.le_refl _)]; simp
theorem set_old {H T : List O} {k : Nat} {o o' : O} (h : H[k]? = some o) : (H ++ T).set k o' = H.set k o' ++ T := by
  rw [List.set_append_left _ _ (List.getElem?_eq_some_iff.mp h).1]
end
end Mine

namespace Mine
/-! L15 -/
open PySem PySem.W PyProof.Rows PySem.Spec PySem.Calls
set_option maxRecDepth 100000
section
variable {d : Nat} {fi : FI} {σ σ₁ σ₂ σ₃ σ' : St} {pos : Pos}
theorem ExecTo.forLE (ok : fi.Ok) {x : Str} {px : Pos} {iter : Expr} {body : List Stmt} {i n k : Nat} {xs : List V} {g : Fl} (hi : AtN fi.names i x) (hit : EvalTo d fi iter σ (.ref k) σ₁) (hk : σ₁.heap[k]? = some (.list xs))
    (hs : ∀ env v, foldedSetIterable iter env v = pure v) (hr : RunL d fi body i k n 0 σ₁ g σ') : ExecTo d fi (.For (.Name x px) iter body [] pos) σ g σ' := ExecTo.forL ok hi hit hk hr hs
theorem ExecTo.forEE (ok : fi.Ok) {x y xf : Str} {px py pt pf : Pos} {e : Expr} {body : List Stmt} {i j n k x1 : Nat} {xs : List V} {g : Fl} {cp : Pos} (hi : AtN fi.names i x) (hj : AtN fi.names j y) (h0 : EvalTo d fi (.Name xf pf) σ (.val (.type "enumerate")) σ)
    (he : EvalTo d fi e σ (.ref k) σ₁) (hk : σ₁.heap[k]? = some (.list xs)) (hse : ∀ env, starEach [e] env = (false, eval e env) :: starEach [] env)
    (hs : ∀ env v, foldedSetIterable (.Call (.Name xf pf) [e] [] cp) env v = pure v) (hr : RunE d fi body i j k n 0 σ₁ g σ') : ExecTo d fi (.For (.Tuple [.Name x px, .Name y py] x1 pt) (.Call (.Name xf pf) [e] [] cp) body [] pos) σ g σ' :=
  ExecTo.forE ok hi hj h0 he hk hr hse hs
theorem RunR.stepN {body : List Stmt} {i : Nat} {v : V} {vs : List V} {g : Fl} (h : ExecsTo d fi body ⟨σ.loc.set i v, σ.heap⟩ .next σ₁) (r : RunR d fi body i vs σ₁ g σ₂) : RunR d fi body i (v :: vs) σ g σ₂ := RunR.step (f := .next) h trivial r
theorem RunL.stepN {body : List Stmt} {i k n pos : Nat} {xs : List V} {v : V} {g : Fl} (h1 : σ.heap[k]? = some (.list xs)) (h2 : xs[pos]? = some v) (h : ExecsTo d fi body ⟨σ.loc.set i v, σ.heap⟩ .next σ₁) (r : RunL d fi body i k n (pos + 1) σ₁ g σ₂) :
    RunL d fi body i k (n + 1) pos σ g σ₂ := RunL.step (f := .next) h1 h2 h trivial r
theorem RunE.stepN {body : List Stmt} {i j k n pos : Nat} {xs : List V} {v : V} {g : Fl} (h1 : σ.heap[k]? = some (.list xs)) (h2 : xs[pos]? = some v) (h : ExecsTo d fi body ⟨(σ.loc.set i (.int (pos : Int))).set j v, σ.heap⟩ .next σ₁) (r : RunE d fi body i j k n (pos + 1) σ₁ g σ₂) :
    RunE d fi body i j k (n + 1) pos σ g σ₂ := RunE.step (f := .next) h1 h2 h trivial r
end
end Mine

namespace Mine
/-! L16 -/
open PySem PySem.W PyProof.Rows PySem.Spec PySem.Calls
set_option maxRecDepth 100000

/-- a def that ends without a return -/
theorem CallTo.of_bodyN {d n : Nat} {fi : FI} {args : List V} {H H' : List O} {loc' : List V} (ok : fi.Ok) (lk : fi.Look n) (hlen : args.length = n) (hle : n ≤ fi.names.length)
    (h : ExecsTo d fi fi.body ⟨args ++ List.replicate (fi.names.length - n) .undef, H⟩ .next ⟨loc', H'⟩) : CallTo (d + 1) (.val (.ref fi.addr)) args H .none H' := ⟨by
  intro w p loose mean mg mb A₀ base h₀ outer dp un gd cn cs L a ccd cl m news extra ρ s fv vs Q B F X N T hk R nd hd hu hf hvs hQ
  cases hf
  obtain ⟨oc, od, osl, dV, kV, doc, pm, an, ct, hlook, hbind⟩ := lk.at_ w.params
  refine wpAny_call ?_
  refine code_def (A := ktrTop dp un gd cn cs L a ccd cl outer) B F X N T rfl rfl hk hlook (lk.code _) (show dp < recursionLimit by omega) (BindsTo.of_eq (hbind vs (by rw [← hvs.length, hlen]))) ?_ ?_ ok.noco ok.nogen ok.kind lk.nocell
  · intro y hy
    exact (ok.loc y.1 (List.mem_of_mem_take (List.of_mem_zip hy).1)).1
  · intro g L' h₁ F₀ F₁ N₁ B₁ X₁ T₁
    let C' : RC d fi := ⟨w, p, loose, mean, mg, mb, _, base, envX cn cs L a ccd cl :: outer, dp + 1, un + 3, gd, L', g, extra, [], B₁, X₁, T₁, by omega, by omega⟩
    have S : C'.SR ⟨args ++ List.replicate (fi.names.length - n) .undef, H⟩ ρ h₁ := ⟨_, news, F₁, N₁, R, nd, LR_nocl lk.nocl (LR_start ok.nd hlen hle hvs)⟩
    refine wpAny_mono (h.run C' ρ { s with heap := h₁, toks := s.toks + ((fi.names.take n).zip vs).length } (fun fl s' => LeaveK h₀ L m g _ (match fl with | .ret v => v | _ => .none) s') S fun τ fl s' m' S' hfl => ?_) (fun _ _ x => x) fun _ _ x => x.elim
    cases hfl
    obtain ⟨m₂, news₂, F₂, N₂, R₂, nd₂, l₂⟩ := S'.ex
    have hs : Same s s' := by obtain ⟨h, tk, rfl⟩ := m'; exact ⟨h, tk, rfl⟩
    exact leaveK_ F₂ N₂ fun kF kN => hQ τ .none s' news₂ hs kF kN R₂ nd₂ rfl⟩

section
variable {d : Nat} {fi : FI} {σ σ₁ σ₂ σ₃ σ' : St} {pos : Pos}
theorem ExecTo.expr {e : Expr} {v : V} (h : EvalTo d fi e σ v σ₁) (hs : ∀ env, swapsWith e none pos.line env = pure false) (hk' : fi.scope.kind = .function) : ExecTo d fi (.Expr e pos) σ .next σ₁ := ⟨fun C ρ s Q S hQ => by
  have hi : interactive C.env = false := by unfold interactive; rw [show C.env.scope.kind = ScopeKind.function from hk']; rfl
  with_reducible refine wpAny_Expr_any ?_ hi (hs _)
  exact h.run C ρ s _ S fun τ u s₁ m₁ S₁ hu => hQ τ _ _ m₁ S₁ rfl⟩

theorem EvalTo.iteB {test x y : Expr} {b : Bool} {v : V} (h1 : TestTo d fi test σ b σ₁) (h2 : b = true → EvalTo d fi x σ₁ v σ₂) (h3 : b = false → EvalTo d fi y σ₁ v σ₂) : EvalTo d fi (.IfExp test x y pos) σ v σ₂ := by
  cases b with
  | true => exact EvalTo.iteT h1 rfl (h2 rfl)
  | false => exact EvalTo.iteF h1 rfl (h3 rfl)
theorem EvalTo.oneN {e : Expr} {v : Nat} (h : EvalTo d fi e σ (.nat v) σ₁) (hs : ∀ env, starEach [e] env = (false, eval e env) :: starEach [] env) : EvalTo d fi (.List [e] pos) σ (.ref σ₁.heap.length) ⟨σ₁.loc, σ₁.heap ++ [.nats [v]]⟩ :=
  EvalTo.list (vs := [V.nat v]) (EvalsTo.cons h .nil hs) (by simp)
/-- where the expressions make nothing new -/
theorem ExecTo.assignP (ok : fi.Ok) {x : Str} {p : Pos} {e : Expr} {v : V} (i : Nat) (hi : AtN fi.names i x) (h : EvalTo d fi e σ v σ) (hs : ∀ env, swapsWith e (some (.Name x p)) pos.line env = pure false) (q : (⟨σ.loc.set i v, σ.heap⟩ : St) = σ') :
    ExecTo d fi (.Assign [.Name x p] e pos) σ .next σ' := q ▸ ExecTo.assign ok hi h hs
theorem ExecTo.setItemP {oE iE e : Expr} {p : Pos} {k i v : Nat} {xs : List Nat} (h : EvalTo d fi e σ (.nat v) σ) (h1 : EvalTo d fi oE σ (.ref k) σ) (h2 : EvalTo d fi iE σ (.nat i) σ) (hk : σ.heap[k]? = some (.nats xs))
    (hs : ∀ env, swapsWith e (some (.Subscript oE iE p)) pos.line env = pure false) (hi : i < xs.length) (hb : xs.length ≤ 2 ^ 20) (q : (⟨σ.loc, σ.heap.set k (.nats (xs.set i v))⟩ : St) = σ') : ExecTo d fi (.Assign [.Subscript oE iE p] e pos) σ .next σ' := q ▸ ExecTo.setItemN h h1 h2 hk hs hi hb
end

/-- what stays, but for some places -/
noncomputable def Kept (K : List Nat) (H H' : List O) : Prop := ∀ j x, j ∉ K → H[j]? = some x → H'[j]? = some x
theorem Kept.refl {K : List Nat} {H : List O} : Kept K H H := fun _ _ _ h => h
theorem Kept.trans {K : List Nat} {H H' H'' : List O} (a : Kept K H H') (b : Kept K H' H'') : Kept K H H'' := fun j x hj h => b j x hj (a j x hj h)
theorem Kept.app {K : List Nat} {H T : List O} : Kept K H (H ++ T) := fun _ _ _ h => hp_old h
theorem Kept.weak {K K' : List Nat} {H H' : List O} (a : Kept K H H') (h : ∀ x ∈ K, x ∈ K') : Kept K' H H' := fun j x hj e => a j x (fun hx => hj (h j hx)) e
theorem Kept.nil {K : List Nat} {H H' : List O} (a : Kept [] H H') : Kept K H H' := a.weak fun _ h => nomatch h
theorem Kept.set {K : List Nat} {H : List O} {k : Nat} {o : O} (hk : k ∈ K) : Kept K H (H.set k o) := fun j x hj h => by
  rw [List.getElem?_set_ne (by rintro rfl; exact hj hk)]; exact h
theorem Kept.of {K : List Nat} {H H' : List O} (a : Kept K H H') {j : Nat} {x : O} (h : H[j]? = some x) (hj : j ∉ K := by simp) : H'[j]? = some x := a j x hj h
/-- places made after H was -/
theorem Kept.drop {k : Nat} {H T H' : List O} (a : Kept [H.length + k] (H ++ T) H') : Kept [] H H' := fun j x hj h => by
  refine a j x ?_ (hp_old h)
  have := (List.getElem?_eq_some_iff.mp h).1
  simp; omega
theorem Kept.drop' {K : List Nat} {H T H' : List O} (a : Kept K (H ++ T) H') (h : ∀ k ∈ K, H.length ≤ k) : Kept [] H H' := fun j x hj hx => by
  refine a j x (fun hm => ?_) (hp_old hx)
  have := (List.getElem?_eq_some_iff.mp hx).1
  have := h j hm
  omega
end Mine

namespace Mine
/-! L17 -/
open PySem PySem.W PyProof.Rows PySem.Spec PySem.Calls
set_option maxRecDepth 100000

/-! cells -/
noncomputable def cellP (v : V) (ρ : List Addr) (a : Addr) (o : Obj) : Prop := match v with
  | .undef => o.data = .cell Option.none
  | v => ∃ u, VR ρ v u ∧ o.data = .cell (some u)
theorem cellP_mono (v : V) : ∀ ρ τ a o, cellP v ρ a o → cellP v (ρ ++ τ) a o := by
  intro ρ τ a o h
  cases v with
  | undef => exact h
  | _ => obtain ⟨u, h1, h2⟩ := h; exact ⟨u, h1.mono, h2⟩
noncomputable abbrev O.cell (v : V) : O := .pr (cellP v) (cellP_mono v)
theorem cellP_of {v : V} {ρ : List Addr} {a : Addr} {o : Obj} (h : cellP v ρ a o) (hu : v ≠ .undef) : ∃ u, VR ρ v u ∧ o.data = .cell (some u) := by
  cases v with
  | undef => exact absurd rfl hu
  | _ => exact h
theorem cellP_mk {v : V} {ρ : List Addr} {a : Addr} {o : Obj} {u : Value} (h : VR ρ v u) (hd : o.data = .cell (some u)) : cellP v ρ a o := by
  cases v with
  | undef => exact h.elim
  | _ => exact ⟨u, h, hd⟩

theorem CR.get {ρ : List Addr} : ∀ {cs : List (Str × Nat)} {cl : List (Str × Addr)}, CR ρ cs cl → (cs.map (·.1)).Nodup → ∀ {x : Str} {k : Nat}, (x, k) ∈ cs → ∃ a, cl.lookup x = some a ∧ ρ[k]? = some a
  | [], [], _, _, _, _, h => nomatch h
  | (y, j) :: r, (z, b) :: t, h, nd, x, k, hm => by
    obtain ⟨rfl, h1, h2⟩ := h
    rw [List.map_cons, List.nodup_cons] at nd
    rcases List.mem_cons.mp hm with e | e
    · cases e
      exact ⟨b, by rw [List.lookup_cons]; simp, h1⟩
    · obtain ⟨a, e1, e2⟩ := CR.get h2 nd.2 e
      refine ⟨a, ?_, e2⟩
      have hne : x ≠ y := fun q => nd.1 (List.mem_map.mpr ⟨(x, k), e, q⟩)
      rw [List.lookup_cons, beq_false_of_ne hne]
      exact e1

section
variable {d : Nat} {fi : FI} {σ σ₁ σ₂ σ₃ σ' : St} {pos : Pos}

theorem SR_pr {C : RC d fi} {ρ : List Addr} {h : Heap} (S : C.SR σ ρ h) {k : Nat} {P : List Addr → Addr → Obj → Prop} {mo : ∀ ρ τ a o, P ρ a o → P (ρ ++ τ) a o} (hk : σ.heap[k]? = some (.pr P mo)) :
    ∃ a o, ρ[k]? = some a ∧ h.get? a = some o ∧ P ρ a o := by
  obtain ⟨m, news, F, N, R, nd, l⟩ := S.ex
  obtain ⟨a, o, h1, h2, h3, h4⟩ := R.get hk
  exact ⟨a, o, h1, (N _ (List.mem_append_left _ h2)).1, h4⟩

theorem EvalTo.cell (ok : fi.Ok) {x : Str} {j k : Nat} {v : V} (hj : AtN fi.cells j (x, k)) (hk : σ.heap[k]? = some (O.cell v)) (hu : v ≠ .undef) : EvalTo d fi (.Name x pos) σ v σ := ⟨fun C ρ s Q S hQ => by
  obtain ⟨m, news, F, N, R, nd, l⟩ := S.ex
  obtain ⟨a, o, h1, h2, h3, h4⟩ := R.get hk
  obtain ⟨b, e1, e2⟩ := l.cel.get ok.celnd hj.mem
  rw [h1] at e2; cases e2
  obtain ⟨u, u1, u2⟩ := cellP_of (show cellP v ρ a o from h4) hu
  obtain ⟨c1, c2, c3⟩ := ok.cel _ hj.mem
  have hm : (a, o) ∈ news ++ C.extra := List.mem_append_left _ h2
  rcases c1 with c1 | c1
  · exact nameX_C N e1 hm u2 (hQ [] _ _ (Same.refl s) (SR_refl S) (by rw [List.append_nil]; exact u1)) ok.kind c1 c2
  · exact nameX_F N e1 hm u2 (hQ [] _ _ (Same.refl s) (SR_refl S) (by rw [List.append_nil]; exact u1)) ok.kind c1 c2 c3⟩

/-! a call of a function object of the ledger -/
noncomputable def fnLike (P : List Addr → Addr → Obj → Prop) : Prop := ∀ ρ a o, P ρ a o → ∃ oc od fd sl, o = (⟨oc, od, .func fd, sl⟩ : Obj)
theorem EvalTo.callR (ok : fi.Ok) {x : Str} {p : Pos} {e : Expr} {rest : List Expr} {k : Nat} {P : List Addr → Addr → Obj → Prop} {mo : ∀ ρ τ a o, P ρ a o → P (ρ ++ τ) a o} {vs : List V} {v : V} {H' : List O}
    (h1 : EvalTo d fi (.Name x p) σ (.ref k) σ) (hk1 : σ.heap[k]? = some (.pr P mo)) (hf : fnLike P) (h2 : EvalsTo d fi (e :: rest) σ vs σ₂) (hk2 : σ₂.heap[k]? = some (.pr P mo))
    (hs : ∀ env, starEach (e :: rest) env = (false, eval e env) :: starEach rest env) (hp : ∀ env, (backTo pos (starEach rest env)).any (·.1) = false) (hc : CallTo d (.ref k) vs σ₂.heap v H') :
    EvalTo d fi (.Call (.Name x p) (e :: rest) [] pos) σ v ⟨σ₂.loc, H'⟩ := ⟨fun C ρ s Q S hQ => by
  with_reducible refine Call_ ?_ (call_Name_eq _ _ _ _ _)
  refine h1.run C ρ s _ S fun τ u s₁ m₁ S₁ hu => ?_
  obtain ⟨a, o, b1, b2, b3⟩ := SR_pr S₁ hk1
  rw [ref_eq hu b1]
  obtain ⟨oc, od, fd, sl, rfl⟩ := hf _ _ _ b3
  have hfa : FnAt a s₁.heap := ⟨oc, od, fd, sl, b2⟩
  with_reducible refine callWith_F hfa ?_ (hs _) (hp _)
  refine h2.run C pos _ s₁ _ S₁ fun τ₂ us s₂ m₂ S₂ hus => ?_
  obtain ⟨a', o', b1', b2', b3'⟩ := SR_pr S₂ hk2
  have : a' = a := by
    have := getElem?_app (τ := τ₂) b1
    rw [b1'] at this; exact Option.some.inj this
  subst this
  obtain ⟨m, news, F, N, R, nd, l⟩ := S₂.ex
  obtain ⟨oc', od', fd', sl', rfl⟩ := hf _ _ _ b3'
  refine ⟨⟨oc', od', fd', sl', b2'⟩, ?_⟩
  rw [List.nil_append]
  refine hc.run C.w C.p C.loose C.mean C.mg C.mb C.A₀ C.base C.h₀ C.outer C.dp C.un C.gd fi.name fi.scope C.L fi.addr (.ref fi.code) C.cl m news C.extra _ s₂ _ us Q C.B F C.X N C.T ok.kind R nd C.hd C.hu ⟨a', b1', rfl⟩ hus fun τ₃ u s' news' hs' F' N' R' nd' hu' => ?_
  exact hQ (τ ++ (τ₂ ++ τ₃)) u s' (m₁.trans (m₂.trans hs')) (SR_as (SR_as ⟨m, news', F', N', R', nd', l.mono⟩)) (VR_as (VR_as hu'))⟩
end

/-! the nested def of divided_times -/
noncomputable def nestOf : Stmt := ((fdBody (stAt 19))[0]?).getD (.Pass ⟨0, 0, 0, 0⟩)
noncomputable abbrev nestPos : Pos := posOf nestOf
noncomputable abbrev nestQual : Str := "divided_times.<locals>.multiplied"
noncomputable def tabP (t : Option Nat) (ρ : List Addr) (a : Addr) (o : Obj) : Prop := a = 151 ∧ match t with
  | Option.none => o = tabObj #[]
  | some k => ∃ c, ρ[k]? = some c ∧ o = tabObj #[rawInt nestPos.line, rawInt nestPos.col, .ref c]
theorem tabP_mono (t : Option Nat) : ∀ ρ τ a o, tabP t ρ a o → tabP t (ρ ++ τ) a o := by
  rintro ρ τ a o ⟨h1, h2⟩
  refine ⟨h1, ?_⟩
  cases t with
  | none => exact h2
  | some k => obtain ⟨c, e1, e2⟩ := h2; exact ⟨c, getElem?_app e1, e2⟩
noncomputable abbrev O.tab (t : Option Nat) : O := .pr (tabP t) (tabP_mono t)
noncomputable def codeP (ρ : List Addr) (a : Addr) (o : Obj) : Prop := ∃ vs t, o.data = .fields vs ∧ vs[1]? = some (.str nestQual t)
noncomputable abbrev O.code : O := .pr codeP (fun _ _ _ _ h => h)
noncomputable def fnP (kc kw km kx kd : Nat) (ρ : List Addr) (a : Addr) (o : Obj) : Prop := ∃ c aw am ax ad doc pm ctv, ρ[kc]? = some c ∧ ρ[kw]? = some aw ∧ ρ[km]? = some am ∧ ρ[kx]? = some ax ∧ ρ[kd]? = some ad ∧
  o = fnMade "multiplied" nestQual (fdArgs nestOf) (fdBody nestOf) (fdScope nestOf) [("w", aw), ("mul", am), ("m", ax), ("divrem", ad)] doc pm c ctv
theorem fnP_mono (kc kw km kx kd : Nat) : ∀ ρ τ a o, fnP kc kw km kx kd ρ a o → fnP kc kw km kx kd (ρ ++ τ) a o := by
  rintro ρ τ a o ⟨c, aw, am, ax, ad, doc, pm, ctv, h1, h2, h3, h4, h5, h6⟩
  exact ⟨c, aw, am, ax, ad, doc, pm, ctv, getElem?_app h1, getElem?_app h2, getElem?_app h3, getElem?_app h4, getElem?_app h5, h6⟩
noncomputable abbrev O.fn (kc kw km kx kd : Nat) : O := .pr (fnP kc kw km kx kd) (fnP_mono kc kw km kx kd)
theorem fnLike_fn (kc kw km kx kd : Nat) : fnLike (fnP kc kw km kx kd) := by
  rintro ρ a o ⟨c, aw, am, ax, ad, doc, pm, ctv, h1, h2, h3, h4, h5, rfl⟩
  exact ⟨_, _, _, _, rfl⟩

theorem codeHd_of {w : World} {h : Heap} (X : (KK w).In h) : CodeHd h 155 151 := codeHd_of_K X (by kernel_rfl)
end Mine

namespace Mine
/-! L18 -/
open PySem PySem.W PyProof.Rows PySem.Spec PySem.Calls
set_option maxRecDepth 100000

noncomputable abbrev fi_mu (f c kw km kx kd : Nat) : FI := { name := nestQual, params := fdArgs nestOf, body := fdBody nestOf, scope := fdScope nestOf, addr := f, code := c, names := ["x", "y"], gl := [], cells := [("w", kw), ("mul", km), ("m", kx), ("divrem", kd)] }
theorem muNd : (["x", "y"] : List Str).Nodup := by decide +kernel
theorem muLoc : ∀ x ∈ (["x", "y"] : List Str), (fdScope nestOf).names.lookup x = some .local ∧ (x == ("__debug__" : Str)) = false := by decide +kernel
theorem muFree : ∀ x ∈ (["w", "mul", "m", "divrem"] : List Str), (fdScope nestOf).names.lookup x = some .free ∧ (x == ("__debug__" : Str)) = false ∧ (x == ("__classdict__" : Str)) = false := by decide +kernel
theorem muNdC : (["w", "mul", "m", "divrem"] : List Str).Nodup := by decide +kernel
theorem muCell : ∀ x ∈ (fdScope nestOf).names, x.2 ≠ .cell := by decide +kernel
theorem ok_mu {f c kw km kx kd : Nat} : FI.Ok (fi_mu f c kw km kx kd) := ⟨muNd, muLoc, fun _ h => (nomatch h), rfl, rfl, rfl, by
  intro p hp
  have h := muFree p.1 (List.mem_map_of_mem (f := (·.1)) hp)
  exact ⟨.inr h.1, h.2⟩, muNdC⟩

theorem CallTo.of_clos {d kf kc kw km kx kd : Nat} {H H' : List O} {a b v : V} {loc' : List V} (hf : H[kf]? = some (O.fn kc kw km kx kd)) (hc : H[kc]? = some O.code)
    (h : ∀ f c, ExecsTo d (fi_mu f c kw km kx kd) (fdBody nestOf) ⟨[a, b], H⟩ (.ret v) ⟨loc', H'⟩) : CallTo (d + 1) (.ref kf) [a, b] H v H' := ⟨by
  intro w p loose mean mg mb A₀ base h₀ outer dp un gd cn cs L a' ccd cl m news extra ρ s fv vs Q B F X N T hk R nd hd hu hfv hvs hQ
  obtain ⟨fa, o, g1, g2, g3, g4⟩ := R.get hf
  obtain ⟨ca, co, c1, c2, c3, c4⟩ := R.get hc
  obtain ⟨c, aw, am, ax, ad, doc, pm, ctv, e1, e2, e3, e4, e5, rfl⟩ := (show fnP kc kw km kx kd ρ fa o from g4)
  rw [c1] at e1; cases e1
  obtain ⟨cvs, ct, d1, d2⟩ := (show codeP ρ ca co from c4)
  rw [ref_eq hfv g1]
  obtain ⟨va, vb, rfl⟩ : ∃ va vb, vs = [va, vb] := len2 hvs.length
  have ok := @ok_mu fa ca kw km kx kd
  refine wpAny_call ?_
  refine code_nest (A := ktrTop dp un gd cn cs L a' ccd cl outer) (binds := [("x", va), ("y", vb)]) B F X N T rfl rfl hk (List.mem_append_left _ g2) (codeRec_news N (List.mem_append_left _ c2) d1 d2) (show dp < recursionLimit by omega) (BindsTo.of_eq rfl) ?_ ?_ rfl rfl rfl ?_
  · intro y hy
    exact (muLoc y.1 (List.mem_map_of_mem (f := (·.1)) hy)).1
  · intro g L' h₁ F₀ F₁ N₁ B₁ X₁ T₁
    let C' : RC d (fi_mu fa ca kw km kx kd) := ⟨w, p, loose, mean, mg, mb, _, base, envX cn cs L a' ccd cl :: outer, dp + 1, un + 3, gd, L', g, extra, [("w", aw), ("mul", am), ("m", ax), ("divrem", ad)], B₁, X₁, T₁, by omega, by omega⟩
    have l₀ := LR_start (names := ["x", "y"]) (n := 2) (args := [a, b]) muNd rfl (by decide) hvs
    have S : C'.SR ⟨[a, b], H⟩ ρ h₁ := ⟨_, news, F₁, N₁, R, nd, ⟨⟨rfl, e2, rfl, e3, rfl, e4, rfl, e5, trivial⟩, l₀.len, l₀.all⟩⟩
    refine wpAny_mono ((h fa ca).run C' ρ { s with heap := h₁, toks := s.toks + 2 } (fun fl s' => LeaveK h₀ L m g _ (match fl with | .ret v => v | _ => .none) s') S fun τ fl s' m' S' hfl => ?_) (fun _ _ x => x) fun _ _ x => x.elim
    obtain ⟨u, rfl, hu'⟩ := hfl
    obtain ⟨m₂, news₂, F₂, N₂, R₂, nd₂, l₂⟩ := S'.ex
    have hs : Same s s' := by obtain ⟨h, tk, rfl⟩ := m'; exact ⟨h, tk, rfl⟩
    exact leaveK_ F₂ N₂ fun kF kN => hQ τ u s' news₂ hs kF kN R₂ nd₂ hu'
  · exact muCell⟩
end Mine

namespace Mine
/-! L19 -/
open PySem PySem.W PyProof.Rows PySem.Spec PySem.Calls
set_option maxRecDepth 100000

theorem updF_set {P : Addr} {o : Obj} : ∀ {l : Led} {k : Nat}, l[k]? = some (P, o) → (l.map (·.1)).Nodup → ∃ g, UpdF P o l g ∧ ∀ o', g o' = l.set k (P, o')
  | (a, x) :: r, 0, h, nd => by
    simp only [List.getElem?_cons_zero, Option.some.injEq, Prod.mk.injEq] at h
    obtain ⟨rfl, rfl⟩ := h
    rw [List.map_cons, List.nodup_cons] at nd
    exact ⟨_, .head fun p hp e => nd.1 (e ▸ List.mem_map_of_mem (f := (·.1)) hp), fun o' => rfl⟩
  | (a, x) :: r, k + 1, h, nd => by
    rw [List.map_cons, List.nodup_cons] at nd
    have h' : r[k]? = some (P, o) := by simpa using h
    obtain ⟨g, u, e⟩ := updF_set h' nd.2
    refine ⟨_, .tail (fun q => nd.1 ?_) u, fun o' => ?_⟩
    · have : (P, o) ∈ r := List.mem_of_getElem? h'
      exact q ▸ List.mem_map_of_mem this
    · show (a, x) :: g o' = _
      rw [e]; rfl

noncomputable abbrev fi_dt (n : Nat) : FI := { name := "divided_times", params := fdArgs (stAt 19), body := fdBody (stAt 19), scope := fdScope (stAt 19), addr := 156, code := 155, names := ["multiplied"], gl := [], cells := [("divrem", n), ("mul", n + 1), ("w", n + 2), ("m", n + 3)] }
theorem dtNd : (["multiplied"] : List Str).Nodup := by decide +kernel
theorem dtLoc : ∀ x ∈ (["multiplied"] : List Str), (fdScope (stAt 19)).names.lookup x = some .local ∧ (x == ("__debug__" : Str)) = false := by decide +kernel
theorem dtCel : ∀ x ∈ (["divrem", "mul", "w", "m"] : List Str), (fdScope (stAt 19)).names.lookup x = some .cell ∧ (x == ("__debug__" : Str)) = false ∧ (x == ("__classdict__" : Str)) = false := by decide +kernel
theorem dtNdC : (["divrem", "mul", "w", "m"] : List Str).Nodup := by decide +kernel
theorem ok_dt {n : Nat} : FI.Ok (fi_dt n) := ⟨dtNd, dtLoc, fun _ h => (nomatch h), rfl, rfl, rfl, by
  intro p hp
  have h := dtCel p.1 (List.mem_map_of_mem (f := (·.1)) hp)
  exact ⟨.inl h.1, h.2⟩, dtNdC⟩

theorem nestEq : nestOf = .FunctionDef "multiplied" (fdArgs nestOf) (fdBody nestOf) [] none [] (fdScope nestOf) none "multiplied" (posOf nestOf) := rfl
noncomputable abbrev dtEnv (L : Addr) (a b c e : Addr) : Env := envX "divided_times" (fdScope (stAt 19)) L 156 (.ref 155) [("divrem", a), ("mul", b), ("w", c), ("m", e)]
theorem nestClos (L a b c e : Addr) : closureFor (fdScope nestOf) (dtEnv L a b c e) = pure ([("w", c), ("mul", b), ("m", e), ("divrem", a)] : List (Str × Addr)) := rfl
theorem nestQualEq (L a b c e : Addr) : qualnameIn (dtEnv L a b c e) "multiplied" "multiplied" = nestQual := by
  have h : ((fdScope (stAt 19)).names.lookup ("multiplied" : Str) == some NameKind.globalExplicit) = false := by decide +kernel
  unfold qualnameIn
  rw [show (dtEnv L a b c e).kindOf ("multiplied" : Str) = (fdScope (stAt 19)).names.lookup ("multiplied" : Str) from rfl, h]
  show (("divided_times" : Str) ++ ".<locals>." ++ "multiplied") = nestQual
  decide +kernel

theorem set_id {α : Type} : ∀ {l : List α} {k : Nat} {a : α}, l[k]? = some a → l.set k a = l
  | x :: r, 0, a, h => by simp at h; simp [h]
  | x :: r, k + 1, a, h => by rw [List.set_cons_succ, set_id (by simpa using h)]
theorem map_set_fst {l : Led} {k : Nat} {a : Addr} {o o' : Obj} (h : l[k]? = some (a, o)) : (l.set k (a, o')).map (·.1) = l.map (·.1) := by
  rw [List.map_set]
  exact set_id (by rw [List.getElem?_map, h]; rfl)
theorem nodup_two {A E : List Nat} {c f : Nat} (h : (A ++ E).Nodup) (h1 : ∀ x ∈ A ++ E, x < c) (h2 : c < f) : ((A ++ [c] ++ [f]) ++ E).Nodup := by
  simp only [List.nodup_append, List.mem_append, List.mem_cons, List.not_mem_nil, or_false, List.nodup_cons, List.nodup_nil, not_false_eq_true, true_and, and_true] at h h1 ⊢
  obtain ⟨n1, n2, n3⟩ := h
  refine ⟨⟨⟨n1, fun a ha b hb => ?_⟩, fun a ha b hb => ?_⟩, n2, fun a ha b hb => ?_⟩
  · have := h1 a (.inl ha); omega
  · rcases ha with ha | ha
    · have := h1 a (.inl ha); omega
    · omega
  · have := h1 b (.inr hb)
    rcases ha with (ha | ha) | ha
    · exact n3 a ha b hb
    · omega
    · omega
theorem nodup_one {A E : List Nat} {c : Nat} (h : (A ++ E).Nodup) (h1 : ∀ x ∈ A ++ E, x < c) : ((A ++ [c]) ++ E).Nodup := by
  simp only [List.nodup_append, List.mem_append, List.mem_cons, List.not_mem_nil, or_false, List.nodup_cons, List.nodup_nil, not_false_eq_true, true_and, and_true] at h h1 ⊢
  obtain ⟨n1, n2, n3⟩ := h
  refine ⟨⟨n1, fun a ha b hb => ?_⟩, n2, fun a ha b hb => ?_⟩
  · have := h1 a (.inl ha); omega
  · have := h1 b (.inr hb)
    rcases ha with ha | ha
    · exact n3 a ha b hb
    · omega

theorem CR.four {ρ : List Addr} {x₁ x₂ x₃ x₄ : Str} {k₁ k₂ k₃ k₄ : Nat} {cl : List (Str × Addr)} (h : CR ρ [(x₁, k₁), (x₂, k₂), (x₃, k₃), (x₄, k₄)] cl) :
    ∃ a b c e, cl = [(x₁, a), (x₂, b), (x₃, c), (x₄, e)] ∧ ρ[k₁]? = some a ∧ ρ[k₂]? = some b ∧ ρ[k₃]? = some c ∧ ρ[k₄]? = some e := by
  match cl, h with
  | [(_, a), (_, b), (_, c), (_, e)], h =>
    obtain ⟨rfl, h1, rfl, h2, rfl, h3, rfl, h4, _⟩ := h
    exact ⟨a, b, c, e, rfl, h1, h2, h3, h4⟩

/-- the first time: the code object is made -/
theorem ExecTo.nestNew {d n kt : Nat} {σ : St} (hl : σ.loc = [.undef]) (hk : σ.heap[kt]? = some (O.tab Option.none)) :
    ExecTo d (fi_dt n) nestOf σ .next ⟨[.ref (σ.heap.length + 1)], ((σ.heap ++ [O.code]) ++ [O.fn σ.heap.length (n + 2) (n + 1) (n + 3) n]).set kt (O.tab (some σ.heap.length))⟩ := ⟨fun C ρ s Q S hQ => by
  have ok := @ok_dt n
  have hlen := SR_len S
  obtain ⟨m, news, F, N, R, nd, l⟩ := S.ex
  obtain ⟨a, b, c, e, hcl, r1, r2, r3, r4⟩ := CR.four l.cel
  obtain ⟨ta, to, g1, g2, g3, g4, g5⟩ := R.get hk
  subst g4
  have g5' : to = tabObj #[] := g5
  subst g5'
  have hkl : kt < news.length := (List.getElem?_eq_some_iff.mp g3).1
  obtain ⟨g, U, hg⟩ := updF_set (l := news ++ C.extra) (k := kt) (P := 151) (o := tabObj #[]) (by rw [List.getElem?_append_left hkl]; exact g3) nd
  have hC : C.env = dtEnv C.L a b c e := by show envX _ _ _ _ _ C.cl = _; rw [hcl]
  have hclos : closureFor (fdScope nestOf) C.env = pure ([("w", c), ("mul", b), ("m", e), ("divrem", a)] : List (Str × Addr)) := by rw [hC]; exact nestClos C.L a b c e
  have hqual : qualnameIn C.env "multiplied" "multiplied" = nestQual := by rw [hC]; exact nestQualEq C.L a b c e
  rw [nestEq]
  refine nestDef_K rfl rfl rfl ?_
  rw [hqual]
  refine nest_K (clos := [("w", c), ("mul", b), ("m", e), ("divrem", a)]) F N C.T (codeHd_of C.X) rfl U trivial rfl hclos fun f c' oc vs t ctv doc h' tk F' N' hd hv hlt hcf => ?_
  rw [hg] at N'
  have R1 : HR (ρ ++ [c']) (σ.heap ++ [O.code]) (news ++ [(c', oc)]) := R.snoc (show codeP (ρ ++ [c']) c' oc from ⟨vs, t, hd, hv⟩)
  have R2 : HR (ρ ++ [c'] ++ [f]) (σ.heap ++ [O.code] ++ [O.fn σ.heap.length (n + 2) (n + 1) (n + 3) n]) (news ++ [(c', oc)] ++ [(f, fnMade "multiplied" nestQual (fdArgs nestOf) (fdBody nestOf) (fdScope nestOf) [("w", c), ("mul", b), ("m", e), ("divrem", a)] doc ((C.mg "__name__").getD .none) c' ctv)]) :=
    R1.snoc ⟨c', c, b, e, a, doc, _, ctv, by rw [← hlen]; exact getElem?_app (by simp), getElem?_app (getElem?_app r3), getElem?_app (getElem?_app r2), getElem?_app (getElem?_app r4), getElem?_app (getElem?_app r1), rfl⟩
  have R3 := R2.set (k := kt) (a := 151) (x := O.tab (some σ.heap.length)) (o := tabObj (#[] ++ #[rawInt nestPos.line, rawInt nestPos.col, .ref c'])) (getElem?_app (getElem?_app g1)) ⟨rfl, c', by rw [← hlen]; exact getElem?_app (by simp), rfl⟩
  have hset : ((news ++ [(c', oc)] ++ [(f, fnMade "multiplied" nestQual (fdArgs nestOf) (fdBody nestOf) (fdScope nestOf) [("w", c), ("mul", b), ("m", e), ("divrem", a)] doc ((C.mg "__name__").getD .none) c' ctv)]).set kt (151, tabObj (#[] ++ #[rawInt nestPos.line, rawInt nestPos.col, .ref c'])))
      = news.set kt (151, tabObj (#[] ++ #[rawInt nestPos.line, rawInt nestPos.col, .ref c'])) ++ [(c', oc)] ++ [(f, fnMade "multiplied" nestQual (fdArgs nestOf) (fdBody nestOf) (fdScope nestOf) [("w", c), ("mul", b), ("m", e), ("divrem", a)] doc ((C.mg "__name__").getD .none) c' ctv)] := by
    rw [List.set_append_left _ _ (by simp; omega), List.set_append_left _ _ hkl]
  rw [hset] at R3
  have hset2 : (news ++ C.extra).set kt (151, tabObj (#[] ++ #[rawInt nestPos.line, rawInt nestPos.col, .ref c'])) = news.set kt (151, tabObj (#[] ++ #[rawInt nestPos.line, rawInt nestPos.col, .ref c'])) ++ C.extra := List.set_append_left _ _ hkl
  rw [hset2] at N'
  have hmap : (news.set kt (151, tabObj (#[] ++ #[rawInt nestPos.line, rawInt nestPos.col, .ref c']))).map (·.1) = news.map (·.1) := map_set_fst g3
  have S' : C.SR ⟨σ.loc, ((σ.heap ++ [O.code]) ++ [O.fn σ.heap.length (n + 2) (n + 1) (n + 3) n]).set kt (O.tab (some σ.heap.length))⟩ (ρ ++ [c'] ++ [f]) h' := by
    refine ⟨m, _, F', fun p hp => N' p ?_, R3, ?_, l.mono.mono⟩
    · simp only [List.mem_append, List.mem_cons, List.not_mem_nil, or_false] at hp ⊢
      rcases hp with ((hp | hp) | hp) | hp
      · exact .inr (.inr (.inl hp))
      · exact .inr (.inl hp)
      · exact .inl hp
      · exact .inr (.inr (.inr hp))
    · simp only [List.map_append, List.map_cons, List.map_nil, hmap] at nd ⊢
      refine nodup_two nd (fun x hx => ?_) hcf
      rw [← List.map_append] at hx
      obtain ⟨p, hp, rfl⟩ := List.mem_map.mp hx
      exact hlt p hp
  refine storeLocal ok (i := 0) (v := .ref (σ.heap.length + 1)) (s := { s with heap := h', toks := tk }) S' .here ⟨f, by rw [← hlen]; simp, rfl⟩ fun s' m' S'' => ?_
  refine hQ ([c'] ++ [f]) _ _ (Same.trans ⟨h', tk, rfl⟩ m') (SR_as ?_) rfl
  have : (⟨[V.ref (σ.heap.length + 1)], (σ.heap ++ [O.code] ++ [O.fn σ.heap.length (n + 2) (n + 1) (n + 3) n]).set kt (O.tab (some σ.heap.length))⟩ : St) = ⟨σ.loc.set 0 (.ref (σ.heap.length + 1)), (σ.heap ++ [O.code] ++ [O.fn σ.heap.length (n + 2) (n + 1) (n + 3) n]).set kt (O.tab (some σ.heap.length))⟩ := by rw [hl]; rfl
  rw [this]
  exact S''⟩

/-- later: it stands in the table -/
theorem ExecTo.nestHit {d n kt kc : Nat} {σ : St} (hl : σ.loc = [.undef]) (hk : σ.heap[kt]? = some (O.tab (some kc))) :
    ExecTo d (fi_dt n) nestOf σ .next ⟨[.ref σ.heap.length], σ.heap ++ [O.fn kc (n + 2) (n + 1) (n + 3) n]⟩ := ⟨fun C ρ s Q S hQ => by
  have ok := @ok_dt n
  have hlen := SR_len S
  obtain ⟨m, news, F, N, R, nd, l⟩ := S.ex
  obtain ⟨a, b, c, e, hcl, r1, r2, r3, r4⟩ := CR.four l.cel
  obtain ⟨ta, to, g1, g2, g3, g4, c', g5, g6⟩ := R.get hk
  subst g4
  subst g6
  have hC : C.env = dtEnv C.L a b c e := by show envX _ _ _ _ _ C.cl = _; rw [hcl]
  have hclos : closureFor (fdScope nestOf) C.env = pure ([("w", c), ("mul", b), ("m", e), ("divrem", a)] : List (Str × Addr)) := by rw [hC]; exact nestClos C.L a b c e
  have hqual : qualnameIn C.env "multiplied" "multiplied" = nestQual := by rw [hC]; exact nestQualEq C.L a b c e
  rw [nestEq]
  refine nestDef_K rfl rfl rfl ?_
  rw [hqual]
  refine nestHit_K (c' := c') (clos := [("w", c), ("mul", b), ("m", e), ("divrem", a)]) F N C.T (codeHd_of C.X) rfl (List.mem_append_left _ g2) (show TriplesOk [_, _, _] from trivial) (by
    show codeAmong nestPos [rawInt nestPos.line, rawInt nestPos.col, .ref c'] = _
    simp [codeAmong, rawInt]) hclos fun f ctv doc h' tk F' N' hlt => ?_
  have R2 : HR (ρ ++ [f]) (σ.heap ++ [O.fn kc (n + 2) (n + 1) (n + 3) n]) (news ++ [(f, fnMade "multiplied" nestQual (fdArgs nestOf) (fdBody nestOf) (fdScope nestOf) [("w", c), ("mul", b), ("m", e), ("divrem", a)] doc ((C.mg "__name__").getD .none) c' ctv)]) :=
    R.snoc ⟨c', c, b, e, a, doc, _, ctv, getElem?_app g5, getElem?_app r3, getElem?_app r2, getElem?_app r4, getElem?_app r1, rfl⟩
  have S' : C.SR ⟨σ.loc, σ.heap ++ [O.fn kc (n + 2) (n + 1) (n + 3) n]⟩ (ρ ++ [f]) h' := by
    refine ⟨m, _, F', fun p hp => N' p ?_, R2, ?_, l.mono⟩
    · simp only [List.mem_append, List.mem_cons, List.not_mem_nil, or_false] at hp ⊢
      rcases hp with (hp | hp) | hp
      · exact .inr (.inl hp)
      · exact .inl hp
      · exact .inr (.inr hp)
    · simp only [List.map_append, List.map_cons, List.map_nil] at nd ⊢
      refine nodup_one nd (fun x hx => ?_)
      rw [← List.map_append] at hx
      obtain ⟨p, hp, rfl⟩ := List.mem_map.mp hx
      exact hlt p hp
  refine storeLocal ok (i := 0) (v := .ref σ.heap.length) (s := { s with heap := h', toks := tk }) S' .here ⟨f, by rw [← hlen]; simp, rfl⟩ fun s' m' S'' => ?_
  refine hQ [f] _ _ (Same.trans ⟨h', tk, rfl⟩ m') ?_ rfl
  have : (⟨[V.ref σ.heap.length], σ.heap ++ [O.fn kc (n + 2) (n + 1) (n + 3) n]⟩ : St) = ⟨σ.loc.set 0 (.ref σ.heap.length), σ.heap ++ [O.fn kc (n + 2) (n + 1) (n + 3) n]⟩ := by rw [hl]; rfl
  rw [this]
  exact S''⟩
/-! calls of defs that have cells -/
structure AtC (f c : Addr) (name : Str) (params : Arguments) (body : List Stmt) (scope : Scope) (ps : List Str) : Prop where
  at_ : ∀ P : Params, ∃ oc od osl dV kV doc pm an ct, (heapK P).lookup f = some ⟨oc, od, .func (fnOf name name params body scope dV kV doc pm an (.ref c) ct), osl⟩ ∧
    ∀ vs : List Value, vs.length = ps.length → bindArgs (fnOf name name params body scope dV kV doc pm an (.ref c) ct) ⟨vs, []⟩ = pure (ps.zip vs)
  code : ∀ P : Params, codeIn (heapK P) (.ref c) name = true

theorem nodup_mid {A B E : List Nat} {L : Nat} (h : (A ++ E).Nodup) (h1 : ∀ x ∈ A ++ E, x < L) (h2 : B.Nodup) (h3 : ∀ y ∈ B, L < y) : ((A ++ B) ++ E).Nodup := by
  simp only [List.nodup_append, List.mem_append] at h h1 ⊢
  obtain ⟨n1, n2, n3⟩ := h
  refine ⟨⟨n1, h2, fun a ha b hb e => ?_⟩, n2, fun a ha b hb e => ?_⟩
  · have := h1 a (.inl ha); have := h3 b hb; omega
  · rcases ha with ha | ha
    · exact n3 a ha b hb e
    · have := h3 a ha; have := h1 b (.inr hb); omega

theorem HR.app {ρ : List Addr} {H X : List O} {news cells : Led} (R : HR ρ H news) (hl : X.length = cells.length) (h : ∀ {k : Nat} {x : O} {p : Addr × Obj}, X[k]? = some x → cells[k]? = some p → OR (ρ ++ cells.map (·.1)) p.1 x p.2) :
    HR (ρ ++ cells.map (·.1)) (H ++ X) (news ++ cells) := by
  refine ⟨by simp [R.adr], by simp [R.len, hl], fun {k x p} hx hp => ?_⟩
  by_cases hk : k < H.length
  · rw [List.getElem?_append_left hk] at hx
    rw [List.getElem?_append_left (R.len ▸ hk)] at hp
    exact (R.all hx hp).mono
  · rw [List.getElem?_append_right (by omega)] at hx
    rw [List.getElem?_append_right (R.len ▸ (by omega)), ← R.len] at hp
    exact h hx hp

theorem dtAt : AtC 156 155 "divided_times" (fdArgs (stAt 19)) (fdBody (stAt 19)) (fdScope (stAt 19)) ["m", "w", "mul", "divrem"] := by
  refine ⟨fun P => ⟨_, _, _, _, _, _, _, _, _, rfl, fun vs h => ?_⟩, fun P => by kernel_rfl⟩
  obtain ⟨v0, v1, v2, v3, rfl⟩ := len4 h.symm
  rfl
theorem dtCells (L : Nat) : cellsFrom (L + 1) (fdScope (stAt 19)).names [] = ([("divrem", L + 4), ("mul", L + 3), ("w", L + 2), ("m", L + 1)] : List (Str × Addr)) := rfl
theorem dtKinds : ∀ x ∈ (["m", "w", "mul", "divrem"] : List Str), (fdScope (stAt 19)).names.lookup x = some .cell := by decide +kernel

/-- divided_times: its body, with the cells at their places -/
theorem CallTo.of_dt {d : Nat} {H H' : List O} {vm vw vx vd v : V} {loc' : List V}
    (h : ExecsTo d (fi_dt H.length) (fdBody (stAt 19)) ⟨[.undef], H ++ [O.cell vd, O.cell vx, O.cell vw, O.cell vm]⟩ (.ret v) ⟨loc', H'⟩) : CallTo (d + 1) (.val (.ref 156)) [vm, vw, vx, vd] H v H' := ⟨by
  intro w p loose mean mg mb A₀ base h₀ outer dp un gd cn cs L a ccd cl m news extra ρ s fv vs Q B F X N T hk R nd hd hu hf hvs hQ
  cases hf
  obtain ⟨u1, u2, u3, u4, rfl⟩ : ∃ u1 u2 u3 u4, vs = [u1, u2, u3, u4] := len4 hvs.length
  obtain ⟨k1, k2, k3, k4, _⟩ := hvs
  obtain ⟨oc, od, osl, dV, kV, doc, pm, an, ct, hlook, hbind⟩ := dtAt.at_ w.params
  have ok := @ok_dt H.length
  refine wpAny_call ?_
  refine code_defC (A := ktrTop dp un gd cn cs L a ccd cl outer) B F X N T rfl rfl hk hlook (dtAt.code _) (show dp < recursionLimit by omega) (BindsTo.of_eq (hbind _ rfl)) ?_ ?_ ?_ rfl rfl rfl
  · refine List.all_eq_true.mpr fun y hy => ?_
    rw [dtKinds y.1 (List.of_mem_zip hy).1]
    rfl
  · decide +kernel
  · intro g L' h₁ tk cells F₀ F₁ N₁ Y B₁ X₁ T₁ hlt
    obtain ⟨o4, o3, o2, o1, rfl, e4, e3, e2, e1⟩ := Y.four
    have e4' : o4.data = .cell (some u4) := e4
    have e3' : o3.data = .cell (some u3) := e3
    have e2' : o2.data = .cell (some u2) := e2
    have e1' : o1.data = .cell (some u1) := e1
    let C' : RC d (fi_dt H.length) := ⟨w, p, loose, mean, mg, mb, _, base, envX cn cs L a ccd cl :: outer, dp + 1, un + 3, gd, L', g, extra, [("divrem", L' + 4), ("mul", L' + 3), ("w", L' + 2), ("m", L' + 1)], B₁, X₁, T₁, by omega, by omega⟩
    have R₁ : HR (ρ ++ ([(L' + 4, o4), (L' + 3, o3), (L' + 2, o2), (L' + 1, o1)] : Led).map (·.1)) (H ++ [O.cell vd, O.cell vx, O.cell vw, O.cell vm]) (news ++ [(L' + 4, o4), (L' + 3, o3), (L' + 2, o2), (L' + 1, o1)]) := by
      refine R.app rfl fun {k x p} hx hp => ?_
      match k with
      | 0 => cases hx; cases hp; exact cellP_mk (a := L' + 4) k4.mono e4'
      | 1 => cases hx; cases hp; exact cellP_mk (a := L' + 3) k3.mono e3'
      | 2 => cases hx; cases hp; exact cellP_mk (a := L' + 2) k2.mono e2'
      | 3 => cases hx; cases hp; exact cellP_mk (a := L' + 1) k1.mono e1'
      | n + 4 => cases hx
    have hρ : ρ.length = H.length := by rw [R.len, ← R.adr, List.length_map]
    have S : C'.SR ⟨[.undef], H ++ [O.cell vd, O.cell vx, O.cell vw, O.cell vm]⟩ (ρ ++ ([(L' + 4, o4), (L' + 3, o3), (L' + 2, o2), (L' + 1, o1)] : Led).map (·.1)) h₁ := by
      refine ⟨_, news ++ [(L' + 4, o4), (L' + 3, o3), (L' + 2, o2), (L' + 1, o1)], F₁, fun p hp => N₁ p ?_, R₁, ?_, ⟨⟨rfl, ?_, rfl, ?_, rfl, ?_, rfl, ?_, trivial⟩, rfl, fun {i x v} hi hx => ?_⟩⟩
      · simp only [List.mem_append] at hp ⊢
        rcases hp with (hp | hp) | hp
        · exact .inr (.inl hp)
        · exact .inl hp
        · exact .inr (.inr hp)
      · have nd' := nd
        simp only [List.map_append] at nd' ⊢
        refine nodup_mid nd' (L := L') (fun x hx => ?_) ?_ ?_
        · rw [← List.map_append] at hx
          obtain ⟨p, hp, rfl⟩ := List.mem_map.mp hx
          exact hlt p hp
        · simp
        · intro y hy
          simp only [List.map_cons, List.map_nil, List.mem_cons, List.not_mem_nil, or_false] at hy
          omega
      · rw [← hρ]; simp
      · rw [← hρ]; simp
      · rw [← hρ]; simp
      · rw [← hρ]; simp
      · match i with
        | 0 => cases hx; trivial
        | n + 1 => cases hx
    refine wpAny_mono (h.run C' _ { s with heap := h₁, toks := tk } (fun fl s' => LeaveK h₀ L m g _ (match fl with | .ret v => v | _ => .none) s') S fun τ fl s' m' S' hfl => ?_) (fun _ _ x => x) fun _ _ x => x.elim
    obtain ⟨u, rfl, hu'⟩ := hfl
    obtain ⟨m₂, news₂, F₂, N₂, R₂, nd₂, l₂⟩ := S'.ex
    have hs : Same s s' := by obtain ⟨h, tk, rfl⟩ := m'; exact ⟨h, tk, rfl⟩
    rw [List.append_assoc] at R₂ hu'
    exact leaveK_ F₂ N₂ fun kF kN => hQ _ u s' news₂ hs kF kN R₂ nd₂ hu'⟩
end Mine

namespace Mine
/-! L20 -/
open PySem PySem.W PyProof.Rows PySem.Spec PySem.Calls
set_option maxRecDepth 100000

/-! ## comprehensions -/
/-- the state, with the frame's own names as they stand -/
noncomputable def RC.SRm {d : Nat} {fi : FI} (C : RC d fi) (m : Str → Option Value) (σ : St) (ρ : List Addr) (h : Heap) : Prop :=
  ∃ news, Fr C.h₀ C.L h m ∧ News C.h₀ C.L h (news ++ C.extra) ∧ HR ρ σ.heap news ∧ ((news ++ C.extra).map (·.1)).Nodup ∧ LR ρ fi.names fi.cells C.cl σ.loc m
theorem SRm_refl {d : Nat} {fi : FI} {C : RC d fi} {m : Str → Option Value} {σ : St} {ρ : List Addr} {h : Heap} (S : C.SRm m σ ρ h) : C.SRm m σ (ρ ++ []) h := by rw [List.append_nil]; exact S
theorem SRm_as {d : Nat} {fi : FI} {C : RC d fi} {m : Str → Option Value} {σ : St} {ρ τ τ' : List Addr} {h : Heap} (S : C.SRm m σ (ρ ++ τ ++ τ') h) : C.SRm m σ (ρ ++ (τ ++ τ')) h := by rwa [← List.append_assoc]
theorem SRm_mem {d : Nat} {fi : FI} {C : RC d fi} {m : Str → Option Value} {σ : St} {ρ : List Addr} {h : Heap} {p : Addr × Obj} (S : C.SRm m σ ρ h) (hp : p ∈ C.extra) : h.get? p.1 = some p.2 := by
  have S0 := S
  obtain ⟨news, F, N, R, nd, l⟩ := S0
  exact (N p (List.mem_append_right _ hp)).1
structure EltTo (d : Nat) (fi : FI) (cf : List (Str × Addr) → List (Str × Addr)) (scope : Scope) (x : Str) (e : Expr) (iv : V) (σ : St) (v : V) : Prop where
  run : ∀ (C : RC d fi) (ρ : List Addr) (m : Str → Option Value) (s : Shared) (Q : Value → Shared → Prop) (Cc : Addr) (oC : Obj) (m₂ : Str → Option Value) (u : Value), C.SRm m σ ρ s.heap → (Cc, oC) ∈ C.extra → LCg.NsObj oC m₂ → m₂ x = some u → VR ρ iv u →
    (∀ τ t s', Same s s' → C.SRm m σ (ρ ++ τ) s'.heap → VR (ρ ++ τ) v t → Q t s') → wpAny C.M C.A (eval e (compEnvC scope (cf C.cl) Cc C.env)) Q NoE s
structure EltsTo (d : Nat) (fi : FI) (cf : List (Str × Addr) → List (Str × Addr)) (scope : Scope) (x : Str) (es : List Expr) (iv : V) (σ : St) (vs : List V) : Prop where
  run : ∀ (C : RC d fi) (pos : Pos) (ρ : List Addr) (m : Str → Option Value) (s : Shared) (Q : List Value → Shared → Prop) (Cc : Addr) (oC : Obj) (m₂ : Str → Option Value) (u : Value), C.SRm m σ ρ s.heap → (Cc, oC) ∈ C.extra → LCg.NsObj oC m₂ → m₂ x = some u → VR ρ iv u →
    (∀ τ t s', Same s s' → C.SRm m σ (ρ ++ τ) s'.heap → VRs (ρ ++ τ) vs t → Q t s') → wpAny C.M C.A (spliced (backTo pos (starEach es (compEnvC scope (cf C.cl) Cc C.env)))) Q NoE s

section
variable {d : Nat} {fi : FI} {σ σ₁ σ₂ σ₃ σ' : St} {pos : Pos} {scope : Scope} {x : Str} {iv : V} {cf : List (Str × Addr) → List (Str × Addr)}

theorem EltTo.var (hx : scope.names.lookup x = some .local) (hk : scope.kind = .function) (hd : (x == ("__debug__" : Str)) = false) : EltTo d fi cf scope x (.Name x pos) iv σ iv := ⟨fun C ρ m s Q Cc oC m₂ u S hC hN hm hu hQ => by
  have hg := SRm_mem S hC
  exact wpAny_Name (wpAny_loadName_local hk (lookup_relabel_local hx) (hN.ns hg) hm (hQ [] _ _ (Same.refl s) (SRm_refl S) (by rw [List.append_nil]; exact hu))) hd⟩

theorem EltTo.free (ok : fi.Ok) {y : Str} {j k : Nat} {v : V} (hj : AtN fi.cells j (y, k)) (hk : σ.heap[k]? = some (O.cell v)) (hu : v ≠ .undef) (hsk : scope.kind = .function) (hf : ∀ env : Env, env.scope = fi.scope → (relabel scope env).names.lookup y = some .cell) :
    EltTo d fi id scope x (.Name y pos) iv σ v := ⟨fun C ρ m s Q Cc oC m₂ u S hC hN hm hu' hQ => by
  have S0 := S
  obtain ⟨news, F, N, R, nd, l⟩ := S0
  obtain ⟨a, o, h1, h2, h3, h4⟩ := R.get hk
  obtain ⟨b, e1, e2⟩ := l.cel.get ok.celnd hj.mem
  rw [h1] at e2; cases e2
  obtain ⟨t, u1, u2⟩ := cellP_of (show cellP v ρ a o from h4) hu
  obtain ⟨c1, c2, c3⟩ := ok.cel _ hj.mem
  have hm' : (a, o) ∈ news ++ C.extra := List.mem_append_left _ h2
  exact wpAny_Name (wpAny_loadName_cell (env := compEnvC scope (id C.cl) Cc C.env) hsk (hf C.env rfl) e1 ⟨o, N.get hm', u2⟩ (hQ [] _ _ (Same.refl s) (SRm_refl S) (by rw [List.append_nil]; exact u1))) c2⟩

theorem EltTo.bin {l r : Expr} {op : Operator} {a b c : V} (h1 : EltTo d fi cf scope x l iv σ a) (h2 : EltTo d fi cf scope x r iv σ b) (h3 : BinTo op a b c) : EltTo d fi cf scope x (.BinOp l op r pos) iv σ c := ⟨fun C ρ m s Q Cc oC m₂ u S hC hN hm hu hQ => by
  with_reducible refine wpAny_BinOp ?_
  refine h1.run C ρ m s _ Cc oC m₂ u S hC hN hm hu fun τ t s₁ m₁ S₁ ht => ?_
  refine h2.run C _ m s₁ _ Cc oC m₂ u S₁ hC hN hm hu.mono fun τ₂ v s₂ m₂' S₂ hv => ?_
  exact h3.run _ _ _ _ _ _ _ _ ht.mono hv fun t tk ht => hQ (τ ++ τ₂) t _ (m₁.trans (m₂'.trans Same.tok)) (SRm_as S₂) (VR_as ht)⟩

theorem EltsTo.nil : EltsTo d fi cf scope x [] iv σ [] := ⟨fun C pos ρ m s Q Cc oC m₂ u S hC hN hm hu hQ => spliced_none (hQ [] _ _ (Same.refl s) (SRm_refl S) trivial)⟩
theorem EltsTo.cons {e : Expr} {es : List Expr} {v : V} {vs : List V} (h1 : EltTo d fi cf scope x e iv σ v) (h2 : EltsTo d fi cf scope x es iv σ vs) (he : ∀ env, starEach (e :: es) env = (false, eval e env) :: starEach es env) :
    EltsTo d fi cf scope x (e :: es) iv σ (v :: vs) := ⟨fun C pos ρ m s Q Cc oC m₂ u S hC hN hm hu hQ => by
  with_reducible refine spliced_more ?_ (he _)
  refine h1.run C ρ m s _ Cc oC m₂ u S hC hN hm hu fun τ t s₁ m₁ S₁ ht => ?_
  refine h2.run C pos _ m s₁ _ Cc oC m₂ u S₁ hC hN hm hu.mono fun τ₂ us s₂ m₂' S₂ hv => ?_
  exact hQ (τ ++ τ₂) _ _ (m₁.trans m₂') (SRm_as S₂) (VRs_as (show VRs _ (v :: vs) (t :: us) from ⟨ht.mono, hv⟩))⟩

/-- a def of the text, called in a comprehension, that makes nothing new -/
theorem EltTo.call {y : Str} {p : Pos} {e : Expr} {rest : List Expr} {f : Addr} {vs : List V} {v : V} {j : Nat} (hj : AtN globT j (y, .ref f)) (hf : f ∈ fnAddrs) (hsk : scope.kind = .function) (hg : ∀ env : Env, env.scope = fi.scope → (relabel scope env).names.lookup y = some .globalImplicit) (hd : (y == ("__debug__" : Str)) = false)
    (hk : fi.scope.kind = .function) (h2 : EltsTo d fi cf scope x (e :: rest) iv σ vs) (hs : ∀ env, starEach (e :: rest) env = (false, eval e env) :: starEach rest env) (hp : ∀ env, (backTo pos (starEach rest env)).any (·.1) = false) (hc : CallTo d (.val (.ref f)) vs σ.heap v σ.heap) :
    EltTo d fi cf scope x (.Call (.Name y p) (e :: rest) [] pos) iv σ v := ⟨fun C ρ m s Q Cc oC m₂ u S hC hN hm hu hQ => by
  with_reducible refine Call_ ?_ (call_Name_eq _ _ _ _ _)
  have S0 := S
  obtain ⟨news, F, N, R, nd, l⟩ := S0
  refine nameG_K (env := compEnvC scope (cf C.cl) Cc C.env) F C.X (topRead_of C.T) (globT_ok C.w _ hj.mem) ?_ rfl hsk (hg C.env rfl) hd
  with_reducible refine callWith_K C.X (keeps_ok C.w f hf) ?_ (hs _) (hp _)
  refine h2.run C pos _ m s _ Cc oC m₂ u S hC hN hm hu fun τ₂ us s₂ m₂' S₂ hus => ?_
  obtain ⟨news, F, N, R, nd, l⟩ := S₂
  refine ⟨C.X.keeps F.keep, ?_⟩
  rw [List.nil_append]
  refine hc.run C.w C.p C.loose C.mean C.mg C.mb C.A₀ C.base C.h₀ C.outer C.dp C.un C.gd fi.name fi.scope C.L fi.addr (.ref fi.code) C.cl m news C.extra _ s₂ _ us Q C.B F C.X N C.T hk R nd C.hd C.hu rfl hus fun τ₃ t s' news' hs' F' N' R' nd' hu' => ?_
  exact hQ (τ₂ ++ τ₃) t s' (m₂'.trans hs') (SRm_as ⟨news', F', N', R', nd', l.mono⟩) (VR_as hu')⟩

/-- a built-in of the machine upon one int -/
theorem EltTo.built1 {y : Str} {p : Pos} {e : Expr} {id : Value} {v w : V} {j : Nat} (hj : AtN builtT j (y, id)) (hsk : scope.kind = .function) (hg : ∀ env : Env, env.scope = fi.scope → (relabel scope env).names.lookup y = some .globalImplicit) (hd : (y == ("__debug__" : Str)) = false)
    (hcw : ∀ (M : Model) (A : Around) (s : Shared) (Q : Value → Shared → Prop) (env : Env) (pos : Pos), wpAny M A (spliced (backTo pos (starEach [e] env))) (fun vs s' => wpAny M A (PySem.call id vs) Q NoE s') NoE s → wpAny M A (callWith pos id [] (backTo pos (starEach [e] env)) []) Q NoE s)
    (h2 : EltTo d fi cf scope x e iv σ v) (hs : ∀ env, starEach [e] env = (false, eval e env) :: starEach [] env)
    (hc : ∀ (C : RC d fi) (ρ : List Addr) (s : Shared) (u : Value) (Q : Value → Shared → Prop), VR ρ v u → (∀ t tk, VR ρ w t → Q t { s with toks := tk }) → wpAny C.M C.A (PySem.call id [u]) Q NoE s) :
    EltTo d fi cf scope x (.Call (.Name y p) [e] [] pos) iv σ w := ⟨fun C ρ m s Q Cc oC m₂ u S hC hN hm hu hQ => by
  with_reducible refine Call_ ?_ (call_Name_eq _ _ _ _ _)
  have S0 := S
  obtain ⟨news, F, N, R, nd, l⟩ := S0
  obtain ⟨b1, b2, b3⟩ := builtT_ok C.w _ hj.mem
  have T' := topRead_of C.T
  refine Name_function_global (env := compEnvC scope (cf C.cl) Cc C.env) hsk (hg C.env rfl) (loadGlobal_builtin (env := compEnvC scope (cf C.cl) Cc C.env) (T'.g.keeps F.keep) (mg_none_of C.X T'.g b1) (T'.b.keeps F.keep) ((T'.builtins y b3).trans b2) ?_) hd
  refine hcw _ _ _ _ _ _ ?_
  refine (EltsTo.cons h2 .nil hs).run C pos _ m s _ Cc oC m₂ u S hC hN hm hu fun τ₂ us s₂ m₂' S₂ hus => ?_
  obtain ⟨t, rfl⟩ : ∃ t, us = [t] := len1 hus.length
  exact hc C _ s₂ t Q hus.1 fun t' tk ht' => hQ τ₂ t' _ (m₂'.trans Same.tok) S₂ ht'⟩

noncomputable def UpTo (f : Nat → V) (n : Nat) : List V := (List.range n).map f
theorem UpTo_succ (f : Nat → V) (n : Nat) : UpTo f (n + 1) = UpTo f n ++ [f n] := by simp [UpTo, List.range_succ]

/-- the turns of a comprehension -/
theorem compRest {C : RC d fi} {m : Str → Option Value} {s : Shared} {cl : List (Str × Addr)} {elt : Expr} {P : Nat → Value → Prop} {Sp : List (Addr × Obj) → Prop} {Q : Value → Shared → Prop} {s₀ : Shared} {f g : Nat → V} {n : Nat} (hcl : cl = cf C.cl)
    (hP : ∀ i v, P i v → ∀ ρ, VR ρ (g i) v) (helt : ∀ i, i < n → EltTo d fi cf scope x elt (g i) σ (f i)) (hsame : Same s₀ s) (hSp : ∀ news ρ, HR ρ σ.heap news → ((news ++ C.extra).map (·.1)).Nodup → Sp (news ++ C.extra))
    (hn : n ≤ 2 ^ 20) {ρ : List Addr} (hQ : ∀ τ u s', Same s₀ s' → C.SR ⟨σ.loc, σ.heap ++ [.list (UpTo f n)]⟩ (ρ ++ τ) s'.heap → VR (ρ ++ τ) (.ref σ.heap.length) u → Q u s') :
    ∀ k i, i + k = n → ∀ (news : Led) (τ : List Addr) (ys : List Value), HR (ρ ++ τ) σ.heap news → ((news ++ C.extra).map (·.1)).Nodup → LR (ρ ++ τ) fi.names fi.cells C.cl σ.loc m → VRs (ρ ++ τ) (UpTo f i) ys →
      LCg.CompRest PySem.Challenge.rw_xm0387_01.row.prog C.w C.A C.h₀ C.L m C.env elt x scope cl s Sp P (LCg.FinE C.h₀ C.L m s Q) k i ys (news ++ C.extra)
  | 0, i, hi, news, τ, ys, R, nd, l, hy => by
    have : i = n := by omega
    subst this
    subst hcl
    refine LCg.CompRest.zero fun D h tk F N off => ?_
    have hD : ∀ q ∈ (news ++ C.extra).map (·.1), q ≠ D := by
      intro q hq
      have key : ∀ {l : List (Addr × Obj)}, LCg.Off1 D l → ∀ p ∈ l, p.1 ≠ D := by
        intro l
        induction l with
        | nil => intro _ p hp; nomatch hp
        | cons a t ih =>
          intro h p hp
          rcases List.mem_cons.mp hp with rfl | hp
          · exact h.1
          · exact ih h.2 p hp
      obtain ⟨p, hp, rfl⟩ := List.mem_map.mp hq
      exact key off p hp
    refine hQ (τ ++ [D]) (.ref D) _ (hsame.trans ⟨h, tk, rfl⟩) ?_ ?_
    · rw [← List.append_assoc]
      refine ⟨m, news ++ [(D, LCg.lst ys)], F, fun p hp => N p ?_, R.snoc ⟨ys.toArray, ys.length, rfl, by simpa using hy.mono⟩, ?_, l.mono⟩
      · simp only [List.mem_append, List.mem_cons, List.not_mem_nil, or_false] at hp ⊢
        rcases hp with (hp | hp) | hp
        · exact .inr (.inl hp)
        · exact .inl hp
        · exact .inr (.inr hp)
      · simp only [List.map_append, List.map_cons, List.map_nil, List.nodup_append, List.mem_append, List.mem_cons, List.not_mem_nil, or_false, List.nodup_cons, List.nodup_nil, not_false_eq_true, true_and, and_true] at nd hD ⊢
        obtain ⟨n1, n2, n3⟩ := nd
        refine ⟨⟨n1, fun a ha b hb => ?_⟩, n2, fun a ha b hb => ?_⟩
        · rw [hb]; exact hD a (.inl ha)
        · rcases ha with ha | ha
          · exact n3 a ha b hb
          · rw [ha]; exact fun e => hD b (.inr hb) e.symm
    · rw [← List.append_assoc]
      refine VR_new ?_
      rw [R.len, ← R.adr, List.length_map]
  | k + 1, i, hi, news, τ, ys, R, nd, l, hy => by
    refine LCg.CompRest.succ fun v I oI Cc oC D m₂ h tk E' hPv hoC hm₂ F N off hne => ?_
    subst hcl
    let C' : RC d fi := C.wth ([(I, oI), (Cc, oC), (D, LCg.lst ys)] ++ C.extra)
    have hoff := off.mem
    have S' : C'.SRm m σ (ρ ++ τ) h := by
      refine ⟨news, F, fun p hp => N p ?_, R, ?_, l⟩
      · simp only [C', List.mem_append, List.mem_cons, List.not_mem_nil, or_false] at hp ⊢
        rcases hp with hp | (hp | hp | hp) | hp
        · exact .inr (.inr (.inr (.inl hp)))
        · exact .inl hp
        · exact .inr (.inl hp)
        · exact .inr (.inr (.inl hp))
        · exact .inr (.inr (.inr (.inr hp)))
      · have ho : ∀ q ∈ (news ++ C.extra).map (·.1), q ≠ I ∧ q ≠ Cc ∧ q ≠ D := fun q hq => by
          obtain ⟨p, hp, rfl⟩ := List.mem_map.mp hq
          exact hoff p hp
        obtain ⟨e1, e2, e3⟩ := hne
        show ((news ++ ([(I, oI), (Cc, oC), (D, LCg.lst ys)] ++ C.extra)).map (·.1)).Nodup
        simp only [List.map_append, List.map_cons, List.map_nil, List.nodup_append, List.mem_append, List.mem_cons, List.not_mem_nil, or_false, List.nodup_cons, List.nodup_nil, not_false_eq_true, true_and, and_true, not_or] at nd ho ⊢
        obtain ⟨n1, n2, n3⟩ := nd
        refine ⟨n1, ⟨⟨⟨e1, e2⟩, e3⟩, n2, fun a ha b hb e => ?_⟩, fun a ha b hb e => ?_⟩
        · have h1 := ho b (.inr hb)
          subst e
          rcases ha with ha | ha | ha
          · exact h1.1 ha
          · exact h1.2.1 ha
          · exact h1.2.2 ha
        · have h1 := ho a (.inl ha)
          subst e
          rcases hb with (hb | hb | hb) | hb
          · exact h1.1 hb
          · exact h1.2.1 hb
          · exact h1.2.2 hb
          · exact n3 _ ha _ hb rfl
    refine wpAny_mono ((helt i (by omega)).run C' (ρ ++ τ) m { s with heap := h, toks := tk } _ Cc oC m₂ v S' (List.mem_append_left _ (.tail _ (.head _))) hoC hm₂ (hP i v hPv _) fun τ₂ t s' hs' S'' ht => ?_) (fun _ _ x => x) fun _ _ x => x.elim
    obtain ⟨news₂, F₂, N₂, R₂, nd₂, l₂⟩ := S''
    obtain ⟨h', tk', rfl⟩ := hs'
    have nd₂' := nd₂
    have hmemE : ∀ p, p ∈ news₂ ++ C.extra → p ∈ news₂ ++ ([(I, oI), (Cc, oC), (D, LCg.lst ys)] ++ C.extra) := fun p hp => by
      simp only [List.mem_append] at hp ⊢
      rcases hp with hp | hp
      · exact .inl hp
      · exact .inr (.inr hp)
    have ndE : ((news₂ ++ C.extra).map (·.1)).Nodup := by
      refine nd₂.sublist (List.Sublist.map _ ?_)
      exact (List.append_sublist_append_left _).mpr (List.sublist_append_right _ _)
    refine LCg.CompEnd.intro F₂ N₂ (news₂ ++ C.extra) (fun p hp => ?_) ?_ ?_ ?_
    · show p ∈ news₂ ++ ([(I, oI), (Cc, oC), (D, LCg.lst ys)] ++ C.extra)
      rcases List.mem_cons.mp hp with rfl | hp
      · simp
      · rcases List.mem_cons.mp hp with rfl | hp
        · simp
        · rcases List.mem_cons.mp hp with rfl | hp
          · simp
          · exact hmemE p hp
    · refine LCg.Off3.of fun p hp => ?_
      change ((news₂ ++ ([(I, oI), (Cc, oC), (D, LCg.lst ys)] ++ C.extra)).map (·.1)).Nodup at nd₂'
      simp only [List.map_append, List.map_cons, List.map_nil, List.nodup_append, List.mem_append, List.mem_cons, List.not_mem_nil, or_false] at nd₂'
      obtain ⟨n1, ⟨n2, n3, n4⟩, n5⟩ := nd₂'
      rcases List.mem_append.mp hp with hp | hp
      · have hm := List.mem_map_of_mem (f := (·.1)) hp
        exact ⟨n5 _ hm I (.inl (.inl rfl)), n5 _ hm Cc (.inl (.inr (.inl rfl))), n5 _ hm D (.inl (.inr (.inr rfl)))⟩
      · have hm := List.mem_map_of_mem (f := (·.1)) hp
        exact ⟨(n4 I (.inl rfl) _ hm).symm, (n4 Cc (.inr (.inl rfl)) _ hm).symm, (n4 D (.inr (.inr rfl)) _ hm).symm⟩
    · exact hSp _ _ R₂ ndE
    · have e : ρ ++ τ ++ τ₂ = ρ ++ (τ ++ τ₂) := List.append_assoc ..
      rw [e] at R₂ ht l₂
      refine compRest rfl hP helt hsame hSp hn hQ k (i + 1) (by omega) news₂ (τ ++ τ₂) (ys ++ [t]) R₂ ndE l₂ ?_
      rw [UpTo_succ]
      refine VRs.append ?_ ⟨ht, trivial⟩
      rw [← List.append_assoc]
      exact hy.mono
end
end Mine

namespace Mine
/-! L21 -/
open PySem PySem.W PyProof.Rows PySem.Spec PySem.Calls
set_option maxRecDepth 100000

theorem CR.names {ρ : List Addr} : ∀ {cs : List (Str × Nat)} {cl : List (Str × Addr)}, CR ρ cs cl → cl.map (·.1) = cs.map (·.1)
  | [], [], _ => rfl
  | (_, _) :: _, (_, _) :: _, h => by
    obtain ⟨rfl, _, h2⟩ := h
    simp [CR.names h2]
theorem SR_names {d : Nat} {fi : FI} {C : RC d fi} {σ : St} {ρ : List Addr} {h : Heap} (S : C.SR σ ρ h) : C.cl.map (·.1) = fi.cells.map (·.1) := by
  obtain ⟨m, news, F, N, R, nd, l⟩ := S.ex
  exact l.cel.names

theorem sum_casts : ∀ ns : List Nat, (ns.map (fun n : Nat => (n : Int))).sum = ((ns.sum : Nat) : Int)
  | [] => rfl
  | a :: r => by rw [List.map_cons, List.sum_cons, List.sum_cons, sum_casts r]; omega
theorem any_casts (i : Nat) : ∀ ns : List Nat, (ns.map (fun n : Nat => (n : Int))).any (· == (i : Int)) = decide (i ∈ ns)
  | [] => rfl
  | a :: r => by
    rw [List.map_cons, List.any_cons, any_casts i r]
    by_cases h : a = i
    · subst h; simp
    · have h2 : ((a : Int) == (i : Int)) = false := beq_false_of_ne (by omega)
      rw [h2, Bool.false_or]
      exact decide_cast (by simp [List.mem_cons, Ne.symm h])
section
variable {d : Nat} {fi : FI} {σ σ₁ σ₂ σ₃ σ' : St} {pos : Pos} {scope : Scope} {x : Str} {iv : V}

theorem EvalTo.compRange {px : Pos} {elt iter : Expr} {a n : Nat} {f : Nat → V}
    (hclos : ∀ L cl, cl.map (·.1) = fi.cells.map (·.1) → closureFor scope (envX fi.name fi.scope L fi.addr (.ref fi.code) cl) = pure cl)
    (hcell : ∀ y ∈ scope.names, y.2 ≠ .cell) (hkind : scope.kind = .function) (hnames : ∀ y ∈ scope.names, y.2 = .local → scope.names.lookup y.1 = some .local) (hx : scope.names.lookup x = some .local)
    (hit : IterR d fi iter σ (a : Int) 1 n σ₁) (hn : n ≤ 2 ^ 20) (helt : ∀ i, i < n → EltTo d fi id scope x elt (.nat (a + i)) σ₁ (f i)) (hs : ∀ env x, foldedSetIterable iter env x = pure x) :
    EvalTo d fi (.ListComp elt [⟨.Name x px, iter, [], 0⟩] scope pos) σ (.ref σ₁.heap.length) ⟨σ₁.loc, σ₁.heap ++ [.list (UpTo f n)]⟩ := ⟨fun C ρ s Q S hQ => by
  rw [eval_ListComp]
  refine wpAny_comprehension_free (use := Option.none) rfl (hs _) (hclos _ _ (SR_names S)) hkind hnames ?_
  refine hit.run C ρ s _ S fun τ r b t u v s₁ m₁ S₁ hR hsm hsz => ?_
  refine wpAny_pyIter_range hR hsm ?_
  obtain ⟨m, news, F, N, R, nd, l⟩ := S₁.ex
  have up : ∀ b o, s₁.heap.get? b = some o → (s₁.heap.push (rIter a n 1)).get? b = some o := fun b o e => Heap.get?_push_of_some _ e
  have hh : C.A.handled = Option.none := rfl
  refine LCg.block_U (Fin := LCg.FinE C.h₀ C.L m { s₁ with heap := s₁.heap.push { cls := .type "range_iterator", dict := Option.none, data := .fields #[rawInt a, rawInt (Builtin.Range.rangeSize a b 1), rawInt 1], slots := #[] } } Q) (LCg.range_walks hh (a : Int) n) (by rw [sizeLine_eq]; omega) (fun i h st => ⟨_, st⟩) LCg.range_st hcell hkind hx (by show IsRangeIter _ _ _ _ _; rw [hsz]; simpa using Heap.get?_push_size _ rfl) (fun b hb => ?_)
    (F.keeps fun _ _ e => Heap.get?_push_of_some _ e) (N.grown fun _ _ e => Heap.get?_push_of_some _ e) (Nat.ne_of_lt F.ns.lt) (next_is_new F) (fun p hp => Nat.ne_of_lt (Heap.lt_size (N p hp).1)) trivial
    (compRest (s₀ := s) (ρ := ρ) (g := fun i => .nat (a + i)) (f := f) (n := n) (σ := σ₁) rfl ?_ helt ?_ (fun _ _ _ _ => trivial) hn hQ n 0 (by omega) news τ [] R nd l trivial) ?_
  · rw [List.mem_singleton.mp hb]
    show s₁.heap.objs.size < (s₁.heap.push _).objs.size
    rw [Heap.size_push]; exact Nat.lt_succ_self _
  · rintro i v ⟨t, rfl⟩ ρ'
    exact ⟨t, by congr 1⟩
  · exact m₁.trans ⟨_, s₁.toks, rfl⟩
  · intro D Cc h tk m' ys news' F' N' o1 hn' hC₀ hD₀ hCL hDL hCD offC fin
    refine ⟨m', hn', fun h'' hs'' => fin D h'' tk (F'.change hs'' hCL hC₀) (fun p hp => ?_) o1⟩
    refine ⟨hs''.extBut _ _ ?_ (N' p hp).1, (N' p hp).2⟩
    rcases List.mem_cons.mp hp with rfl | hp
    · exact Ne.symm hCD
    · exact offC p hp⟩

/-- sum of a list of naturals -/
theorem EvalTo.sumN {y : Str} {p : Pos} {e : Expr} {k : Nat} {ns : List Nat} (h1 : EvalTo d fi (.Name y p) σ (.val (.builtin "sum")) σ) (h2 : EvalTo d fi e σ (.ref k) σ₂) (hk : σ₂.heap[k]? = some (.nats ns)) (hs : ∀ env, starEach [e] env = (false, eval e env) :: starEach [] env) :
    EvalTo d fi (.Call (.Name y p) [e] [] pos) σ (.nat ns.sum) σ₂ := ⟨fun C ρ s Q S hQ => by
  refine callBuilt h1 (.cons h2 .nil hs) hs (fun _ => rfl) C ρ s Q S fun τ us s₂ m₂ S₂ hus => ?_
  obtain ⟨u, rfl⟩ : ∃ u, us = [u] := len1 hus.length
  obtain ⟨m, news, F, N, R, nd, l⟩ := S₂.ex
  obtain ⟨a, o, a1, a2, a3, vs, n, rfl, hvs⟩ := R.get hk
  rw [ref_eq hus.1 a1]
  have hl : s₂.heap.IsList a vs.toList.toArray := ⟨_, (N _ (List.mem_append_left _ a2)).1, rfl, n, by simp⟩
  have hi : IntsAre vs.toList (ns.map (fun n : Nat => (n : Int))) := VRs.intsAre (ρ := ρ ++ τ) (by rw [← nats_ints]; exact hvs)
  refine sumK rfl F N hl hi fun h' tk t' F' N' => ?_
  rw [sum_casts]
  exact hQ τ _ _ (m₂.trans ⟨h', tk, rfl⟩) ⟨m, news, F', N', R, nd, l⟩ ⟨t', rfl⟩⟩

/-- a number among the numbers of a list -/
theorem EvalTo.inList {l : Expr} {r : Expr} {i k : Nat} {ns : List Nat} (h1 : EvalTo d fi l σ (.nat i) σ₁) (h2 : EvalTo d fi r σ₁ (.ref k) σ₂) (hk : σ₂.heap[k]? = some (.nats ns)) (hm : behindInMarks .In r = false) :
    EvalTo d fi (.Compare l [.In] [r] pos) σ (.bool (decide (i ∈ ns))) σ₂ := ⟨fun C ρ s Q S hQ => by
  with_reducible refine wpAny_Compare1 ?_ hm
  refine h1.run C ρ s _ S fun τ u s₁ m₁ S₁ hu => ?_
  refine h2.run C _ s₁ _ S₁ fun τ₂ v s₂ m₂ S₂ hv => ?_
  obtain ⟨t, rfl⟩ := hu
  obtain ⟨a, vs, n, ha, hg, hvs⟩ := SR_list S₂ hk
  rw [ref_eq hv ha]
  have hl : s₂.heap.IsList a vs.toList.toArray := ⟨_, hg, rfl, n, by simp⟩
  have hi : IntsAre vs.toList (ns.map (fun n : Nat => (n : Int))) := VRs.intsAre (ρ := ρ ++ τ ++ τ₂) (by rw [← nats_ints]; exact hvs)
  refine in_list_ints hl hi ?_
  rw [any_casts]
  exact hQ (τ ++ τ₂) _ _ (m₁.trans m₂) (SR_as S₂) rfl⟩
end
end Mine

namespace Mine
/-! L22 -/
open PySem PySem.W PyProof.Rows PySem.Spec PySem.Calls
set_option maxRecDepth 100000
section
variable {d : Nat} {fi : FI} {σ σ₁ σ₂ σ₃ σ' : St} {pos : Pos}

theorem storeCell (ok : fi.Ok) {C : RC d fi} {ρ : List Addr} {s : Shared} {Q : Unit → Shared → Prop} {E : Value → Shared → Prop} {y : Str} {j k : Nat} {v v₀ : V} {u : Value} (S : C.SR σ ρ s.heap) (hj : AtN fi.cells j (y, k)) (hk : σ.heap[k]? = some (O.cell v₀)) (hc : fi.scope.names.lookup y = some .cell) (hv : VR ρ v u)
    (hQ : ∀ s', Same s s' → C.SR ⟨σ.loc, σ.heap.set k (O.cell v)⟩ ρ s'.heap → Q () s') : wpAny C.M C.A (storeName C.env y u) Q E s := by
  obtain ⟨m, news, F, N, R, nd, l⟩ := S.ex
  obtain ⟨a, o, h1, h2, h3, h4⟩ := R.get hk
  obtain ⟨b, e1, e2⟩ := l.cel.get ok.celnd hj.mem
  rw [h1] at e2; cases e2
  have h4' : cellP v₀ ρ a o := h4
  obtain ⟨x, hx⟩ : ∃ x, o.data = .cell x := by
    cases v₀ with
    | undef => exact ⟨_, h4'⟩
    | _ => obtain ⟨u, _, e⟩ := h4'; exact ⟨_, e⟩
  have hkl : k < news.length := (List.getElem?_eq_some_iff.mp h3).1
  obtain ⟨g, U, hg⟩ : ∃ g, UpdF a o (news ++ C.extra) g ∧ ∀ o', g o' = (news ++ C.extra).set k (a, o') := by
    have key : ∀ {l : Led} {k : Nat}, l[k]? = some (a, o) → (l.map (·.1)).Nodup → ∃ g, UpdF a o l g ∧ ∀ o', g o' = l.set k (a, o') := by
      intro l
      induction l with
      | nil => intro k h; cases h
      | cons q r ih =>
        intro k h nd
        rw [List.map_cons, List.nodup_cons] at nd
        cases k with
        | zero =>
          simp only [List.getElem?_cons_zero, Option.some.injEq] at h
          subst h
          exact ⟨_, .head fun p hp e => nd.1 (e ▸ List.mem_map_of_mem (f := (·.1)) hp), fun o' => rfl⟩
        | succ k =>
          have h' : r[k]? = some (a, o) := by simpa using h
          obtain ⟨g, u, e⟩ := ih h' nd.2
          refine ⟨_, .tail (fun q' => nd.1 ?_) u, fun o' => ?_⟩
          · have : (a, o) ∈ r := List.mem_of_getElem? h'
            exact q' ▸ List.mem_map_of_mem (f := (·.1)) this
          · show q :: g o' = _
            rw [e]; rfl
    exact key (by rw [List.getElem?_append_left hkl]; exact h3) nd
  refine storeX_C F N e1 U hx (fun h' o' F' N' hd' => ?_) ok.kind hc
  rw [hg, List.set_append_left _ _ hkl] at N'
  refine hQ _ ⟨h', s.toks, rfl⟩ ⟨m, news.set k (a, o'), F', N', R.set h1 (cellP_mk (a := a) hv hd'), ?_, l⟩
  have e : (news.set k (a, o')).map (·.1) = news.map (·.1) := by
    rw [List.map_set]
    exact set_id (by rw [List.getElem?_map, h3]; rfl)
  rw [List.map_append, e, ← List.map_append]
  exact nd

/-- x, y = pair, where y lies in a cell -/
theorem ExecTo.tupCell2 (ok : fi.Ok) {x y : Str} {px py tp : Pos} {k : Nat} {e : Expr} {i j kc n : Nat} {v₁ v₂ v₀ : V} (hx : AtN fi.names i x) (hy : AtN fi.cells j (y, kc)) (hcy : fi.scope.names.lookup y = some .cell) (h : EvalTo d fi e σ (.ref n) σ₁) (hk : σ₁.heap[n]? = some (.tup [v₁, v₂])) (hkc : σ₁.heap[kc]? = some (O.cell v₀))
    (hs : ∀ env, swapsWithSole [.Tuple [.Name x px, .Name y py] k tp] e pos.line env = pure false)
    (hw : ∀ L cl, swappedStores [.Tuple [.Name x px, .Name y py] k tp] e (envX fi.name fi.scope L fi.addr (.ref fi.code) cl) = pure none) :
    ExecTo d fi (.Assign [.Tuple [.Name x px, .Name y py] k tp] e pos) σ .next ⟨σ₁.loc.set i v₁, σ₁.heap.set kc (O.cell v₂)⟩ := ⟨fun C ρ s Q S hQ => by
  with_reducible refine Assign_Tuple ?_ (hs _) (hw _ _)
  refine h.run C ρ s _ S fun τ u s₁ m₁ S₁ hu => ?_
  obtain ⟨a, vs, n', ha, hg, hvs⟩ := SR_tup S₁ hk
  rw [ref_eq hu ha]
  obtain ⟨u₁, u₂, e0⟩ : ∃ u v, vs.toList = [u, v] := len2 hvs.length
  rw [e0] at hvs
  obtain ⟨h₁, h₂, _⟩ := hvs
  have e1 : vs = #[u₁, u₂] := by rw [← Array.toList_inj]; exact e0
  subst e1
  refine wpAny_assign_Tuple rfl ⟨_, hg, rfl, n', rfl⟩ rfl rfl fun h' hx' => ?_
  replace hx' : Heap.ExtBut s₁.heap.objs.size s₁.heap h' := hx'
  have S₂ : C.SR σ₁ (ρ ++ τ) h' := SR_keeps S₁ fun b o hb => hx' b o (Nat.ne_of_lt (Heap.lt_size hb)) hb
  show wpAny C.M C.A (assignInOrder [fun w => PySem.assign (.Name x px) C.env w, fun w => PySem.assign (.Name y py) C.env w] [u₁, u₂]) _ NoE { s₁ with heap := h' }
  refine storesCons (assign_Name (storeLocal ok S₂ hx h₁ fun s₃ m₃ S₃ => storesCons (assign_Name (storeCell ok S₃ hy hkc hcy h₂ fun s₄ m₄ S₄ => storesNil ?_))))
  exact hQ τ _ _ (m₁.trans (Same.trans ⟨h', s₁.toks, rfl⟩ (m₃.trans m₄))) S₄ rfl⟩

/-- x, y, z, u = four -/
theorem ExecTo.tupCall4 (ok : fi.Ok) {x y z t : Str} {px py pz pt tp : Pos} {k : Nat} {e : Expr} {i j i' j' n : Nat} {v₁ v₂ v₃ v₄ : V} (hx : AtN fi.names i x) (hy : AtN fi.names j y) (hz : AtN fi.names i' z) (ht : AtN fi.names j' t) (h : EvalTo d fi e σ (.ref n) σ₁) (hk : σ₁.heap[n]? = some (.tup [v₁, v₂, v₃, v₄]))
    (hs : ∀ env, swapsWithSole [.Tuple [.Name x px, .Name y py, .Name z pz, .Name t pt] k tp] e pos.line env = pure false)
    (hw : ∀ env, swappedStores [.Tuple [.Name x px, .Name y py, .Name z pz, .Name t pt] k tp] e env = pure none) :
    ExecTo d fi (.Assign [.Tuple [.Name x px, .Name y py, .Name z pz, .Name t pt] k tp] e pos) σ .next ⟨(((σ₁.loc.set i v₁).set j v₂).set i' v₃).set j' v₄, σ₁.heap⟩ := ⟨fun C ρ s Q S hQ => by
  with_reducible refine Assign_Tuple ?_ (hs _) (hw _)
  refine h.run C ρ s _ S fun τ u s₁ m₁ S₁ hu => ?_
  obtain ⟨a, vs, n', ha, hg, hvs⟩ := SR_tup S₁ hk
  rw [ref_eq hu ha]
  obtain ⟨u₁, u₂, u₃, u₄, e0⟩ : ∃ u v w x, vs.toList = [u, v, w, x] := len4 hvs.length
  rw [e0] at hvs
  obtain ⟨h₁, h₂, h₃, h₄, _⟩ := hvs
  have e1 : vs = #[u₁, u₂, u₃, u₄] := by rw [← Array.toList_inj]; exact e0
  subst e1
  refine wpAny_assign_Tuple rfl ⟨_, hg, rfl, n', rfl⟩ rfl rfl fun h' hx' => ?_
  replace hx' : Heap.ExtBut s₁.heap.objs.size s₁.heap h' := hx'
  have S₂ : C.SR σ₁ (ρ ++ τ) h' := SR_keeps S₁ fun b o hb => hx' b o (Nat.ne_of_lt (Heap.lt_size hb)) hb
  show wpAny C.M C.A (assignInOrder [fun w => PySem.assign (.Name x px) C.env w, fun w => PySem.assign (.Name y py) C.env w, fun w => PySem.assign (.Name z pz) C.env w, fun w => PySem.assign (.Name t pt) C.env w] [u₁, u₂, u₃, u₄]) _ NoE { s₁ with heap := h' }
  refine storesCons (assign_Name (storeLocal ok S₂ hx h₁ fun s₃ m₃ S₃ => storesCons (assign_Name (storeLocal ok S₃ hy h₂ fun s₄ m₄ S₄ => storesCons (assign_Name (storeLocal ok S₄ hz h₃ fun s₅ m₅ S₅ => storesCons (assign_Name (storeLocal ok S₅ ht h₄ fun s₆ m₆ S₆ => storesNil ?_))))))))
  exact hQ τ _ _ (m₁.trans (Same.trans ⟨h', s₁.toks, rfl⟩ (m₃.trans (m₄.trans (m₅.trans m₆))))) S₆ rfl⟩
end
end Mine

namespace Mine
open PySem PySem.W PyProof.Rows PySem.Spec PySem.Calls
local macro_rules | `(tactic| k_memK) => `(tactic| (focus ((with_reducible repeat (first | exact AtN.here | apply AtN.there)); done)))
local macro_rules | `(tactic| k_allIn) => `(tactic| with_reducible first
  | exact BinTo.addN | exact BinTo.andN | exact BinTo.orN | exact BinTo.shrN
  | (refine BinTo.subN ?_; (first | assumption | omega)) | apply BinTo.mulN | apply BinTo.divN | apply BinTo.modN | apply BinTo.shlN | apply BinTo.powN
  | exact BinTo.add | exact BinTo.sub | apply BinTo.mul
  | exact CmpTo.eqN | exact CmpTo.neN | exact CmpTo.ltN | exact CmpTo.gtN | exact CmpTo.leN | exact CmpTo.geN
  | exact CmpTo.eq | exact CmpTo.ne | exact CmpTo.lt | exact CmpTo.gt | exact CmpTo.le | exact CmpTo.ge
  | exact AugTo.addN | exact AugTo.orN | exact AugTo.shrN | (refine AugTo.subN ?_; (first | assumption | omega)) | apply AugTo.modN | exact AugTo.add | exact AugTo.sub)
local macro_rules | `(tactic| kst_mem) => `(tactic| (focus ((with_reducible repeat (first | assumption | exact hp_new | apply hp_old)); done)))
local macro_rules | `(tactic| kst_all1) => `(tactic| repeat' (first
    | (with_reducible (first
      | exact EvalTo.kLit
      | exact EvalTo.kNone
      | (apply EvalTo.loc (by assumption); k_memK)
      | (apply EvalTo.cell (by assumption); k_memK; (focus kst_mem); (first | exact V.ne_val | exact V.ne_ref | exact V.ne_int))
      | (apply EvalTo.blt (by assumption); k_memK; k_memK)
      | (apply EvalTo.glo (by assumption); k_memK; k_memK)
      | (apply ExecTo.aug (by assumption); k_memK)
      | (apply ExecTo.assign (by assumption); k_memK)
      | (apply ExecTo.tup2 (by assumption); k_memK; k_memK)
      | (apply ExecTo.tup3 (by assumption); k_memK; k_memK; k_memK)
      | apply ExecTo.setItemN
      | apply ExecTo.appendN
      | apply EvalTo.replN
      | apply EvalTo.bin
      | apply EvalTo.neg
      | apply iterDown
      | apply iterRange2
      | apply iterRange1
      | apply EvalTo.cmp
      | apply TestTo.cmp
      | (apply EvalTo.lenN; (focus (apply EvalTo.blt (by assumption); k_memK; k_memK)))
      | (apply EvalTo.max2; (focus (apply EvalTo.blt (by assumption); k_memK; k_memK)))
      | (apply EvalTo.min2; (focus (apply EvalTo.blt (by assumption); k_memK; k_memK)))
      | (apply EvalTo.call (by assumption); (focus (first | (apply EvalTo.glo (by assumption); k_memK; k_memK) | (apply EvalTo.loc (by assumption); k_memK; (focus (with_unfolding_all exact rfl)); exact V.ne_val) | (apply EvalTo.cell (by assumption); k_memK; (focus kst_mem); exact V.ne_val))); (focus decide))
      | apply EvalTo.tuple
      | apply EvalTo.sliceToN
      | apply EvalTo.sliceRunN
      | apply EvalTo.sliceAllN
      | apply EvalTo.oneN
      | apply EvalTo.nilN
      | apply EvalTo.itemLastN (h2 := EvalTo.neg EvalTo.kLit)
      | apply EvalTo.itemN
      | exact EvalsTo.nil
      | apply EvalsTo.cons
      | k_allIn
      | kst_mem
      | exact V.ne_int | exact V.ne_ref | exact V.ne_none | exact V.ne_bool | exact V.ne_val))
    | exact fun _ => rfl
    | exact fun _ _ => rfl
    | exact St.eq rfl set_new
    | exact rfl))
local macro_rules | `(tactic| k_ownIn) => `(tactic| (first | assumption | omega | (refine dT ?_; omega) | (refine dF ?_; omega) | (refine dT ?_; assumption) | (refine dF ?_; assumption) | (simp only [List.length_map, List.length_append, List.length_cons, List.length_nil, List.length_replicate, List.length_set, List.length_take, List.length_drop] at *; omega)))
local macro_rules | `(tactic| ktr_rel) => `(tactic| ((first | apply ExecTo.as | apply EvalTo.as | apply TestTo.as) <;> (kst_all1 <;> k_ownIn)))
local macro_rules | `(tactic| tb_rel) => `(tactic| (apply ExecsTo.one; ktr_rel))


section
/-! F1 -/
open PySem PySem.W PyProof.Rows PySem.Spec PySem.Calls
set_option maxRecDepth 100000

noncomputable def bitP (ns : List Nat) (n w : Nat) : Nat := if n / w < ns.length then (ns.getD (n / w) 0 / 2 ^ (n % w)) &&& 1 else 0

theorem bit_spec {d k n w : Nat} {H : List O} {ns : List Nat} (hk : H[k]? = some (O.nats ns)) (hlen : ns.length ≤ 2 ^ 20) (hw : 0 < w) (hw2 : w < 2 ^ 20) (hn : n < 2 ^ 40) :
    CallTo (d + 1) (.val (.ref 107)) [.ref k, .nat n, .nat w] H (.nat (bitP ns n w)) H := by
  have ok := ok_bit
  apply CallTo.of_body (fi := fi_bit) ok lk_bit rfl (by decide) (loc' := [.ref k, .nat n, .nat w])
  show ExecsTo _ _ _ ⟨[.ref k, .nat n, .nat w], H⟩ _ _
  apply ExecsTo.ret
  by_cases h : n / w < ns.length
  · rw [bitP, if_pos h]
    apply EvalTo.iteT
    · ktr_rel
    · exact decide_eq_true h
    · ktr_rel
  · rw [bitP, if_neg h]
    apply EvalTo.iteF
    · ktr_rel
    · exact decide_eq_false h
    · ktr_rel

noncomputable def endP (ns : List Nat) : Nat → Nat
  | 0 => 0
  | e + 1 => if ns.getD e 0 = 0 then endP ns e else e + 1
noncomputable def normalP (ns : List Nat) : List Nat := ns.take (endP ns ns.length)
theorem endP_le (ns : List Nat) : ∀ e, endP ns e ≤ e
  | 0 => Nat.le_refl _
  | e + 1 => by
    unfold endP
    split
    · exact Nat.le_succ_of_le (endP_le ns e)
    · exact Nat.le_refl _


theorem normal_spec {d k : Nat} {H : List O} {ns : List Nat} (hk : H[k]? = some (O.nats ns)) (hlen : ns.length ≤ 2 ^ 20) : CallTo (d + 1) (.val (.ref 58)) [.ref k] H (.ref H.length) (H ++ [.nats (normalP ns)]) := by
  have ok := ok_normal
  apply CallTo.of_body (fi := fi_normal) ok lk_normal rfl (by decide) (loc' := [.ref k, .nat (endP ns ns.length)])
  show ExecsTo _ _ _ ⟨[.ref k, .undef], H⟩ _ _
  apply ExecsTo.cons (σ₁ := ⟨[.ref k, .nat ns.length], H⟩)
  · ktr_rel
  apply ExecsTo.cons (σ₁ := ⟨[.ref k, .nat (endP ns ns.length)], H⟩)
  · obtain ⟨L, hL⟩ : ∃ L, L = ns.length := ⟨_, rfl⟩
    have hle : ns.length ≤ L := by omega
    generalize ns.length = e at hle ⊢
    apply ExecTo.whileE
    induction e with
    | zero =>
      apply WRun.stopE
      apply TestTo.andF <;> ktr_rel
    | succ e ih =>
      unfold endP
      by_cases h0 : ns.getD e 0 = 0
      · rw [if_pos h0]
        apply WRun.stepN (σ₁ := ⟨[.ref k, .nat (e + 1)], H⟩) (σ₂ := ⟨[.ref k, .nat e], H⟩) _ _ (ih (by omega))
        · apply TestTo.andT
          · ktr_rel
          · exact dT (by omega)
          · ktr_rel
        · tb_rel
      · rw [if_neg h0]
        apply WRun.stopE
        apply TestTo.andT
        · ktr_rel
        · exact dT (by omega)
        · ktr_rel
  apply ExecsTo.ret
  have := endP_le ns ns.length
  ktr_rel
end

section
/-! F2 -/
open PySem PySem.W PyProof.Rows PySem.Spec PySem.Calls
set_option maxRecDepth 100000

noncomputable def evenP (ns : List Nat) : Bool := if ns.length = 0 then true else decide (ns.getD 0 0 &&& 1 = 0)
theorem is_even_spec {d k : Nat} {H : List O} {ns : List Nat} (hk : H[k]? = some (O.nats ns)) (hlen : ns.length ≤ 2 ^ 20) : CallTo (d + 1) (.val (.ref 65)) [.ref k] H (.bool (evenP ns)) H := by
  have ok := ok_is_even
  apply CallTo.of_body (fi := fi_is_even) ok lk_is_even rfl (by decide) (loc' := [.ref k])
  show ExecsTo _ _ _ ⟨[.ref k], H⟩ _ _
  apply ExecsTo.ret
  unfold evenP
  by_cases h : ns.length = 0
  · rw [if_pos h]
    apply EvalTo.orT
    · ktr_rel
    · exact dT h
  · rw [if_neg h]
    apply EvalTo.orF
    · ktr_rel
    · exact dF h
    · ktr_rel

noncomputable def bitsP (ns : List Nat) (w : Nat) : Nat := if 0 < ns.length then (ns.length - 1) * w + bitLen (ns.getD (ns.length - 1) 0) else 0
theorem bits_spec {d k w : Nat} {H : List O} {ns : List Nat} (hk : H[k]? = some (O.nats ns)) (hlen : ns.length ≤ 2 ^ 20) : CallTo (d + 1) (.val (.ref 100)) [.ref k, .nat w] H (.nat (bitsP ns w)) H := by
  have ok := ok_bits
  apply CallTo.of_body (fi := fi_bits) ok lk_bits rfl (by decide) (loc' := [.ref k, .nat w])
  show ExecsTo _ _ _ ⟨[.ref k, .nat w], H⟩ _ _
  apply ExecsTo.ret
  unfold bitsP
  by_cases h : 0 < ns.length
  · rw [if_pos h]
    apply EvalTo.iteT
    · ktr_rel
    · exact dT h
    · apply EvalTo.bin (op := .Add)
      · ktr_rel
      · apply EvalTo.bitLen
        · apply EvalTo.itemLastN <;> ktr_rel
        · exact fun _ => rfl
      · exact BinTo.addN
  · rw [if_neg h]
    apply EvalTo.iteF
    · ktr_rel
    · exact dF h
    · ktr_rel

noncomputable def cmpLoop (as bs : List Nat) : Nat → Int
  | 0 => 0
  | n + 1 => if as.getD n 0 ≠ bs.getD n 0 then (if as.getD n 0 < bs.getD n 0 then -1 else 1) else cmpLoop as bs n
noncomputable def cmpP (as bs : List Nat) : Int := if as.length ≠ bs.length then (if as.length < bs.length then -1 else 1) else cmpLoop as bs as.length

theorem compare_run {d ka kb : Nat} {H : List O} {as bs : List Nat} (ha : H[ka]? = some (O.nats as)) (hb : H[kb]? = some (O.nats bs)) (la : as.length ≤ 2 ^ 20) (lb : bs.length = as.length) : ∀ n, n ≤ as.length → ∀ v,
    (cmpLoop as bs n = 0 → ∃ v', RunR d fi_compare (bodyOf (stmtOf fi_compare.body 1)) 2 (upFrom ((n : Int) - 1) (-1) n) ⟨[.ref ka, .ref kb, v], H⟩ .next ⟨[.ref ka, .ref kb, v'], H⟩) ∧
    (cmpLoop as bs n ≠ 0 → ∃ v', RunR d fi_compare (bodyOf (stmtOf fi_compare.body 1)) 2 (upFrom ((n : Int) - 1) (-1) n) ⟨[.ref ka, .ref kb, v], H⟩ (.ret (.int (cmpLoop as bs n))) ⟨[.ref ka, .ref kb, v'], H⟩) := by
  have ok := ok_compare
  intro n
  induction n with
  | zero => exact fun _ v => ⟨fun _ => ⟨v, .nil⟩, fun h => absurd rfl h⟩
  | succ n ih =>
    intro hn v
    rw [up_down]
    unfold cmpLoop
    by_cases h : as.getD n 0 ≠ bs.getD n 0
    · rw [if_pos h]
      refine ⟨fun h0 => ?_, fun _ => ⟨.nat n, RunR.ret ?_⟩⟩
      · split at h0 <;> cases h0
      · apply ExecsTo.stopR
        apply ExecTo.ifT (σ₁ := ⟨[.ref ka, .ref kb, .nat n], H⟩)
        · ktr_rel
        · exact dT h
        · apply ExecsTo.ret
          by_cases hl : as.getD n 0 < bs.getD n 0
          · rw [if_pos hl]
            apply EvalTo.iteT
            · ktr_rel
            · exact dT hl
            · ktr_rel
          · rw [if_neg hl]
            apply EvalTo.iteF
            · ktr_rel
            · exact dF hl
            · ktr_rel
    · rw [if_neg h]
      have hstep : ExecsTo d fi_compare (bodyOf (stmtOf fi_compare.body 1)) ⟨[.ref ka, .ref kb, .nat n], H⟩ .next ⟨[.ref ka, .ref kb, .nat n], H⟩ := by
        apply ExecsTo.one
        apply ExecTo.ifF (σ₁ := ⟨[.ref ka, .ref kb, .nat n], H⟩)
        · ktr_rel
        · exact dF h
        · exact .nil
      obtain ⟨i1, i2⟩ := ih (by omega) (.nat n)
      refine ⟨fun h0 => ?_, fun h0 => ?_⟩
      · obtain ⟨v', r⟩ := i1 h0
        exact ⟨v', .step hstep trivial r⟩
      · obtain ⟨v', r⟩ := i2 h0
        exact ⟨v', .step hstep trivial r⟩

theorem compare_spec {d ka kb : Nat} {H : List O} {as bs : List Nat} (ha : H[ka]? = some (O.nats as)) (hb : H[kb]? = some (O.nats bs)) (la : as.length ≤ 2 ^ 20) (lb : bs.length ≤ 2 ^ 20) :
    CallTo (d + 1) (.val (.ref 72)) [.ref ka, .ref kb] H (.int (cmpP as bs)) H := by
  have ok := ok_compare
  have hx : ∃ v', ExecsTo d fi_compare fi_compare.body ⟨[.ref ka, .ref kb, .undef], H⟩ (.ret (.int (cmpP as bs))) ⟨[.ref ka, .ref kb, v'], H⟩ := by
    unfold cmpP
    by_cases hne : as.length ≠ bs.length
    · rw [if_pos hne]
      refine ⟨.undef, ?_⟩
      apply ExecsTo.stopR
      apply ExecTo.ifT (σ₁ := ⟨[.ref ka, .ref kb, .undef], H⟩)
      · ktr_rel
      · exact dT hne
      · apply ExecsTo.ret
        by_cases hl : as.length < bs.length
        · rw [if_pos hl]
          apply EvalTo.iteT
          · ktr_rel
          · exact dT hl
          · ktr_rel
        · rw [if_neg hl]
          apply EvalTo.iteF
          · ktr_rel
          · exact dF hl
          · ktr_rel
    · rw [if_neg hne]
      obtain ⟨r1, r2⟩ := compare_run (d := d) ha hb la (by omega) as.length (Nat.le_refl _) .undef
      have hfor : ∀ {g v'}, RunR d fi_compare (bodyOf (stmtOf fi_compare.body 1)) 2 (upFrom ((as.length : Int) - 1) (-1) as.length) ⟨[.ref ka, .ref kb, .undef], H⟩ g ⟨[.ref ka, .ref kb, v'], H⟩ →
          ExecTo d fi_compare (stmtOf fi_compare.body 1) ⟨[.ref ka, .ref kb, .undef], H⟩ g ⟨[.ref ka, .ref kb, v'], H⟩ := by
        intro g v' r
        refine ExecTo.forRE ok (i := 2) ?_ ?_ (fun _ _ => rfl) r
        · k_memK
        · kst_all1 <;> k_ownIn
      have hif : ExecTo d fi_compare (stmtOf fi_compare.body 0) ⟨[.ref ka, .ref kb, .undef], H⟩ .next ⟨[.ref ka, .ref kb, .undef], H⟩ := by
        apply ExecTo.ifF (σ₁ := ⟨[.ref ka, .ref kb, .undef], H⟩)
        · ktr_rel
        · exact dF hne
        · exact .nil
      by_cases h0 : cmpLoop as bs as.length = 0
      · obtain ⟨v', r⟩ := r1 h0
        refine ⟨v', ExecsTo.cons hif (ExecsTo.cons (hfor r) (ExecsTo.ret ?_))⟩
        rw [h0]
        ktr_rel
      · obtain ⟨v', r⟩ := r2 h0
        exact ⟨v', ExecsTo.cons hif (ExecsTo.stopR (hfor r))⟩
  obtain ⟨v', hx⟩ := hx
  exact CallTo.of_body (fi := fi_compare) ok lk_compare rfl (by decide) (loc' := [.ref ka, .ref kb, v']) hx
end

section
/-! F3 -/
open PySem PySem.W PyProof.Rows PySem.Spec PySem.Calls
set_option maxRecDepth 100000

noncomputable def dlLoop (as : List Nat) (limb w : Nat) : Nat → List Nat → Nat → List Nat × Nat
  | 0, f, r => (f, r)
  | n + 1, f, r => dlLoop as limb w n (f.set n ((r * 2 ^ w ||| as.getD n 0) / limb)) ((r * 2 ^ w ||| as.getD n 0) % limb)

theorem dlLoop_len (as : List Nat) (limb w : Nat) : ∀ n f r, (dlLoop as limb w n f r).1.length = f.length
  | 0, f, r => rfl
  | n + 1, f, r => by rw [dlLoop, dlLoop_len as limb w n]; simp

theorem divrem_limb_run {d k limb w : Nat} {H : List O} {as : List Nat} (hk : H[k]? = some (O.nats as)) (hlen : as.length ≤ 2 ^ 20) (hl : 0 < limb) (hl2 : limb < 2 ^ 60) (hw : w ≤ 1000000) : ∀ n, n ≤ as.length → ∀ f r v, f.length = as.length → r < 2 ^ 60 →
    ∃ v', RunR d fi_divrem_limb (bodyOf (stmtOf fi_divrem_limb.body 2)) 5 (upFrom ((n : Int) - 1) (-1) n) ⟨[.ref k, .nat limb, .nat w, .ref H.length, .nat r, v], H ++ [.nats f]⟩ .next
      ⟨[.ref k, .nat limb, .nat w, .ref H.length, .nat (dlLoop as limb w n f r).2, v'], H ++ [.nats (dlLoop as limb w n f r).1]⟩ := by
  have ok := ok_divrem_limb
  intro n
  induction n with
  | zero => exact fun _ f r v _ _ => ⟨v, .nil⟩
  | succ n ih =>
    intro hn f r v hf hr
    rw [up_down]
    have hmod : (r * 2 ^ w ||| as.getD n 0) % limb < 2 ^ 60 := Nat.lt_trans (Nat.mod_lt _ hl) hl2
    obtain ⟨v', run⟩ := ih (by omega) (f.set n ((r * 2 ^ w ||| as.getD n 0) / limb)) ((r * 2 ^ w ||| as.getD n 0) % limb) (.nat n) (by simpa using hf) hmod
    refine ⟨v', RunR.step (f := .next) ?_ trivial run⟩
    apply ExecsTo.cons (σ₁ := ⟨[.ref k, .nat limb, .nat w, .ref H.length, .nat (r * 2 ^ w ||| as.getD n 0), .nat n], H ++ [.nats f]⟩)
    · ktr_rel
    apply ExecsTo.cons (σ₁ := ⟨[.ref k, .nat limb, .nat w, .ref H.length, .nat (r * 2 ^ w ||| as.getD n 0), .nat n], H ++ [.nats (f.set n ((r * 2 ^ w ||| as.getD n 0) / limb))]⟩)
    · ktr_rel
    tb_rel

theorem divrem_limb_spec {d k limb w : Nat} {H : List O} {as : List Nat} (hk : H[k]? = some (O.nats as)) (hlen : as.length ≤ 2 ^ 20) (hl : 0 < limb) (hl2 : limb < 2 ^ 60) (hw : w ≤ 1000000) :
    CallTo (d + 2) (.val (.ref 79)) [.ref k, .nat limb, .nat w] H (.ref (H.length + 2))
      (H ++ [.nats (dlLoop as limb w as.length (List.replicate as.length 0) 0).1, .nats (normalP (dlLoop as limb w as.length (List.replicate as.length 0) 0).1), .tup [.ref (H.length + 1), .nat (dlLoop as limb w as.length (List.replicate as.length 0) 0).2]]) := by
  have ok := ok_divrem_limb
  obtain ⟨v', run⟩ := divrem_limb_run (d := d + 1) hk hlen hl hl2 hw as.length (Nat.le_refl _) (List.replicate as.length 0) 0 .undef (by simp) (by decide)
  have hfl : (dlLoop as limb w as.length (List.replicate as.length 0) 0).1.length = as.length := by rw [dlLoop_len]; simp
  generalize dlLoop as limb w as.length (List.replicate as.length 0) 0 = R at run hfl ⊢
  obtain ⟨f, r⟩ := R
  dsimp only at run hfl ⊢
  apply CallTo.of_body (fi := fi_divrem_limb) ok lk_divrem_limb rfl (by decide) (loc' := [.ref k, .nat limb, .nat w, .ref H.length, .nat r, v'])
  show ExecsTo _ _ _ ⟨[.ref k, .nat limb, .nat w, .undef, .undef, .undef], H⟩ _ _
  apply ExecsTo.cons (σ₁ := ⟨[.ref k, .nat limb, .nat w, .undef, .undef, .undef], H⟩)
  · apply ExecTo.ifF (σ₁ := ⟨[.ref k, .nat limb, .nat w, .undef, .undef, .undef], H⟩)
    · ktr_rel
    · exact dF (by omega)
    · exact .nil
  apply ExecsTo.cons (σ₁ := ⟨[.ref k, .nat limb, .nat w, .ref H.length, .nat 0, .undef], H ++ [.nats (List.replicate as.length 0)]⟩)
  · ktr_rel
  apply ExecsTo.cons
  · refine ExecTo.forRE ok (i := 5) ?_ ?_ (fun _ _ => rfl) run
    · k_memK
    · kst_all1 <;> k_ownIn
  apply ExecsTo.ret
  have hc := normal_spec (d := d) (k := H.length) (H := H ++ [.nats f]) (ns := f) hp_new (by omega)
  apply EvalTo.as
  · kst_all1 <;> k_ownIn
  · apply St.eq rfl
    simp
  · simp
end

section
/-! F4 -/
open PySem PySem.W PyProof.Rows PySem.Spec PySem.Calls
set_option maxRecDepth 100000

noncomputable def slLoop (as : List Nat) (few w : Nat) : Nat → Nat → List Nat → Nat → List Nat × Nat
  | 0, _, f, c => (f, c)
  | n + 1, pos, f, c => slLoop as few w n (pos + 1) (f ++ [(c ||| as.getD pos 0 * 2 ^ few) &&& (1 * 2 ^ w - 1)]) ((c ||| as.getD pos 0 * 2 ^ few) / 2 ^ w)

theorem shift_left_run {d k w sh few spots : Nat} {H : List O} {as : List Nat} (hk : H[k]? = some (O.nats as)) (hlen : as.length ≤ 2 ^ 10) (hall : ∀ i, as.getD i 0 < 2 ^ 64) (hw : w ≤ 1000000) (hfew : few ≤ 1000000) : ∀ n pos, pos + n = as.length → ∀ f c v, f.length + n ≤ 2 ^ 20 →
    ∃ v', RunL d fi_shift_left (bodyOf (stmtOf fi_shift_left.body 3)) 8 k n pos ⟨[.ref k, .nat sh, .nat w, .nat spots, .nat few, .ref H.length, .nat c, .nat (1 * 2 ^ w - 1), v], H ++ [.nats f]⟩ .next
      ⟨[.ref k, .nat sh, .nat w, .nat spots, .nat few, .ref H.length, .nat (slLoop as few w n pos f c).2, .nat (1 * 2 ^ w - 1), v'], H ++ [.nats (slLoop as few w n pos f c).1]⟩ := by
  have ok := ok_shift_left
  intro n
  induction n with
  | zero => exact fun pos hp f c v _ => ⟨v, .nil (hp_old hk) (by simp; omega)⟩
  | succ n ih =>
    intro pos hp f c v hf
    obtain ⟨v', run⟩ := ih (pos + 1) (by omega) (f ++ [(c ||| as.getD pos 0 * 2 ^ few) &&& (1 * 2 ^ w - 1)]) ((c ||| as.getD pos 0 * 2 ^ few) / 2 ^ w) (.nat (as.getD pos 0)) (by simp; omega)
    refine ⟨v', RunL.step (f := .next) (hp_old hk) (nats_get (by omega)) ?_ trivial run⟩
    have h1 := hall pos
    apply ExecsTo.cons (σ₁ := ⟨[.ref k, .nat sh, .nat w, .nat spots, .nat few, .ref H.length, .nat (c ||| as.getD pos 0 * 2 ^ few), .nat (1 * 2 ^ w - 1), .nat (as.getD pos 0)], H ++ [.nats f]⟩)
    · ktr_rel
    apply ExecsTo.cons (σ₁ := ⟨[.ref k, .nat sh, .nat w, .nat spots, .nat few, .ref H.length, .nat (c ||| as.getD pos 0 * 2 ^ few), .nat (1 * 2 ^ w - 1), .nat (as.getD pos 0)], H ++ [.nats (f ++ [(c ||| as.getD pos 0 * 2 ^ few) &&& (1 * 2 ^ w - 1)])]⟩)
    · ktr_rel
    tb_rel

theorem slLoop_len (as : List Nat) (few w : Nat) : ∀ n pos f c, (slLoop as few w n pos f c).1.length = f.length + n
  | 0, _, _, _ => rfl
  | n + 1, pos, f, c => by rw [slLoop, slLoop_len as few w n]; simp; omega

noncomputable def shlP (as : List Nat) (n w : Nat) : List Nat := if as.length = 0 then [] else
  if 0 < (slLoop as (n % w) w as.length 0 (List.replicate (n / w) 0) 0).2 then (slLoop as (n % w) w as.length 0 (List.replicate (n / w) 0) 0).1 ++ [(slLoop as (n % w) w as.length 0 (List.replicate (n / w) 0) 0).2]
  else (slLoop as (n % w) w as.length 0 (List.replicate (n / w) 0) 0).1

theorem shift_left_spec {d k n w : Nat} {H : List O} {as : List Nat} (hk : H[k]? = some (O.nats as)) (hlen : as.length ≤ 2 ^ 10) (hall : ∀ i, as.getD i 0 < 2 ^ 60) (hw : 0 < w) (hw2 : w ≤ 1000) (hn : n ≤ 2 ^ 10) :
    CallTo (d + 1) (.val (.ref 86)) [.ref k, .nat n, .nat w] H (.ref H.length) (H ++ [.nats (shlP as n w)]) := by
  have ok := ok_shift_left
  by_cases h0 : as.length = 0
  · rw [shlP, if_pos h0]
    apply CallTo.of_body (fi := fi_shift_left) ok lk_shift_left rfl (by decide) (loc' := [.ref k, .nat n, .nat w, .undef, .undef, .undef, .undef, .undef, .undef])
    show ExecsTo _ _ _ ⟨[.ref k, .nat n, .nat w, .undef, .undef, .undef, .undef, .undef, .undef], H⟩ _ _
    apply ExecsTo.stopR
    apply ExecTo.ifT
    · ktr_rel
    · exact dT h0
    · apply ExecsTo.ret
      ktr_rel
  · rw [shlP, if_neg h0]
    have hdiv : n / w ≤ n := Nat.div_le_self _ _
    have hmod : n % w < w := Nat.mod_lt _ hw
    obtain ⟨v', run⟩ := shift_left_run (d := d) (w := w) (sh := n) (few := n % w) (spots := n / w) hk hlen (fun i => Nat.lt_trans (hall i) (by decide)) (by omega) (by omega) as.length 0 (by omega) (List.replicate (n / w) 0) 0 .undef (by simp; omega)
    have hl := slLoop_len as (n % w) w as.length 0 (List.replicate (n / w) 0) 0
    rw [List.length_replicate] at hl
    generalize slLoop as (n % w) w as.length 0 (List.replicate (n / w) 0) 0 = R at run hl ⊢
    obtain ⟨f, c⟩ := R
    dsimp only at run hl ⊢
    apply CallTo.of_body (fi := fi_shift_left) ok lk_shift_left rfl (by decide) (loc' := [.ref k, .nat n, .nat w, .nat (n / w), .nat (n % w), .ref H.length, .nat c, .nat (1 * 2 ^ w - 1), v'])
    show ExecsTo _ _ _ ⟨[.ref k, .nat n, .nat w, .undef, .undef, .undef, .undef, .undef, .undef], H⟩ _ _
    apply ExecsTo.cons (σ₁ := ⟨[.ref k, .nat n, .nat w, .undef, .undef, .undef, .undef, .undef, .undef], H⟩)
    · apply ExecTo.ifF (σ₁ := ⟨[.ref k, .nat n, .nat w, .undef, .undef, .undef, .undef, .undef, .undef], H⟩)
      · ktr_rel
      · exact dF h0
      · exact .nil
    apply ExecsTo.cons (σ₁ := ⟨[.ref k, .nat n, .nat w, .nat (n / w), .nat (n % w), .undef, .undef, .undef, .undef], H⟩)
    · ktr_rel
    apply ExecsTo.cons (σ₁ := ⟨[.ref k, .nat n, .nat w, .nat (n / w), .nat (n % w), .ref H.length, .nat 0, .nat (1 * 2 ^ w - 1), .undef], H ++ [.nats (List.replicate (n / w) 0)]⟩)
    · have : 0 < 1 * 2 ^ w := by have := Nat.two_pow_pos w; omega
      ktr_rel
    apply ExecsTo.cons
    · refine ExecTo.forLE ok (i := 8) (xs := as.map V.nat) ?_ ?_ ?_ (fun _ _ => rfl) run
      · k_memK
      · kst_all1
      · exact hp_old hk
    by_cases hc : 0 < c
    · rw [if_pos hc]
      apply ExecsTo.cons (σ₁ := ⟨[.ref k, .nat n, .nat w, .nat (n / w), .nat (n % w), .ref H.length, .nat c, .nat (1 * 2 ^ w - 1), v'], H ++ [.nats (f ++ [c])]⟩)
      · apply ExecTo.ifT
        · ktr_rel
        · exact dT hc
        · tb_rel
      apply ExecsTo.ret
      ktr_rel
    · rw [if_neg hc]
      apply ExecsTo.cons (σ₁ := ⟨[.ref k, .nat n, .nat w, .nat (n / w), .nat (n % w), .ref H.length, .nat c, .nat (1 * 2 ^ w - 1), v'], H ++ [.nats f]⟩)
      · apply ExecTo.ifF
        · ktr_rel
        · exact dF hc
        · exact .nil
      apply ExecsTo.ret
      ktr_rel
end

section
/-! F5 -/
open PySem PySem.W PyProof.Rows PySem.Spec PySem.Calls
set_option maxRecDepth 100000

noncomputable abbrev srOne (as : List Nat) (few w pos : Nat) : Nat := (as.getD pos 0 / 2 ^ few ||| as.getD (pos + 1) 0 * 2 ^ (w - few)) &&& (1 * 2 ^ w - 1)
noncomputable def srLoop (as : List Nat) (few w : Nat) : Nat → Nat → List Nat → List Nat
  | 0, _, f => f
  | n + 1, pos, f => srLoop as few w n (pos + 1) (f ++ [srOne as few w pos])
theorem srLoop_len (as : List Nat) (few w : Nat) : ∀ n pos f, (srLoop as few w n pos f).length = f.length + n
  | 0, _, _ => rfl
  | n + 1, pos, f => by rw [srLoop, srLoop_len as few w n]; simp; omega
noncomputable def shrP (as : List Nat) (n w : Nat) : List Nat := srLoop as (n % w) w (as.length - n / w) (n / w) []

theorem shift_right_run {d k w sh few spots : Nat} {H : List O} {as : List Nat} (hk : H[k]? = some (O.nats as)) (hlen : as.length ≤ 2 ^ 10) (hall : ∀ i, as.getD i 0 < 2 ^ 60) (hw : w ≤ 1000) (hfew : few ≤ w) : ∀ n pos, (n = 0 ∨ pos + n = as.length) → ∀ f v v', f.length + n ≤ 2 ^ 20 →
    ∃ u u', RunR d fi_shift_right (bodyOf (stmtOf fi_shift_right.body 2)) 7 (upFrom (pos : Int) 1 n) ⟨[.ref k, .nat sh, .nat w, .nat spots, .nat few, .ref H.length, .nat (1 * 2 ^ w - 1), v, v'], H ++ [.nats f]⟩ .next
      ⟨[.ref k, .nat sh, .nat w, .nat spots, .nat few, .ref H.length, .nat (1 * 2 ^ w - 1), u, u'], H ++ [.nats (srLoop as few w n pos f)]⟩ := by
  have ok := ok_shift_right
  intro n
  induction n with
  | zero => exact fun pos hp f v v' _ => ⟨v, v', .nil⟩
  | succ n ih =>
    intro pos hp f v v' hf
    have hp : pos + (n + 1) = as.length := by omega
    rw [up_up]
    obtain ⟨u, u', run⟩ := ih (pos + 1) (by omega) (f ++ [srOne as few w pos]) (.nat pos) (.nat (as.getD (pos + 1) 0)) (by simp; omega)
    refine ⟨u, u', RunR.stepN ?_ run⟩
    have h1 := hall pos
    have h2 := hall (pos + 1)
    apply ExecsTo.cons (σ₁ := ⟨[.ref k, .nat sh, .nat w, .nat spots, .nat few, .ref H.length, .nat (1 * 2 ^ w - 1), .nat pos, .nat (as.getD (pos + 1) 0)], H ++ [.nats f]⟩)
    · refine ExecTo.as (ExecTo.assign ok (i := 8) (v := .nat (as.getD (pos + 1) 0)) (σ₁ := ⟨[.ref k, .nat sh, .nat w, .nat spots, .nat few, .ref H.length, .nat (1 * 2 ^ w - 1), .nat pos, v'], H ++ [.nats f]⟩) ?_ ?_ ?_) rfl
      · k_memK
      · by_cases hl : pos + 1 < as.length
        · apply EvalTo.iteT
          · ktr_rel
          · exact dT hl
          · ktr_rel
        · have : as.getD (pos + 1) 0 = 0 := by rw [List.getD_eq_getElem?_getD, List.getElem?_eq_none (by omega)]; rfl
          rw [this]
          apply EvalTo.iteF
          · ktr_rel
          · exact dF hl
          · ktr_rel
      · exact fun _ => rfl
    tb_rel

theorem shift_right_spec {d k n w : Nat} {H : List O} {as : List Nat} (hk : H[k]? = some (O.nats as)) (hlen : as.length ≤ 2 ^ 10) (hall : ∀ i, as.getD i 0 < 2 ^ 60) (hw : 0 < w) (hw2 : w ≤ 1000) (hn : n ≤ 2 ^ 20) :
    CallTo (d + 2) (.val (.ref 93)) [.ref k, .nat n, .nat w] H (.ref (H.length + 1)) (H ++ [.nats (shrP as n w), .nats (normalP (shrP as n w))]) := by
  have ok := ok_shift_right
  have hdiv : n / w ≤ n := Nat.div_le_self _ _
  have hmod : n % w < w := Nat.mod_lt _ hw
  have hsub : as.length - n / w ≤ as.length := Nat.sub_le _ _
  obtain ⟨u, u', run⟩ := shift_right_run (d := d + 1) (w := w) (sh := n) (few := n % w) (spots := n / w) hk hlen hall hw2 (by omega) (as.length - n / w) (n / w) (by omega) [] .undef .undef (by simp; omega)
  have hl := srLoop_len as (n % w) w (as.length - n / w) (n / w) []
  rw [List.length_nil] at hl
  unfold shrP
  generalize srLoop as (n % w) w (as.length - n / w) (n / w) [] = f at run hl ⊢
  apply CallTo.of_body (fi := fi_shift_right) ok lk_shift_right rfl (by decide) (loc' := [.ref k, .nat n, .nat w, .nat (n / w), .nat (n % w), .ref H.length, .nat (1 * 2 ^ w - 1), u, u'])
  show ExecsTo _ _ _ ⟨[.ref k, .nat n, .nat w, .undef, .undef, .undef, .undef, .undef, .undef], H⟩ _ _
  apply ExecsTo.cons (σ₁ := ⟨[.ref k, .nat n, .nat w, .nat (n / w), .nat (n % w), .undef, .undef, .undef, .undef], H⟩)
  · ktr_rel
  apply ExecsTo.cons (σ₁ := ⟨[.ref k, .nat n, .nat w, .nat (n / w), .nat (n % w), .ref H.length, .nat (1 * 2 ^ w - 1), .undef, .undef], H ++ [.nats []]⟩)
  · have : 0 < 1 * 2 ^ w := by have := Nat.two_pow_pos w; omega
    ktr_rel
  apply ExecsTo.cons
  · refine ExecTo.forRE ok (i := 7) ?_ ?_ (fun _ _ => rfl) run
    · k_memK
    · kst_all1 <;> k_ownIn
  apply ExecsTo.ret
  have hc := normal_spec (d := d) (k := H.length) (H := H ++ [.nats f]) (ns := f) hp_new (by omega)
  apply EvalTo.as
  · kst_all1 <;> k_ownIn
  · apply St.eq rfl
    simp
  · simp

/-! trailing -/
noncomputable def lowP (x : Nat) : Nat := (Builtin.bitAnd (x : Int) (-(x : Int))).toNat
theorem lowP_ok (x : Nat) (h : x < 256) : Builtin.bitAnd (x : Int) (-(x : Int)) = (lowP x : Int) := by
  have : ∀ x < 256, Builtin.bitAnd ((x : Nat) : Int) (-(x : Int)) = (lowP x : Int) := by decide +kernel
  exact this x h
noncomputable def trailP (as : List Nat) (w : Nat) : Nat → Nat → Nat
  | 0, _ => 0
  | n + 1, pos => if 0 < as.getD pos 0 then pos * w + bitLen (lowP (as.getD pos 0)) - 1 else trailP as w n (pos + 1)

theorem trailing_run {d k w : Nat} {H : List O} {as : List Nat} (hk : H[k]? = some (O.nats as)) (hlen : as.length ≤ 2 ^ 10) (hall : ∀ i, as.getD i 0 < 256) : ∀ n pos, pos + n = as.length → (∃ i, pos ≤ i ∧ 0 < as.getD i 0) → ∀ v v',
    ∃ u u', RunE d fi_trailing (bodyOf (stmtOf fi_trailing.body 0)) 2 3 k n pos ⟨[.ref k, .nat w, v, v'], H⟩ (.ret (.nat (trailP as w n pos))) ⟨[.ref k, .nat w, u, u'], H⟩ := by
  have ok := ok_trailing
  intro n
  induction n with
  | zero =>
    rintro pos hp ⟨i, h1, h2⟩
    rw [List.getD_eq_getElem?_getD, List.getElem?_eq_none (by omega)] at h2
    cases h2
  | succ n ih =>
    intro pos hp hx v v'
    unfold trailP
    by_cases h0 : 0 < as.getD pos 0
    · rw [if_pos h0]
      refine ⟨.nat pos, .nat (as.getD pos 0), RunE.ret hk (nats_get (by omega)) ?_⟩
      apply ExecsTo.stopR
      apply ExecTo.ifT (σ₁ := ⟨[.ref k, .nat w, .nat pos, .nat (as.getD pos 0)], H⟩)
      · ktr_rel
      · exact dT h0
      · apply ExecsTo.ret
        apply EvalTo.bin (op := .Sub)
        · apply EvalTo.bin (op := .Add)
          · ktr_rel
          · apply EvalTo.bitLen
            · apply EvalTo.bin (op := .BitAnd) (c := .nat (lowP (as.getD pos 0)))
              · ktr_rel
              · apply EvalTo.neg
                ktr_rel
              · rw [show V.nat (lowP (as.getD pos 0)) = V.int ((lowP (as.getD pos 0) : Nat) : Int) from rfl, ← lowP_ok _ (hall pos)]
                exact BinTo.and
            · exact fun _ => rfl
          · exact BinTo.addN
        · ktr_rel
        · refine BinTo.subN ?_
          have : 0 < bitLen (lowP (as.getD pos 0)) := by
            have : ∀ x < 256, 0 < x → 0 < bitLen (lowP x) := by decide +kernel
            exact this _ (hall pos) h0
          omega
    · rw [if_neg h0]
      obtain ⟨u, u', run⟩ := ih (pos + 1) (by omega) (by
        obtain ⟨i, h1, h2⟩ := hx
        refine ⟨i, ?_, h2⟩
        rcases Nat.lt_or_ge pos i with h | h
        · exact h
        · have : i = pos := by omega
          subst this
          exact absurd h2 h0) (.nat pos) (.nat (as.getD pos 0))
      refine ⟨u, u', RunE.stepN hk (nats_get (by omega)) ?_ run⟩
      apply ExecsTo.one
      apply ExecTo.ifF (σ₁ := ⟨[.ref k, .nat w, .nat pos, .nat (as.getD pos 0)], H⟩)
      · ktr_rel
      · exact dF h0
      · exact .nil

theorem trailing_spec {d k w : Nat} {H : List O} {as : List Nat} (hk : H[k]? = some (O.nats as)) (hlen : as.length ≤ 2 ^ 10) (hall : ∀ i, as.getD i 0 < 256) (hx : ∃ i, 0 < as.getD i 0) :
    CallTo (d + 1) (.val (.ref 114)) [.ref k, .nat w] H (.nat (trailP as w as.length 0)) H := by
  have ok := ok_trailing
  obtain ⟨u, u', run⟩ := trailing_run (d := d) (w := w) hk hlen hall as.length 0 (by omega) (by obtain ⟨i, h⟩ := hx; exact ⟨i, Nat.zero_le _, h⟩) .undef .undef
  apply CallTo.of_body (fi := fi_trailing) ok lk_trailing rfl (by decide) (loc' := [.ref k, .nat w, u, u'])
  show ExecsTo _ _ _ ⟨[.ref k, .nat w, .undef, .undef], H⟩ _ _
  apply ExecsTo.stopR
  refine ExecTo.forEE ok (i := 2) (j := 3) (xs := as.map V.nat) ?_ ?_ ?_ ?_ ?_ (fun _ => rfl) (fun _ _ => rfl) run
  · k_memK
  · k_memK
  · kst_all1
  · kst_all1
  · exact hk
end

section
/-! F6 -/
open PySem PySem.W PyProof.Rows PySem.Spec PySem.Calls
set_option maxRecDepth 100000

noncomputable def mulRow (bs : List Nat) (w limb at' : Nat) : Nat → Nat → List Nat → Nat → List Nat × Nat
  | 0, _, f, c => (f, c)
  | n + 1, pos, f, c => mulRow bs w limb at' n (pos + 1) (f.set (at' + pos) ((c + (f.getD (at' + pos) 0 + limb * bs.getD pos 0)) &&& (1 * 2 ^ w - 1))) ((c + (f.getD (at' + pos) 0 + limb * bs.getD pos 0)) / 2 ^ w)
theorem mulRow_len (bs : List Nat) (w limb at' : Nat) : ∀ n pos f c, (mulRow bs w limb at' n pos f c).1.length = f.length
  | 0, _, _, _ => rfl
  | n + 1, pos, f, c => by rw [mulRow, mulRow_len bs w limb at' n]; simp
noncomputable def mulRows (as bs : List Nat) (w : Nat) : Nat → Nat → List Nat → List Nat
  | 0, _, f => f
  | n + 1, pos, f => mulRows as bs w n (pos + 1) ((mulRow bs w (as.getD pos 0) pos bs.length 0 f 0).1.set (pos + bs.length) (mulRow bs w (as.getD pos 0) pos bs.length 0 f 0).2)
theorem mulRows_len (as bs : List Nat) (w : Nat) : ∀ n pos f, (mulRows as bs w n pos f).length = f.length
  | 0, _, _ => rfl
  | n + 1, pos, f => by rw [mulRows, mulRows_len as bs w n]; simp [mulRow_len]
noncomputable def mulP (as bs : List Nat) (w : Nat) : List Nat := mulRows as bs w as.length 0 (List.replicate (as.length + bs.length) 0)

theorem mul_row_run {d ka kb w at' limb : Nat} {H : List O} {bs : List Nat} (hb : H[kb]? = some (O.nats bs)) (lb : bs.length ≤ 2 ^ 10) (hat : at' ≤ 2 ^ 10) (hlimb : limb < 2 ^ 60) :
    ∀ n pos, pos + n = bs.length → ∀ f c v v', f.length ≤ 2 ^ 20 → at' + bs.length < f.length →
    ∃ u u', RunE d fi_mul_school (bodyOf (stmtOf (bodyOf (stmtOf fi_mul_school.body 1)) 1)) 8 9 kb n pos ⟨[.ref ka, .ref kb, .nat w, .ref H.length, .nat (1 * 2 ^ w - 1), .nat at', .nat limb, .nat c, v, v'], H ++ [.nats f]⟩ .next
      ⟨[.ref ka, .ref kb, .nat w, .ref H.length, .nat (1 * 2 ^ w - 1), .nat at', .nat limb, .nat (mulRow bs w limb at' n pos f c).2, u, u'], H ++ [.nats (mulRow bs w limb at' n pos f c).1]⟩ := by
  have ok := ok_mul_school
  intro n
  induction n with
  | zero => exact fun pos hp f c v v' _ _ => ⟨v, v', .nil (hp_old hb) (by simp; omega)⟩
  | succ n ih =>
    intro pos hp f c v v' hf hf2
    obtain ⟨u, u', run⟩ := ih (pos + 1) (by omega) (f.set (at' + pos) ((c + (f.getD (at' + pos) 0 + limb * bs.getD pos 0)) &&& (1 * 2 ^ w - 1))) ((c + (f.getD (at' + pos) 0 + limb * bs.getD pos 0)) / 2 ^ w) (.nat pos) (.nat (bs.getD pos 0)) (by simpa using hf) (by simpa using hf2)
    refine ⟨u, u', RunE.stepN (hp_old hb) (nats_get (by omega)) ?_ run⟩
    apply ExecsTo.cons (σ₁ := ⟨[.ref ka, .ref kb, .nat w, .ref H.length, .nat (1 * 2 ^ w - 1), .nat at', .nat limb, .nat (c + (f.getD (at' + pos) 0 + limb * bs.getD pos 0)), .nat pos, .nat (bs.getD pos 0)], H ++ [.nats f]⟩)
    · ktr_rel
    apply ExecsTo.cons (σ₁ := ⟨[.ref ka, .ref kb, .nat w, .ref H.length, .nat (1 * 2 ^ w - 1), .nat at', .nat limb, .nat (c + (f.getD (at' + pos) 0 + limb * bs.getD pos 0)), .nat pos, .nat (bs.getD pos 0)], H ++ [.nats (f.set (at' + pos) ((c + (f.getD (at' + pos) 0 + limb * bs.getD pos 0)) &&& (1 * 2 ^ w - 1)))]⟩)
    · ktr_rel
    tb_rel

theorem mul_rows_run {d ka kb w : Nat} {H : List O} {as bs : List Nat} (ha : H[ka]? = some (O.nats as)) (hb : H[kb]? = some (O.nats bs)) (la : as.length ≤ 2 ^ 10) (lb : bs.length ≤ 2 ^ 10) (hall : ∀ i, as.getD i 0 < 2 ^ 60) :
    ∀ n pos, pos + n = as.length → ∀ f v₁ v₂ v₃ v₄ v₅, f.length = as.length + bs.length →
    ∃ u₁ u₂ u₃ u₄ u₅, RunE d fi_mul_school (bodyOf (stmtOf fi_mul_school.body 1)) 5 6 ka n pos ⟨[.ref ka, .ref kb, .nat w, .ref H.length, .nat (1 * 2 ^ w - 1), v₁, v₂, v₃, v₄, v₅], H ++ [.nats f]⟩ .next
      ⟨[.ref ka, .ref kb, .nat w, .ref H.length, .nat (1 * 2 ^ w - 1), u₁, u₂, u₃, u₄, u₅], H ++ [.nats (mulRows as bs w n pos f)]⟩ := by
  have ok := ok_mul_school
  intro n
  induction n with
  | zero => exact fun pos hp f v₁ v₂ v₃ v₄ v₅ _ => ⟨v₁, v₂, v₃, v₄, v₅, .nil (hp_old ha) (by simp; omega)⟩
  | succ n ih =>
    intro pos hp f v₁ v₂ v₃ v₄ v₅ hf
    obtain ⟨u, u', row⟩ := mul_row_run (d := d) (ka := ka) (w := w) (at' := pos) (limb := as.getD pos 0) hb lb (by omega) (hall pos) bs.length 0 (by omega) f 0 v₄ v₅ (by omega) (by omega)
    have hfl := mulRow_len bs w (as.getD pos 0) pos bs.length 0 f 0
    unfold mulRows
    generalize mulRow bs w (as.getD pos 0) pos bs.length 0 f 0 = R at row hfl ⊢
    obtain ⟨g, c⟩ := R
    dsimp only at row hfl ⊢
    obtain ⟨u₁, u₂, u₃, u₄, u₅, run⟩ := ih (pos + 1) (by omega) (g.set (pos + bs.length) c) (.nat pos) (.nat (as.getD pos 0)) (.nat c) u u' (by simp; omega)
    refine ⟨u₁, u₂, u₃, u₄, u₅, RunE.stepN (hp_old ha) (nats_get (by omega)) ?_ run⟩
    apply ExecsTo.cons (σ₁ := ⟨[.ref ka, .ref kb, .nat w, .ref H.length, .nat (1 * 2 ^ w - 1), .nat pos, .nat (as.getD pos 0), .nat 0, v₄, v₅], H ++ [.nats f]⟩)
    · ktr_rel
    apply ExecsTo.cons
    · refine ExecTo.forEE ok (i := 8) (j := 9) (xs := bs.map V.nat) ?_ ?_ ?_ ?_ (hp_old hb) (fun _ => rfl) (fun _ _ => rfl) row
      · k_memK
      · k_memK
      · kst_all1
      · kst_all1
    tb_rel

theorem mul_school_spec {d ka kb w : Nat} {H : List O} {as bs : List Nat} (ha : H[ka]? = some (O.nats as)) (hb : H[kb]? = some (O.nats bs)) (la : as.length ≤ 2 ^ 10) (lb : bs.length ≤ 2 ^ 10) (hall : ∀ i, as.getD i 0 < 2 ^ 60) (hw : w ≤ 1000) :
    CallTo (d + 2) (.val (.ref 189)) [.ref ka, .ref kb, .nat w] H (.ref (H.length + 1)) (H ++ [.nats (mulP as bs w), .nats (normalP (mulP as bs w))]) := by
  have ok := ok_mul_school
  obtain ⟨u₁, u₂, u₃, u₄, u₅, run⟩ := mul_rows_run (d := d + 1) (w := w) ha hb la lb hall as.length 0 (by omega) (List.replicate (as.length + bs.length) 0) .undef .undef .undef .undef .undef (by simp)
  have hl := mulRows_len as bs w as.length 0 (List.replicate (as.length + bs.length) 0)
  rw [List.length_replicate] at hl
  unfold mulP
  generalize mulRows as bs w as.length 0 (List.replicate (as.length + bs.length) 0) = f at run hl ⊢
  apply CallTo.of_body (fi := fi_mul_school) ok lk_mul_school rfl (by decide) (loc' := [.ref ka, .ref kb, .nat w, .ref H.length, .nat (1 * 2 ^ w - 1), u₁, u₂, u₃, u₄, u₅])
  show ExecsTo _ _ _ ⟨[.ref ka, .ref kb, .nat w, .undef, .undef, .undef, .undef, .undef, .undef, .undef], H⟩ _ _
  apply ExecsTo.cons (σ₁ := ⟨[.ref ka, .ref kb, .nat w, .ref H.length, .nat (1 * 2 ^ w - 1), .undef, .undef, .undef, .undef, .undef], H ++ [.nats (List.replicate (as.length + bs.length) 0)]⟩)
  · have : 0 < 1 * 2 ^ w := by have := Nat.two_pow_pos w; omega
    ktr_rel
  apply ExecsTo.cons
  · refine ExecTo.forEE ok (i := 5) (j := 6) (xs := as.map V.nat) ?_ ?_ ?_ ?_ (hp_old ha) (fun _ => rfl) (fun _ _ => rfl) run
    · k_memK
    · k_memK
    · kst_all1
    · kst_all1
  apply ExecsTo.ret
  have hc := normal_spec (d := d) (k := H.length) (H := H ++ [.nats f]) (ns := f) hp_new (by omega)
  apply EvalTo.as
  · kst_all1 <;> k_ownIn
  · apply St.eq rfl
    simp
  · simp
end

section
/-! F7 -/
open PySem PySem.W PyProof.Rows PySem.Spec PySem.Calls
set_option maxRecDepth 100000

theorem set_same {H : List O} {k : Nat} {o : O} (h : H[k]? = some o) : H.set k o = H := by
  apply List.ext_getElem?
  intro j
  rw [List.getElem?_set]
  split
  · rename_i e
    subst e
    split
    · exact h.symm
    · rename_i h2
      rw [List.getElem?_eq_none (by omega)] at h; cases h
  · rfl

/-! put_back -/
noncomputable def putRow (bs : List Nat) (w at' : Nat) : Nat → Nat → List Nat → Nat → List Nat × Nat
  | 0, _, f, c => (f, c)
  | n + 1, pos, f, c => putRow bs w at' n (pos + 1) (f.set (at' + pos) ((c + (f.getD (at' + pos) 0 + bs.getD pos 0)) &&& (1 * 2 ^ w - 1))) ((c + (f.getD (at' + pos) 0 + bs.getD pos 0)) / 2 ^ w)
theorem putRow_len (bs : List Nat) (w at' : Nat) : ∀ n pos f c, (putRow bs w at' n pos f c).1.length = f.length
  | 0, _, _, _ => rfl
  | n + 1, pos, f, c => by rw [putRow, putRow_len bs w at' n]; simp
noncomputable def putP (r bs : List Nat) (at' w : Nat) : List Nat :=
  (putRow bs w at' bs.length 0 r 0).1.set (at' + bs.length) (((putRow bs w at' bs.length 0 r 0).1.getD (at' + bs.length) 0 + (putRow bs w at' bs.length 0 r 0).2) &&& (1 * 2 ^ w - 1))

theorem put_row_run {d kr kb w at' : Nat} {bs : List Nat} (lb : bs.length ≤ 2 ^ 10) (hne : kb ≠ kr) :
    ∀ n pos, pos + n = bs.length → ∀ (H : List O) f c v v', H[kb]? = some (O.nats bs) → H[kr]? = some (O.nats f) → f.length ≤ 2 ^ 20 → at' + bs.length < f.length →
    ∃ u u', RunE d fi_put_back (bodyOf (stmtOf fi_put_back.body 1)) 6 7 kb n pos ⟨[.ref kr, .ref kb, .nat at', .nat w, .nat c, .nat (1 * 2 ^ w - 1), v, v'], H⟩ .next
      ⟨[.ref kr, .ref kb, .nat at', .nat w, .nat (putRow bs w at' n pos f c).2, .nat (1 * 2 ^ w - 1), u, u'], H.set kr (.nats (putRow bs w at' n pos f c).1)⟩ := by
  have ok := ok_put_back
  intro n
  induction n with
  | zero =>
    intro pos hp H f c v v' hb hr _ _
    rw [putRow, set_same hr]
    exact ⟨v, v', .nil hb (by simp; omega)⟩
  | succ n ih =>
    intro pos hp H f c v v' hb hr hf hf2
    obtain ⟨u, u', run⟩ := ih (pos + 1) (by omega) (H.set kr (.nats (f.set (at' + pos) ((c + (f.getD (at' + pos) 0 + bs.getD pos 0)) &&& (1 * 2 ^ w - 1))))) (f.set (at' + pos) ((c + (f.getD (at' + pos) 0 + bs.getD pos 0)) &&& (1 * 2 ^ w - 1))) ((c + (f.getD (at' + pos) 0 + bs.getD pos 0)) / 2 ^ w) (.nat pos) (.nat (bs.getD pos 0)) (hp_off hb hne.symm) (hp_set hr) (by simpa using hf) (by simpa using hf2)
    rw [List.set_set] at run
    refine ⟨u, u', RunE.stepN hb (nats_get (by omega)) ?_ run⟩
    apply ExecsTo.cons (σ₁ := ⟨[.ref kr, .ref kb, .nat at', .nat w, .nat (c + (f.getD (at' + pos) 0 + bs.getD pos 0)), .nat (1 * 2 ^ w - 1), .nat pos, .nat (bs.getD pos 0)], H⟩)
    · ktr_rel
    apply ExecsTo.cons (σ₁ := ⟨[.ref kr, .ref kb, .nat at', .nat w, .nat (c + (f.getD (at' + pos) 0 + bs.getD pos 0)), .nat (1 * 2 ^ w - 1), .nat pos, .nat (bs.getD pos 0)], H.set kr (.nats (f.set (at' + pos) ((c + (f.getD (at' + pos) 0 + bs.getD pos 0)) &&& (1 * 2 ^ w - 1))))⟩)
    · ktr_rel
    tb_rel

theorem put_back_spec {d kr kb w at' : Nat} {H : List O} {r bs : List Nat} (hr : H[kr]? = some (O.nats r)) (hb : H[kb]? = some (O.nats bs)) (hne : kb ≠ kr) (lb : bs.length ≤ 2 ^ 10) (lr : r.length ≤ 2 ^ 20) (hat : at' + bs.length < r.length) (hw : w ≤ 1000) :
    CallTo (d + 1) (.val (.ref 217)) [.ref kr, .ref kb, .nat at', .nat w] H .none (H.set kr (.nats (putP r bs at' w))) := by
  have ok := ok_put_back
  obtain ⟨u, u', run⟩ := put_row_run (d := d) (w := w) (at' := at') lb hne bs.length 0 (by omega) H r 0 .undef .undef hb hr lr hat
  have hl := putRow_len bs w at' bs.length 0 r 0
  unfold putP
  generalize putRow bs w at' bs.length 0 r 0 = R at run hl ⊢
  obtain ⟨f, c⟩ := R
  dsimp only at run hl ⊢
  apply CallTo.of_bodyN (fi := fi_put_back) ok lk_put_back rfl (by decide) (loc' := [.ref kr, .ref kb, .nat at', .nat w, .nat c, .nat (1 * 2 ^ w - 1), u, u'])
  show ExecsTo _ _ _ ⟨[.ref kr, .ref kb, .nat at', .nat w, .undef, .undef, .undef, .undef], H⟩ _ _
  apply ExecsTo.cons (σ₁ := ⟨[.ref kr, .ref kb, .nat at', .nat w, .nat 0, .nat (1 * 2 ^ w - 1), .undef, .undef], H⟩)
  · have : 0 < 1 * 2 ^ w := by have := Nat.two_pow_pos w; omega
    ktr_rel
  apply ExecsTo.cons
  · refine ExecTo.forEE ok (i := 6) (j := 7) (xs := bs.map V.nat) ?_ ?_ ?_ ?_ hb (fun _ => rfl) (fun _ _ => rfl) run
    · k_memK
    · k_memK
    · kst_all1
    · kst_all1
  have hb' : (H.set kr (.nats f))[kb]? = some (O.nats bs) := hp_off hb hne.symm
  have hr' : (H.set kr (.nats f))[kr]? = some (O.nats f) := hp_set hr
  apply ExecsTo.one
  apply ExecTo.as
  · kst_all1 <;> k_ownIn
  · exact St.eq rfl (List.set_set ..)

/-! take_away -/
noncomputable abbrev tkP (c limb o w : Nat) : Nat := limb * o + c
noncomputable abbrev tkV (r t w : Nat) : Nat := if r < t % (1 * 2 ^ w) then r + 1 * 2 ^ w - t % (1 * 2 ^ w) else r - t % (1 * 2 ^ w)
noncomputable abbrev tkC (r t w : Nat) : Nat := t / (1 * 2 ^ w) + (if r < t % (1 * 2 ^ w) then 1 else 0)
noncomputable def tkRow (bs : List Nat) (w limb at' : Nat) : Nat → Nat → List Nat → Nat → List Nat × Nat
  | 0, _, f, c => (f, c)
  | n + 1, pos, f, c => tkRow bs w limb at' n (pos + 1) (f.set (at' + pos) (tkV (f.getD (at' + pos) 0) (limb * bs.getD pos 0 + c) w)) (tkC (f.getD (at' + pos) 0) (limb * bs.getD pos 0 + c) w)
theorem tkRow_len (bs : List Nat) (w limb at' : Nat) : ∀ n pos f c, (tkRow bs w limb at' n pos f c).1.length = f.length
  | 0, _, _, _ => rfl
  | n + 1, pos, f, c => by rw [tkRow, tkRow_len bs w limb at' n]; simp
noncomputable def takeP (r bs : List Nat) (limb at' w : Nat) : List Nat × Nat :=
  let R := tkRow bs w limb at' bs.length 0 r 0
  let x := R.1.getD (at' + bs.length) 0
  (R.1.set (at' + bs.length) (if x < R.2 then x + 1 * 2 ^ w - R.2 else x - R.2), if x < R.2 then 1 else 0)

theorem take_row_run {d kr kb w limb at' : Nat} {bs : List Nat} (lb : bs.length ≤ 2 ^ 10) (hne : kb ≠ kr) (hw : w ≤ 32) (hlimb : limb < 2 ^ 60) :
    ∀ n pos, pos + n = bs.length → ∀ (H : List O) f c v v' v'', H[kb]? = some (O.nats bs) → H[kr]? = some (O.nats f) → f.length ≤ 2 ^ 20 → at' + bs.length < f.length →
    ∃ u u' u'', RunE d fi_take_away (bodyOf (stmtOf fi_take_away.body 1)) 7 8 kb n pos ⟨[.ref kr, .ref kb, .nat limb, .nat at', .nat w, .nat c, .nat (1 * 2 ^ w), v, v', v''], H⟩ .next
      ⟨[.ref kr, .ref kb, .nat limb, .nat at', .nat w, .nat (tkRow bs w limb at' n pos f c).2, .nat (1 * 2 ^ w), u, u', u''], H.set kr (.nats (tkRow bs w limb at' n pos f c).1)⟩ := by
  have ok := ok_take_away
  have hB : 1 * 2 ^ w < 2 ^ 60 := by
    have : 2 ^ w ≤ 2 ^ 32 := Nat.pow_le_pow_right (by decide) hw
    omega
  have hB0 : 0 < 1 * 2 ^ w := by have := Nat.two_pow_pos w; omega
  intro n
  induction n with
  | zero =>
    intro pos hp H f c v v' v'' hb hr _ _
    rw [tkRow, set_same hr]
    exact ⟨v, v', v'', .nil hb (by simp; omega)⟩
  | succ n ih =>
    intro pos hp H f c v v' v'' hb hr hf hf2
    unfold tkRow
    have hm : (limb * bs.getD pos 0 + c) % (1 * 2 ^ w) < 1 * 2 ^ w := Nat.mod_lt _ hB0
    obtain ⟨u, u', u'', run⟩ := ih (pos + 1) (by omega) (H.set kr (.nats (f.set (at' + pos) (tkV (f.getD (at' + pos) 0) (limb * bs.getD pos 0 + c) w)))) (f.set (at' + pos) (tkV (f.getD (at' + pos) 0) (limb * bs.getD pos 0 + c) w)) (tkC (f.getD (at' + pos) 0) (limb * bs.getD pos 0 + c) w) (.nat pos) (.nat (bs.getD pos 0)) (.int ((f.getD (at' + pos) 0 : Nat) - ((limb * bs.getD pos 0 + c) % (1 * 2 ^ w) : Nat) : Int)) (hp_off hb hne.symm) (hp_set hr) (by simpa using hf) (by simpa using hf2)
    rw [List.set_set] at run
    refine ⟨u, u', u'', RunE.stepN hb (nats_get (by omega)) ?_ run⟩
    apply ExecsTo.cons (σ₁ := ⟨[.ref kr, .ref kb, .nat limb, .nat at', .nat w, .nat c, .nat (1 * 2 ^ w), .nat pos, .nat (bs.getD pos 0), .int ((f.getD (at' + pos) 0 : Nat) - ((limb * bs.getD pos 0 + c) % (1 * 2 ^ w) : Nat) : Int)], H⟩)
    · refine ExecTo.assignP ok 9 (v := .int ((f.getD (at' + pos) 0 : Nat) - ((limb * bs.getD pos 0 + c) % (1 * 2 ^ w) : Nat) : Int)) ?_ ?_ ?_ rfl
      · k_memK
      · apply EvalTo.bin (op := .Sub) (a := .nat (f.getD (at' + pos) 0)) (b := .nat ((limb * bs.getD pos 0 + c) % (1 * 2 ^ w)))
        · ktr_rel
        · ktr_rel
        · exact BinTo.sub
      · exact fun _ => rfl
    apply ExecsTo.cons (σ₁ := ⟨[.ref kr, .ref kb, .nat limb, .nat at', .nat w, .nat (tkC (f.getD (at' + pos) 0) (limb * bs.getD pos 0 + c) w), .nat (1 * 2 ^ w), .nat pos, .nat (bs.getD pos 0), .int ((f.getD (at' + pos) 0 : Nat) - ((limb * bs.getD pos 0 + c) % (1 * 2 ^ w) : Nat) : Int)], H⟩)
    · refine ExecTo.assignP ok 5 (v := .nat (tkC (f.getD (at' + pos) 0) (limb * bs.getD pos 0 + c) w)) ?_ ?_ ?_ rfl
      · k_memK
      · apply EvalTo.bin (op := .Add) (a := .nat ((limb * bs.getD pos 0 + c) / (1 * 2 ^ w))) (b := .nat (if f.getD (at' + pos) 0 < (limb * bs.getD pos 0 + c) % (1 * 2 ^ w) then 1 else 0))
        · ktr_rel
        · by_cases hlt : f.getD (at' + pos) 0 < (limb * bs.getD pos 0 + c) % (1 * 2 ^ w)
          · rw [if_pos hlt]
            apply EvalTo.iteT
            · ktr_rel
            · exact dT (by omega)
            · ktr_rel
          · rw [if_neg hlt]
            apply EvalTo.iteF
            · ktr_rel
            · exact dF (by omega)
            · ktr_rel
        · exact BinTo.addN
      · exact fun _ => rfl
    apply ExecsTo.one
    refine ExecTo.setItemP (v := tkV (f.getD (at' + pos) 0) (limb * bs.getD pos 0 + c) w) (k := kr) (i := at' + pos) (xs := f) ?_ ?_ ?_ hr (fun _ => rfl) (by omega) (by omega) rfl
    · by_cases hlt : f.getD (at' + pos) 0 < (limb * bs.getD pos 0 + c) % (1 * 2 ^ w)
      · apply EvalTo.iteT
        · ktr_rel
        · exact dT (by omega)
        · apply EvalTo.as
          · apply EvalTo.bin (op := .Add)
            · kst_all1
            · kst_all1
            · exact BinTo.add
          · rfl
          · rw [tkV, if_pos hlt]
            apply congrArg V.int
            omega
      · apply EvalTo.iteF
        · ktr_rel
        · exact dF (by omega)
        · apply EvalTo.as
          · kst_all1
          · rfl
          · rw [tkV, if_neg hlt]
            apply congrArg V.int
            omega
    · ktr_rel
    · ktr_rel

theorem take_away_spec {d kr kb w limb at' : Nat} {H : List O} {r bs : List Nat} (hr : H[kr]? = some (O.nats r)) (hb : H[kb]? = some (O.nats bs)) (hne : kb ≠ kr) (lb : bs.length ≤ 2 ^ 10) (lr : r.length ≤ 2 ^ 20) (hat : at' + bs.length < r.length) (hw : w ≤ 32) (hlimb : limb < 2 ^ 60)
    (hc : (tkRow bs w limb at' bs.length 0 r 0).2 ≤ 1 * 2 ^ w) :
    CallTo (d + 1) (.val (.ref 210)) [.ref kr, .ref kb, .nat limb, .nat at', .nat w] H (.nat (takeP r bs limb at' w).2) (H.set kr (.nats (takeP r bs limb at' w).1)) := by
  have ok := ok_take_away
  obtain ⟨u, u', u'', run⟩ := take_row_run (d := d) (w := w) (limb := limb) (at' := at') lb hne hw hlimb bs.length 0 (by omega) H r 0 .undef .undef .undef hb hr lr hat
  have hl := tkRow_len bs w limb at' bs.length 0 r 0
  unfold takeP
  generalize tkRow bs w limb at' bs.length 0 r 0 = R at run hl hc ⊢
  obtain ⟨f, c⟩ := R
  dsimp only at run hl hc ⊢
  have hb' : (H.set kr (.nats f))[kb]? = some (O.nats bs) := hp_off hb hne.symm
  have hr' : (H.set kr (.nats f))[kr]? = some (O.nats f) := hp_set hr
  apply CallTo.of_body (fi := fi_take_away) ok lk_take_away rfl (by decide) (loc' := [.ref kr, .ref kb, .nat limb, .nat at', .nat w, .nat c, .nat (1 * 2 ^ w), u, u', .int ((f.getD (at' + bs.length) 0 : Nat) - (c : Nat) : Int)])
  show ExecsTo _ _ _ ⟨[.ref kr, .ref kb, .nat limb, .nat at', .nat w, .undef, .undef, .undef, .undef, .undef], H⟩ _ _
  apply ExecsTo.cons (σ₁ := ⟨[.ref kr, .ref kb, .nat limb, .nat at', .nat w, .nat 0, .nat (1 * 2 ^ w), .undef, .undef, .undef], H⟩)
  · ktr_rel
  apply ExecsTo.cons
  · refine ExecTo.forEE ok (i := 7) (j := 8) (xs := bs.map V.nat) ?_ ?_ ?_ ?_ hb (fun _ => rfl) (fun _ _ => rfl) run
    · k_memK
    · k_memK
    · kst_all1
    · kst_all1
  apply ExecsTo.cons (σ₁ := ⟨[.ref kr, .ref kb, .nat limb, .nat at', .nat w, .nat c, .nat (1 * 2 ^ w), u, u', .int ((f.getD (at' + bs.length) 0 : Nat) - (c : Nat) : Int)], H.set kr (.nats f)⟩)
  · refine ExecTo.assignP ok 9 (v := .int ((f.getD (at' + bs.length) 0 : Nat) - (c : Nat) : Int)) ?_ ?_ ?_ rfl
    · k_memK
    · apply EvalTo.bin (op := .Sub) (a := .nat (f.getD (at' + bs.length) 0)) (b := .nat c)
      · ktr_rel
      · ktr_rel
      · exact BinTo.sub
    · exact fun _ => rfl
  apply ExecsTo.cons (σ₁ := ⟨[.ref kr, .ref kb, .nat limb, .nat at', .nat w, .nat c, .nat (1 * 2 ^ w), u, u', .int ((f.getD (at' + bs.length) 0 : Nat) - (c : Nat) : Int)], H.set kr (.nats (f.set (at' + bs.length) (if f.getD (at' + bs.length) 0 < c then f.getD (at' + bs.length) 0 + 1 * 2 ^ w - c else f.getD (at' + bs.length) 0 - c)))⟩)
  · refine ExecTo.setItemP (v := if f.getD (at' + bs.length) 0 < c then f.getD (at' + bs.length) 0 + 1 * 2 ^ w - c else f.getD (at' + bs.length) 0 - c) (k := kr) (i := at' + bs.length) (xs := f) ?_ ?_ ?_ hr' (fun _ => rfl) (by omega) (by omega) (St.eq rfl (List.set_set ..))
    · by_cases hlt : f.getD (at' + bs.length) 0 < c
      · rw [if_pos hlt]
        apply EvalTo.iteT
        · ktr_rel
        · exact dT (by omega)
        · apply EvalTo.as
          · apply EvalTo.bin (op := .Add)
            · kst_all1
            · kst_all1
            · exact BinTo.add
          · rfl
          · apply congrArg V.int
            omega
      · rw [if_neg hlt]
        apply EvalTo.iteF
        · ktr_rel
        · exact dF (by omega)
        · apply EvalTo.as
          · kst_all1
          · rfl
          · apply congrArg V.int
            omega
    · ktr_rel
    · ktr_rel
  apply ExecsTo.ret
  by_cases hlt : f.getD (at' + bs.length) 0 < c
  · rw [if_pos hlt, if_pos hlt]
    apply EvalTo.iteT
    · ktr_rel
    · exact dT (by omega)
    · ktr_rel
  · rw [if_neg hlt, if_neg hlt]
    apply EvalTo.iteF
    · ktr_rel
    · exact dF (by omega)
    · ktr_rel
end

section
/-! F8 -/
open PySem PySem.W PyProof.Rows PySem.Spec PySem.Calls
set_option maxRecDepth 100000

noncomputable def glLoop (base t0 first second w : Nat) : Nat → Nat → Nat
  | 0, _ => 0
  | l + 1, rest => if rest < base ∧ (rest * 2 ^ w ||| t0) < (l + 1) * second then glLoop base t0 first second w l (rest + first) else l + 1
noncomputable abbrev glHigh (t : List Nat) (w : Nat) : Nat := t.getD 2 0 * 2 ^ w ||| t.getD 1 0
noncomputable abbrev glLimb (t : List Nat) (first w : Nat) : Nat := min (glHigh t w / first) (1 * 2 ^ w - 1)
noncomputable def guessP (t : List Nat) (first second w : Nat) : Nat := glLoop (1 * 2 ^ w) (t.getD 0 0) first second w (glLimb t first w) (glHigh t w - glLimb t first w * first)

theorem guess_run {d kt w first second : Nat} {H : List O} {t : List Nat} {high : Nat} (ht : H[kt]? = some (O.nats t)) (lt : t.length = 3) (hw : w ≤ 32) : ∀ l rest, l < 2 ^ 60 →
    ∃ rest', ∃ n, WRun d fi_guessed_limb (testOf (stmtOf fi_guessed_limb.body 3)) (bodyOf (stmtOf fi_guessed_limb.body 3)) n ⟨[.ref kt, .nat first, .nat second, .nat w, .nat high, .nat (1 * 2 ^ w), .nat l, .nat rest], H⟩ .next
      ⟨[.ref kt, .nat first, .nat second, .nat w, .nat high, .nat (1 * 2 ^ w), .nat (glLoop (1 * 2 ^ w) (t.getD 0 0) first second w l rest), .nat rest'], H⟩ := by
  have ok := ok_guessed_limb
  have hB : 1 * 2 ^ w < 2 ^ 60 := by
    have : 2 ^ w ≤ 2 ^ 32 := Nat.pow_le_pow_right (by decide) hw
    omega
  intro l
  induction l with
  | zero =>
    intro rest _
    rw [glLoop]
    refine ⟨rest, ?_⟩
    apply WRun.stopE
    by_cases h : rest < 1 * 2 ^ w
    · apply TestTo.andT
      · ktr_rel
      · exact dT h
      · ktr_rel
    · apply TestTo.andF
      · ktr_rel
      · exact dF h
  | succ l ih =>
    intro rest hl
    unfold glLoop
    by_cases h1 : rest < 1 * 2 ^ w
    · by_cases h2 : (rest * 2 ^ w ||| t.getD 0 0) < (l + 1) * second
      · rw [if_pos ⟨h1, h2⟩]
        obtain ⟨rest', run⟩ := ih (rest + first) (by omega)
        refine ⟨rest', ?_⟩
        apply WRun.stepN (σ₁ := ⟨[.ref kt, .nat first, .nat second, .nat w, .nat high, .nat (1 * 2 ^ w), .nat (l + 1), .nat rest], H⟩) _ _ run
        · apply TestTo.andT
          · ktr_rel
          · exact dT h1
          · ktr_rel
        · apply ExecsTo.cons (σ₁ := ⟨[.ref kt, .nat first, .nat second, .nat w, .nat high, .nat (1 * 2 ^ w), .nat l, .nat rest], H⟩)
          · ktr_rel
          tb_rel
      · rw [if_neg (fun h => h2 h.2)]
        refine ⟨rest, ?_⟩
        apply WRun.stopE
        apply TestTo.andT
        · ktr_rel
        · exact dT h1
        · ktr_rel
    · rw [if_neg (fun h => h1 h.1)]
      refine ⟨rest, ?_⟩
      apply WRun.stopE
      apply TestTo.andF
      · ktr_rel
      · exact dF h1

theorem guessed_spec {d kt w first second : Nat} {H : List O} {t : List Nat} (ht : H[kt]? = some (O.nats t)) (lt : t.length = 3) (hw : w ≤ 32) (h0 : 0 < first) (h1 : first < 2 ^ 60) (h2 : t.getD 2 0 < 2 ^ 60) :
    CallTo (d + 1) (.val (.ref 203)) [.ref kt, .nat first, .nat second, .nat w] H (.nat (guessP t first second w)) H := by
  have ok := ok_guessed_limb
  have hB : 1 * 2 ^ w < 2 ^ 60 := by
    have : 2 ^ w ≤ 2 ^ 32 := Nat.pow_le_pow_right (by decide) hw
    omega
  have hB0 : 0 < 1 * 2 ^ w := by have := Nat.two_pow_pos w; omega
  have hl : glLimb t first w ≤ 1 * 2 ^ w - 1 := Nat.min_le_right _ _
  have hm : glLimb t first w * first ≤ glHigh t w := Nat.le_trans (Nat.mul_le_mul_right _ (Nat.min_le_left _ _)) (Nat.div_mul_le_self _ _)
  obtain ⟨rest', run⟩ := guess_run (d := d) (first := first) (second := second) (high := glHigh t w) ht lt hw (glLimb t first w) (glHigh t w - glLimb t first w * first) (by omega)
  apply CallTo.of_body (fi := fi_guessed_limb) ok lk_guessed_limb rfl (by decide) (loc' := [.ref kt, .nat first, .nat second, .nat w, .nat (glHigh t w), .nat (1 * 2 ^ w), .nat (guessP t first second w), .nat rest'])
  show ExecsTo _ _ _ ⟨[.ref kt, .nat first, .nat second, .nat w, .undef, .undef, .undef, .undef], H⟩ _ _
  apply ExecsTo.cons (σ₁ := ⟨[.ref kt, .nat first, .nat second, .nat w, .nat (glHigh t w), .nat (1 * 2 ^ w), .undef, .undef], H⟩)
  · ktr_rel
  apply ExecsTo.cons (σ₁ := ⟨[.ref kt, .nat first, .nat second, .nat w, .nat (glHigh t w), .nat (1 * 2 ^ w), .nat (glLimb t first w), .undef], H⟩)
  · ktr_rel
  apply ExecsTo.cons (σ₁ := ⟨[.ref kt, .nat first, .nat second, .nat w, .nat (glHigh t w), .nat (1 * 2 ^ w), .nat (glLimb t first w), .nat (glHigh t w - glLimb t first w * first)], H⟩)
  · ktr_rel
  apply ExecsTo.cons
  · exact ExecTo.whileE run
  apply ExecsTo.ret
  ktr_rel
end

section
/-! F9 -/
open PySem PySem.W PyProof.Rows PySem.Spec PySem.Calls
set_option maxRecDepth 100000

/-! entries of rows -/
noncomputable def Lim (w : Nat) (xs : List Nat) : Prop := ∀ i, xs.getD i 0 < 2 ^ w
theorem getD_set {xs : List Nat} {i j v : Nat} : (xs.set i v).getD j 0 = if i = j ∧ i < xs.length then v else xs.getD j 0 := by
  rw [List.getD_eq_getElem?_getD, List.getD_eq_getElem?_getD, List.getElem?_set]
  by_cases h : i = j
  · subst h
    by_cases h2 : i < xs.length
    · rw [if_pos rfl, if_pos h2, if_pos ⟨rfl, h2⟩]; rfl
    · rw [if_pos rfl, if_neg h2, if_neg (fun h => h2 h.2), List.getElem?_eq_none (by omega)]
  · rw [if_neg h, if_neg (fun h' => h h'.1)]
theorem Lim.set {w : Nat} {xs : List Nat} (h : Lim w xs) {i v : Nat} (hv : v < 2 ^ w) : Lim w (xs.set i v) := by
  intro j
  rw [getD_set]
  split
  · exact hv
  · exact h j
theorem and_lt {w x : Nat} : x &&& (1 * 2 ^ w - 1) < 2 ^ w := by
  rw [Nat.one_mul, Nat.and_two_pow_sub_one_eq_mod]
  exact Nat.mod_lt _ (Nat.two_pow_pos w)

theorem putRow_lim {bs : List Nat} {w at' : Nat} : ∀ n pos f c, Lim w f → Lim w (putRow bs w at' n pos f c).1
  | 0, _, _, _, h => h
  | n + 1, pos, f, c, h => by rw [putRow]; exact putRow_lim n _ _ _ (h.set and_lt)
theorem putP_lim {r bs : List Nat} {w at' : Nat} (h : Lim w r) : Lim w (putP r bs at' w) := (putRow_lim _ _ _ _ h).set and_lt
theorem putP_len {r bs : List Nat} {w at' : Nat} : (putP r bs at' w).length = r.length := by simp [putP, putRow_len]

theorem tkV_lt {r t w : Nat} (h : r < 2 ^ w) : tkV r t w < 2 ^ w := by
  have := Nat.mod_lt t (Nat.two_pow_pos w)
  unfold tkV
  rw [Nat.one_mul]
  split <;> omega
theorem tkC_lt {r c limb o w : Nat} (hl : limb < 2 ^ w) (ho : o < 2 ^ w) (hc : c < 2 ^ w) : tkC r (limb * o + c) w < 2 ^ w := by
  unfold tkC
  rw [Nat.one_mul]
  have hB := Nat.two_pow_pos w
  generalize 2 ^ w = B at *
  have h1 : limb * o ≤ (B - 1) * (B - 1) := Nat.mul_le_mul (by omega) (by omega)
  have h2 : (B - 1) * (B - 1) + (B - 1) = (B - 1) * B := by
    obtain ⟨b, rfl⟩ : ∃ b, B = b + 1 := ⟨B - 1, by omega⟩
    simp only [Nat.add_sub_cancel]
    rw [Nat.mul_add, Nat.mul_one]
  have h3 : limb * o + c ≤ (B - 1) * B := by omega
  have h4 : (limb * o + c) / B ≤ B - 1 := Nat.div_le_of_le_mul (by rw [Nat.mul_comm B]; exact h3)
  by_cases h5 : (limb * o + c) / B = B - 1
  · have h6 := Nat.div_add_mod (limb * o + c) B
    rw [h5, Nat.mul_comm] at h6
    have h7 : (limb * o + c) % B = 0 := by omega
    rw [h7, if_neg (by omega)]
    omega
  · split <;> omega
theorem tkRow_lim {bs : List Nat} {w limb at' : Nat} (hl : limb < 2 ^ w) (hb : Lim w bs) : ∀ n pos f c, Lim w f → c < 2 ^ w → Lim w (tkRow bs w limb at' n pos f c).1 ∧ (tkRow bs w limb at' n pos f c).2 < 2 ^ w
  | 0, _, _, _, h, hc => ⟨h, hc⟩
  | n + 1, pos, f, c, h, hc => by rw [tkRow]; exact tkRow_lim hl hb n _ _ _ (h.set (tkV_lt (h _))) (tkC_lt hl (hb _) hc)
theorem takeP_lim {r bs : List Nat} {w limb at' : Nat} (hl : limb < 2 ^ w) (hb : Lim w bs) (h : Lim w r) : Lim w (takeP r bs limb at' w).1 := by
  obtain ⟨h1, h2⟩ := tkRow_lim (at' := at') hl hb bs.length 0 r 0 h (Nat.two_pow_pos w)
  refine h1.set ?_
  have h3 := h1 (at' + bs.length)
  rw [Nat.one_mul]
  split <;> omega
theorem takeP_len {r bs : List Nat} {w limb at' : Nat} : (takeP r bs limb at' w).1.length = r.length := by simp [takeP, tkRow_len]

theorem tkRow_zero {bs : List Nat} {w at' : Nat} : ∀ n pos f, (tkRow bs w 0 at' n pos f 0).2 = 0
  | 0, _, _ => rfl
  | n + 1, pos, f => by
    rw [tkRow]
    have : ∀ r o, tkC r (0 * o + 0) w = 0 := by intro r o; simp [tkC]
    rw [this]
    exact tkRow_zero n _ _
theorem takeP_zero {r bs : List Nat} {w at' : Nat} : (takeP r bs 0 at' w).2 = 0 := by simp [takeP, tkRow_zero]

theorem glLoop_le (base t0 first second w : Nat) : ∀ l rest, glLoop base t0 first second w l rest ≤ l
  | 0, _ => Nat.le_refl _
  | l + 1, rest => by
    unfold glLoop
    split
    · exact Nat.le_succ_of_le (glLoop_le base t0 first second w l _)
    · exact Nat.le_refl _
theorem guessP_lt (t : List Nat) (first second w : Nat) : guessP t first second w < 2 ^ w := by
  have h1 := glLoop_le (1 * 2 ^ w) (t.getD 0 0) first second w (glLimb t first w) (glHigh t w - glLimb t first w * first)
  have h2 : glLimb t first w ≤ 1 * 2 ^ w - 1 := Nat.min_le_right _ _
  have := Nat.two_pow_pos w
  show glLoop (1 * 2 ^ w) (t.getD 0 0) first second w (glLimb t first w) (glHigh t w - glLimb t first w * first) < 2 ^ w
  omega

/-! divide_rows -/
noncomputable abbrev drTop (r bs : List Nat) (n : Nat) : List Nat := (r.drop (n + bs.length - 2)).take (n + bs.length + 1 - (n + bs.length - 2))
noncomputable def drGuess (r bs : List Nat) (w n : Nat) : Nat := guessP (drTop r bs n) (bs.getD (bs.length - 1) 0) (bs.getD (bs.length - 2) 0) w
noncomputable def drLoop (bs : List Nat) (w : Nat) : Nat → List Nat → List Nat → List Nat × List Nat
  | 0, r, q => (r, q)
  | n + 1, r, q => if (takeP r bs (drGuess r bs w n) n w).2 = 1 then drLoop bs w n (putP (takeP r bs (drGuess r bs w n) n w).1 bs n w) (q.set n (drGuess r bs w n - 1))
    else drLoop bs w n (takeP r bs (drGuess r bs w n) n w).1 (q.set n (drGuess r bs w n))

theorem getD_take_drop (r : List Nat) (a k i : Nat) (h : i < k) : ((r.drop a).take k).getD i 0 = r.getD (a + i) 0 := by
  rw [List.getD_eq_getElem?_getD, List.getD_eq_getElem?_getD, List.getElem?_take_of_lt h, List.getElem?_drop]

theorem divide_run {d kr kb kq w : Nat} {bs : List Nat} (lb : bs.length ≤ 2 ^ 10) (lb2 : 2 ≤ bs.length) (hlb : Lim w bs) (hne : kb ≠ kr) (hne2 : kb ≠ kq) (hne3 : kr ≠ kq) (hw : w ≤ 32) (hfirst : 0 < bs.getD (bs.length - 1) 0) : ∀ n (H : List O) r q v v', H[kb]? = some (O.nats bs) → H[kr]? = some (O.nats r) → H[kq]? = some (O.nats q) →
    Lim w r → r.length ≤ 2 ^ 20 → n + bs.length ≤ r.length → n ≤ q.length → q.length ≤ 2 ^ 20 →
    ∃ u u' H', RunR (d + 1) fi_divide_rows (bodyOf (stmtOf fi_divide_rows.body 2)) 5 (upFrom ((n : Int) - 1) (-1) n) ⟨[.ref kr, .ref kb, .nat w, .nat bs.length, .ref kq, v, v'], H⟩ .next ⟨[.ref kr, .ref kb, .nat w, .nat bs.length, .ref kq, u, u'], H'⟩ ∧
      Kept [kr, kq] H H' ∧ H'[kr]? = some (O.nats (drLoop bs w n r q).1) ∧ H'[kq]? = some (O.nats (drLoop bs w n r q).2) := by
  have ok := ok_divide_rows
  have hB : 2 ^ w ≤ 2 ^ 32 := Nat.pow_le_pow_right (by decide) hw
  intro n
  induction n with
  | zero => exact fun H r q v v' hb hr hq _ _ _ _ _ => ⟨v, v', H, .nil, Kept.refl, hr, hq⟩
  | succ n ih =>
    intro H r q v v' hb hr hq hlr lr hnr hnq lq
    rw [up_down]
    have hGl : drGuess r bs w n < 2 ^ w := guessP_lt _ _ _ _
    have hT := takeP_len (r := r) (bs := bs) (w := w) (limb := drGuess r bs w n) (at' := n)
    have hTl := takeP_lim (at' := n) hGl hlb hlr
    have hT0 : (takeP r bs (drGuess r bs w n) n w).2 = 1 → 0 < drGuess r bs w n := by
      intro h
      apply Nat.pos_of_ne_zero
      intro e
      rw [e, takeP_zero] at h
      cases h
    have hc1 := (tkRow_lim (at' := n) hGl hlb bs.length 0 r 0 hlr (Nat.two_pow_pos w)).2
    have hsl : (drTop r bs n).length = 3 := by simp; omega
    have g1 := guessed_spec (d := d) (kt := H.length) (w := w) (first := bs.getD (bs.length - 1) 0) (second := bs.getD (bs.length - 2) 0) (H := H ++ [O.nats (drTop r bs n)]) hp_new hsl hw hfirst
      (Nat.lt_of_lt_of_le (hlb _) (by omega)) (by rw [getD_take_drop _ _ _ _ (by omega)]; exact Nat.lt_of_lt_of_le (hlr _) (by omega))
    rw [show guessP (drTop r bs n) (bs.getD (bs.length - 1) 0) (bs.getD (bs.length - 2) 0) w = drGuess r bs w n from rfl] at g1
    have t1 := take_away_spec (d := d) (kr := kr) (kb := kb) (w := w) (limb := drGuess r bs w n) (at' := n) (H := H ++ [O.nats (drTop r bs n)]) (hp_old hr) (hp_old hb) hne lb lr (by omega) hw (by omega) (by omega)
    unfold drLoop
    generalize drGuess r bs w n = g at *
    generalize takeP r bs g n w = R at *
    obtain ⟨r1, bor⟩ := R
    dsimp only at *
    rw [set_old hr] at t1
    have hr1 : (H.set kr (O.nats r1) ++ [O.nats (drTop r bs n)])[kr]? = some (O.nats r1) := hp_old (hp_set hr)
    have hb1 : (H.set kr (O.nats r1) ++ [O.nats (drTop r bs n)])[kb]? = some (O.nats bs) := hp_old (hp_off hb hne.symm)
    have hq1 : (H.set kr (O.nats r1) ++ [O.nats (drTop r bs n)])[kq]? = some (O.nats q) := hp_old (hp_off hq hne3)
    have hk1 : Kept [kr, kq] H (H.set kr (O.nats r1) ++ [O.nats (drTop r bs n)]) := (Kept.set (by simp)).trans Kept.app
    have hst0 : ExecTo (d + 1) fi_divide_rows (stmtOf (bodyOf (stmtOf fi_divide_rows.body 2)) 0) ⟨[.ref kr, .ref kb, .nat w, .nat bs.length, .ref kq, .nat n, v'], H⟩ .next
        ⟨[.ref kr, .ref kb, .nat w, .nat bs.length, .ref kq, .nat n, .nat g], H ++ [O.nats (drTop r bs n)]⟩ := by
      apply ExecTo.as
      · apply ExecTo.assign ok (i := 6)
        · k_memK
        · kst_all1 <;> k_ownIn
        · exact fun _ => rfl
      · exact St.eq rfl rfl
    generalize H ++ [O.nats (drTop r bs n)] = H0 at *
    generalize H.set kr (O.nats r1) ++ [O.nats (drTop r bs n)] = H1 at *
    by_cases hbor : bor = 1
    · rw [if_pos hbor]
      have p1 := put_back_spec (d := d) (kr := kr) (kb := kb) (at' := n) hr1 hb1 hne lb (by omega) (by omega) (by omega : w ≤ 1000)
      have hr2 : (H1.set kr (O.nats (putP r1 bs n w)))[kr]? = some (O.nats (putP r1 bs n w)) := hp_set hr1
      have hb2 : (H1.set kr (O.nats (putP r1 bs n w)))[kb]? = some (O.nats bs) := hp_off hb1 hne.symm
      have hq2 : (H1.set kr (O.nats (putP r1 bs n w)))[kq]? = some (O.nats q) := hp_off hq1 hne3
      have hk2 : Kept [kr, kq] H1 (H1.set kr (O.nats (putP r1 bs n w))) := Kept.set (by simp)
      have hpl := putP_len (r := r1) (bs := bs) (w := w) (at' := n)
      have hpL := putP_lim (bs := bs) (at' := n) hTl
      generalize putP r1 bs n w = r2 at *
      generalize H1.set kr (O.nats r2) = H2 at *
      have hr3 : (H2.set kq (O.nats (q.set n (g - 1))))[kr]? = some (O.nats r2) := hp_off hr2 hne3.symm
      have hb3 : (H2.set kq (O.nats (q.set n (g - 1))))[kb]? = some (O.nats bs) := hp_off hb2 hne2.symm
      have hq3 : (H2.set kq (O.nats (q.set n (g - 1))))[kq]? = some (O.nats (q.set n (g - 1))) := hp_set hq2
      obtain ⟨u, u', H', run, hk, h1, h2⟩ := ih _ r2 (q.set n (g - 1)) (.nat n) (.nat (g - 1)) hb3 hr3 hq3 hpL (by omega) (by omega) (by simp; omega) (by simpa using lq)
      refine ⟨u, u', H', RunR.stepN ?_ run, hk1.trans (hk2.trans ((Kept.set (by simp)).trans hk)), h1, h2⟩
      have hg0 := hT0 hbor
      apply ExecsTo.cons hst0
      apply ExecsTo.cons (σ₁ := ⟨[.ref kr, .ref kb, .nat w, .nat bs.length, .ref kq, .nat n, .nat (g - 1)], H2⟩)
      · apply ExecTo.ifT
        · ktr_rel
        · exact dT hbor
        · apply ExecsTo.cons (σ₁ := ⟨[.ref kr, .ref kb, .nat w, .nat bs.length, .ref kq, .nat n, .nat (g - 1)], H1⟩)
          · ktr_rel
          · apply ExecsTo.one
            refine ExecTo.expr (v := .none) ?_ (fun _ => rfl) rfl
            ktr_rel
      · tb_rel
    · rw [if_neg hbor]
      have hr3 : (H1.set kq (O.nats (q.set n g)))[kr]? = some (O.nats r1) := hp_off hr1 hne3.symm
      have hb3 : (H1.set kq (O.nats (q.set n g)))[kb]? = some (O.nats bs) := hp_off hb1 hne2.symm
      have hq3 : (H1.set kq (O.nats (q.set n g)))[kq]? = some (O.nats (q.set n g)) := hp_set hq1
      obtain ⟨u, u', H', run, hk, h1, h2⟩ := ih _ r1 (q.set n g) (.nat n) (.nat g) hb3 hr3 hq3 hTl (by omega) (by omega) (by simp; omega) (by simpa using lq)
      refine ⟨u, u', H', RunR.stepN ?_ run, hk1.trans ((Kept.set (by simp)).trans hk), h1, h2⟩
      apply ExecsTo.cons hst0
      apply ExecsTo.cons (σ₁ := ⟨[.ref kr, .ref kb, .nat w, .nat bs.length, .ref kq, .nat n, .nat g], H1⟩)
      · apply ExecTo.ifF
        · ktr_rel
        · exact dF hbor
        · exact .nil
      · tb_rel

noncomputable def drP (r bs : List Nat) (w : Nat) : List Nat × List Nat := drLoop bs w (r.length - bs.length) r (List.replicate (r.length - bs.length) 0)
theorem divide_rows_spec {d kr kb w : Nat} {H : List O} {r bs : List Nat} (hr : H[kr]? = some (O.nats r)) (hb : H[kb]? = some (O.nats bs)) (hne : kb ≠ kr) (lb : bs.length ≤ 2 ^ 10) (lb2 : 2 ≤ bs.length) (lr : r.length ≤ 2 ^ 20) (hlb : Lim w bs) (hlr : Lim w r) (hw : w ≤ 32) (hfirst : 0 < bs.getD (bs.length - 1) 0) (hle : bs.length ≤ r.length) :
    ∃ H', CallTo (d + 2) (.val (.ref 224)) [.ref kr, .ref kb, .nat w] H (.ref H.length) H' ∧ Kept [kr] H H' ∧ H'[kr]? = some (O.nats (drP r bs w).1) ∧ H'[H.length]? = some (O.nats (drP r bs w).2) := by
  have ok := ok_divide_rows
  have hn1 := hp_ne hr
  have hn2 := hp_ne hb
  obtain ⟨u, u', H', run, hk, h1, h2⟩ := divide_run (d := d) (kr := kr) (kb := kb) (kq := H.length) lb lb2 hlb hne hn2.symm hn1.symm hw hfirst (r.length - bs.length) (H ++ [O.nats (List.replicate (r.length - bs.length) 0)]) r (List.replicate (r.length - bs.length) 0) .undef .undef (hp_old hb) (hp_old hr) hp_new hlr lr (by omega) (by simp) (by simp; omega)
  refine ⟨H', ?_, fun j x hj hx => ?_, h1, h2⟩
  · apply CallTo.of_body (fi := fi_divide_rows) ok lk_divide_rows rfl (by decide) (loc' := [.ref kr, .ref kb, .nat w, .nat bs.length, .ref H.length, u, u'])
    show ExecsTo _ _ _ ⟨[.ref kr, .ref kb, .nat w, .undef, .undef, .undef, .undef], H⟩ _ _
    apply ExecsTo.cons (σ₁ := ⟨[.ref kr, .ref kb, .nat w, .nat bs.length, .undef, .undef, .undef], H⟩)
    · ktr_rel
    apply ExecsTo.cons (σ₁ := ⟨[.ref kr, .ref kb, .nat w, .nat bs.length, .ref H.length, .undef, .undef], H ++ [O.nats (List.replicate (r.length - bs.length) 0)]⟩)
    · ktr_rel
    apply ExecsTo.cons
    · refine ExecTo.forRE ok (i := 5) ?_ ?_ (fun _ _ => rfl) run
      · k_memK
      · kst_all1 <;> k_ownIn
    apply ExecsTo.ret
    ktr_rel
  · refine hk j x ?_ (hp_old hx)
    have := hp_ne hx
    simp at hj ⊢
    exact ⟨hj, fun e => this e.symm⟩
end

section
/-! F10 -/
open PySem PySem.W PyProof.Rows PySem.Spec PySem.Calls
set_option maxRecDepth 100000

/-! divrem_small -/
noncomputable abbrev dlP (as : List Nat) (limb w : Nat) : List Nat × Nat := dlLoop as limb w as.length (List.replicate as.length 0) 0
noncomputable def dsRest (r : Nat) : List Nat := if 0 < r then [r] else []
theorem divrem_small_spec {d ka kb w : Nat} {H : List O} {as bs : List Nat} (ha : H[ka]? = some (O.nats as)) (hb : H[kb]? = some (O.nats bs)) (la : as.length ≤ 2 ^ 20) (lb : bs.length = 1) (h0 : 0 < bs.getD 0 0) (h1 : bs.getD 0 0 < 2 ^ 60) (hw : w ≤ 1000) :
    ∃ H' p q r, CallTo (d + 3) (.val (.ref 196)) [.ref ka, .ref kb, .nat w] H (.ref p) H' ∧ Kept [] H H' ∧ H'[p]? = some (.tup [.ref q, .ref r]) ∧ H'[q]? = some (O.nats (normalP (dlP as (bs.getD 0 0) w).1)) ∧ H'[r]? = some (O.nats (dsRest (dlP as (bs.getD 0 0) w).2)) := by
  have ok := ok_divrem_small
  have c1 := divrem_limb_spec (d := d) (limb := bs.getD 0 0) (w := w) ha la h0 h1 (by omega)
  have e : (dlLoop as (bs.getD 0 0) w as.length (List.replicate as.length 0) 0) = dlP as (bs.getD 0 0) w := rfl
  rw [e] at c1
  generalize dlP as (bs.getD 0 0) w = R at *
  obtain ⟨f, x⟩ := R
  dsimp only at *
  obtain ⟨H1, e1⟩ : ∃ H1, H1 = H ++ [O.nats f, O.nats (normalP f), .tup [.ref (H.length + 1), .nat x]] := ⟨_, rfl⟩
  rw [← e1] at c1
  have k1 : Kept [] H H1 := e1 ▸ Kept.app
  have p1 : H1[H.length + 2]? = some (.tup [.ref (H.length + 1), .nat x]) := by rw [e1]; simp
  have q1 : H1[H.length + 1]? = some (O.nats (normalP f)) := by rw [e1]; simp
  clear e1
  generalize H.length + 2 = i2 at *
  generalize H.length + 1 = i1 at *
  refine ⟨H1 ++ [O.nats (dsRest x)] ++ [.tup [.ref i1, .ref H1.length]], (H1 ++ [O.nats (dsRest x)]).length, i1, H1.length, ?_, k1.trans (Kept.app.trans Kept.app), hp_new, hp_old (hp_old q1), hp_old hp_new⟩
  apply CallTo.of_body (fi := fi_divrem_small) ok lk_divrem_small rfl (by decide) (loc' := [.ref ka, .ref kb, .nat w, .ref i1, .nat x])
  show ExecsTo _ _ _ ⟨[.ref ka, .ref kb, .nat w, .undef, .undef], H⟩ _ _
  apply ExecsTo.cons (σ₁ := ⟨[.ref ka, .ref kb, .nat w, .ref i1, .nat x], H1⟩)
  · apply ExecTo.as
    · apply ExecTo.tupCall2 ok (i := 3) (j := 4)
      · k_memK
      · k_memK
      · kst_all1 <;> k_ownIn
      · exact p1
      · exact fun _ => rfl
      · exact fun _ => rfl
    · rfl
  apply ExecsTo.ret
  apply EvalTo.as
  · apply EvalTo.tuple
    · apply EvalsTo.cons (σ₁ := ⟨[.ref ka, .ref kb, .nat w, .ref i1, .nat x], H1⟩) (v := .ref i1)
      · ktr_rel
      · apply EvalsTo.cons (σ₁ := ⟨[.ref ka, .ref kb, .nat w, .ref i1, .nat x], H1 ++ [O.nats (dsRest x)]⟩) (v := .ref H1.length)
        · unfold dsRest
          by_cases hx : 0 < x
          · rw [if_pos hx]
            apply EvalTo.iteT
            · ktr_rel
            · exact dT hx
            · apply EvalTo.as
              · apply EvalTo.list
                · kst_all1
                · simp
              · rfl
              · rfl
          · rw [if_neg hx]
            apply EvalTo.iteF
            · ktr_rel
            · exact dF hx
            · ktr_rel
        · exact .nil
        · exact fun _ => rfl
      · exact fun _ => rfl
    · simp
  · rfl
  · rfl
end

section
/-! P1 -/

/-! rows of limbs as numbers -/
noncomputable def val (w : Nat) : List Nat → Nat
  | [] => 0
  | x :: xs => x + 2 ^ w * val w xs

theorem pow_split (w n : Nat) : 2 ^ (w * (n + 1)) = 2 ^ w * 2 ^ (w * n) := by
  rw [Nat.mul_add, Nat.mul_one, Nat.pow_add, Nat.mul_comm]

theorem val_append (w : Nat) : ∀ xs ys, val w (xs ++ ys) = val w xs + 2 ^ (w * xs.length) * val w ys
  | [], ys => by simp [val]
  | x :: xs, ys => by
    rw [List.cons_append, val, val, val_append w xs ys, List.length_cons, pow_split, Nat.mul_add, Nat.mul_assoc, Nat.add_assoc]

theorem val_replicate (w : Nat) : ∀ n, val w (List.replicate n 0) = 0
  | 0 => rfl
  | n + 1 => by rw [List.replicate_succ, val, val_replicate w n]; simp

theorem Lim.tail {w x : Nat} {xs : List Nat} (h : Lim w (x :: xs)) : Lim w xs := fun i => by simpa using h (i + 1)
theorem Lim.head {w x : Nat} {xs : List Nat} (h : Lim w (x :: xs)) : x < 2 ^ w := by simpa using h 0
theorem Lim.nil {w : Nat} : Lim w [] := fun i => by simp [Nat.two_pow_pos]
theorem Lim.cons {w x : Nat} {xs : List Nat} (h : x < 2 ^ w) (h' : Lim w xs) : Lim w (x :: xs) := fun i => by
  cases i with
  | zero => simpa using h
  | succ i => simpa using h' i
theorem getD_append {xs ys : List Nat} {i : Nat} : (xs ++ ys).getD i 0 = if i < xs.length then xs.getD i 0 else ys.getD (i - xs.length) 0 := by
  simp only [List.getD_eq_getElem?_getD, List.getElem?_append]
  split <;> rfl
theorem Lim.append {w : Nat} {xs ys : List Nat} (h : Lim w xs) (h' : Lim w ys) : Lim w (xs ++ ys) := fun i => by
  rw [getD_append]
  split
  · exact h _
  · exact h' _
theorem Lim.take {w n : Nat} {xs : List Nat} (h : Lim w xs) : Lim w (xs.take n) := fun i => by
  rw [List.getD_eq_getElem?_getD, List.getElem?_take]
  split
  · have := h i; rwa [List.getD_eq_getElem?_getD] at this
  · exact Nat.two_pow_pos w
theorem Lim.drop {w n : Nat} {xs : List Nat} (h : Lim w xs) : Lim w (xs.drop n) := fun i => by
  rw [List.getD_eq_getElem?_getD, List.getElem?_drop]
  have := h (n + i); rwa [List.getD_eq_getElem?_getD] at this
theorem Lim.replicate {w n : Nat} : Lim w (List.replicate n 0) := fun i => by
  rw [List.getD_eq_getElem?_getD, List.getElem?_replicate]
  split <;> exact Nat.two_pow_pos w

theorem val_lt {w : Nat} : ∀ {xs : List Nat}, Lim w xs → val w xs < 2 ^ (w * xs.length)
  | [], _ => by simp [val]
  | x :: xs, h => by
    rw [val, List.length_cons, pow_split]
    have h1 := val_lt h.tail
    have h2 := h.head
    have h3 : 2 ^ w * (val w xs + 1) ≤ 2 ^ w * 2 ^ (w * xs.length) := Nat.mul_le_mul_left _ h1
    rw [Nat.mul_add, Nat.mul_one] at h3
    omega

theorem val_take_drop (w n : Nat) (xs : List Nat) (h : n ≤ xs.length) : val w xs = val w (xs.take n) + 2 ^ (w * n) * val w (xs.drop n) := by
  have := val_append w (xs.take n) (xs.drop n)
  rw [List.take_append_drop, List.length_take, Nat.min_eq_left h] at this
  exact this

theorem drop_getD {xs : List Nat} {n : Nat} (h : n < xs.length) : xs.drop n = xs.getD n 0 :: xs.drop (n + 1) := by
  rw [List.drop_eq_getElem_cons h, List.getD_eq_getElem?_getD, List.getElem?_eq_getElem h]; rfl

theorem val_drop (w : Nat) {xs : List Nat} {n : Nat} (h : n < xs.length) : val w (xs.drop n) = xs.getD n 0 + 2 ^ w * val w (xs.drop (n + 1)) := by
  rw [drop_getD h, val]

/-- the value of a row over the last n limbs -/
theorem val_snoc (w : Nat) (xs : List Nat) (x : Nat) : val w (xs ++ [x]) = val w xs + 2 ^ (w * xs.length) * x := by
  rw [val_append]; simp [val]

theorem val_take_succ (w : Nat) {xs : List Nat} {n : Nat} (h : n < xs.length) : val w (xs.take (n + 1)) = val w (xs.take n) + 2 ^ (w * n) * xs.getD n 0 := by
  have e : xs.take (n + 1) = xs.take n ++ [xs.getD n 0] := by
    rw [List.take_add_one, List.getElem?_eq_getElem h, List.getD_eq_getElem?_getD, List.getElem?_eq_getElem h]; rfl
  rw [e, val_snoc, List.length_take, Nat.min_eq_left (Nat.le_of_lt h)]

theorem val_set (w : Nat) : ∀ {xs : List Nat} {i v : Nat}, i < xs.length → val w (xs.set i v) + 2 ^ (w * i) * xs.getD i 0 = val w xs + 2 ^ (w * i) * v
  | x :: xs, 0, v, _ => by simp [val]; omega
  | x :: xs, i + 1, v, h => by
    have ih := val_set w (xs := xs) (i := i) (v := v) (by simpa using h)
    have e : (x :: xs).getD (i + 1) 0 = xs.getD i 0 := by simp
    rw [List.set_cons_succ, val, val, e, pow_split, Nat.mul_assoc, Nat.mul_assoc, Nat.add_assoc, Nat.add_assoc, ← Nat.mul_add, ← Nat.mul_add, ih]

theorem val_zeros {w : Nat} : ∀ {xs : List Nat}, (∀ i, xs.getD i 0 = 0) → val w xs = 0
  | [], _ => rfl
  | x :: xs, h => by
    have h0 : x = 0 := by simpa using h 0
    rw [val, h0, val_zeros (xs := xs) fun i => by simpa using h (i + 1)]
    simp
theorem zeros_val {w : Nat} : ∀ {xs : List Nat}, val w xs = 0 → ∀ i, xs.getD i 0 = 0
  | [], _, i => by simp
  | x :: xs, h, i => by
    rw [val] at h
    have hp := Nat.two_pow_pos w
    have h1 : 2 ^ w * val w xs = 0 := by omega
    have h2 : val w xs = 0 := by
      rcases Nat.mul_eq_zero.mp h1 with h | h
      · omega
      · exact h
    cases i with
    | zero => simp; omega
    | succ i => simpa using zeros_val h2 i

/-- written without noughts at the end -/
noncomputable def Nrm (xs : List Nat) : Prop := xs.length = 0 ∨ 0 < xs.getD (xs.length - 1) 0

theorem val_low {w : Nat} {xs : List Nat} {n : Nat} (h : n < xs.length) (h0 : 0 < xs.getD n 0) : 2 ^ (w * n) ≤ val w xs := by
  rw [val_take_drop w n xs (by omega), val_drop w h]
  have : 2 ^ (w * n) * 1 ≤ 2 ^ (w * n) * (xs.getD n 0 + 2 ^ w * val w (xs.drop (n + 1))) := Nat.mul_le_mul_left _ (by omega)
  omega

theorem row_unique {w : Nat} : ∀ {xs ys : List Nat}, Lim w xs → Lim w ys → Nrm xs → Nrm ys → val w xs = val w ys → xs = ys
  | [], [], _, _, _, _, _ => rfl
  | [], y :: ys, _, _, _, h2, hv => by
    rcases h2 with h2 | h2
    · simp at h2
    · have := val_low (w := w) (xs := y :: ys) (n := (y :: ys).length - 1) (by simp) h2
      rw [← hv] at this
      have hp := Nat.two_pow_pos (w * ((y :: ys).length - 1))
      simp only [val] at this
      omega
  | x :: xs, [], _, _, h1, _, hv => by
    rcases h1 with h2 | h2
    · simp at h2
    · have := val_low (w := w) (xs := x :: xs) (n := (x :: xs).length - 1) (by simp) h2
      rw [hv] at this
      have hp := Nat.two_pow_pos (w * ((x :: xs).length - 1))
      simp only [val] at this
      omega
  | x :: xs, y :: ys, l1, l2, h1, h2, hv => by
    rw [val, val] at hv
    have hx := l1.head
    have hy := l2.head
    have e1 : x = y := by
      have := congrArg (· % 2 ^ w) hv
      simp only [Nat.add_mul_mod_self_left] at this
      rwa [Nat.mod_eq_of_lt hx, Nat.mod_eq_of_lt hy] at this
    subst e1
    have e2 : val w xs = val w ys := by
      have : 2 ^ w * val w xs = 2 ^ w * val w ys := by omega
      exact Nat.eq_of_mul_eq_mul_left (Nat.two_pow_pos w) this
    have n1 : Nrm xs := by
      rcases h1 with h | h
      · simp at h
      · cases xs with
        | nil => exact .inl rfl
        | cons a r => refine .inr ?_; simpa using h
    have n2 : Nrm ys := by
      rcases h2 with h | h
      · simp at h
      · cases ys with
        | nil => exact .inl rfl
        | cons a r => refine .inr ?_; simpa using h
    rw [row_unique l1.tail l2.tail n1 n2 e2]

/-! what _law_limbs writes -/
noncomputable def lim (w : Nat) (x : Nat) : List Nat :=
  if h : 0 < x ∧ 0 < w then x % 2 ^ w :: lim w (x / 2 ^ w) else []
termination_by x
decreasing_by
  have : 2 ^ 1 ≤ 2 ^ w := Nat.pow_le_pow_right (by decide) h.2
  exact Nat.div_lt_self h.1 (by omega)

theorem lim_zero (w : Nat) : lim w 0 = [] := by unfold lim; simp
theorem lim_pos {w x : Nat} (hw : 0 < w) (h : 0 < x) : lim w x = x % 2 ^ w :: lim w (x / 2 ^ w) := by
  conv => lhs; unfold lim
  rw [dif_pos ⟨h, hw⟩]

theorem lim_facts {w : Nat} (hw : 0 < w) : ∀ n x, x < n → val w (lim w x) = x ∧ Lim w (lim w x) ∧ Nrm (lim w x) := by
  intro n
  induction n with
  | zero => intro x h; omega
  | succ n ih =>
    intro x hx
    by_cases h0 : x = 0
    · subst h0; rw [lim_zero]; exact ⟨rfl, Lim.nil, .inl rfl⟩
    · rw [lim_pos hw (by omega)]
      have h2 : 2 ^ 1 ≤ 2 ^ w := Nat.pow_le_pow_right (by decide) hw
      have hd : x / 2 ^ w < x := Nat.div_lt_self (by omega) (by omega)
      obtain ⟨i1, i2, i3⟩ := ih (x / 2 ^ w) (by omega)
      refine ⟨?_, Lim.cons (Nat.mod_lt _ (by omega)) i2, ?_⟩
      · rw [val, i1]; exact Nat.mod_add_div x (2 ^ w)
      · refine .inr ?_
        by_cases hz : x / 2 ^ w = 0
        · rw [hz, lim_zero]
          have := Nat.mod_add_div x (2 ^ w)
          rw [hz, Nat.mul_zero, Nat.add_zero] at this
          show 0 < x % 2 ^ w
          omega
        · rcases i3 with h | h
          · rw [lim_pos hw (by omega)] at h; simp at h
          · have hl : 0 < (lim w (x / 2 ^ w)).length := by rw [lim_pos hw (by omega)]; simp
            obtain ⟨l, e⟩ : ∃ l, (lim w (x / 2 ^ w)).length = l + 1 := ⟨_, (Nat.succ_pred_eq_of_pos hl).symm⟩
            rw [e, Nat.add_sub_cancel] at h
            rw [List.length_cons, e, Nat.add_sub_cancel, List.getD_cons_succ]
            exact h
theorem val_lim {w : Nat} (hw : 0 < w) (x : Nat) : val w (lim w x) = x := (lim_facts hw (x + 1) x (by omega)).1
theorem Lim_lim {w : Nat} (hw : 0 < w) (x : Nat) : Lim w (lim w x) := (lim_facts hw (x + 1) x (by omega)).2.1
theorem Nrm_lim {w : Nat} (hw : 0 < w) (x : Nat) : Nrm (lim w x) := (lim_facts hw (x + 1) x (by omega)).2.2
theorem lim_of {w : Nat} (hw : 0 < w) {xs : List Nat} (h : Lim w xs) (hn : Nrm xs) : xs = lim w (val w xs) :=
  row_unique h (Lim_lim hw _) hn (Nrm_lim hw _) (val_lim hw _).symm

/-! normal -/
theorem endP_spec (ns : List Nat) : ∀ e, e ≤ ns.length → (∀ i, endP ns e ≤ i → i < e → ns.getD i 0 = 0) ∧ (endP ns e = 0 ∨ 0 < ns.getD (endP ns e - 1) 0)
  | 0, _ => ⟨fun i _ h => absurd h (Nat.not_lt_zero i), .inl rfl⟩
  | e + 1, h => by
    unfold endP
    split
    · rename_i h0
      obtain ⟨i1, i2⟩ := endP_spec ns e (by omega)
      refine ⟨fun i a b => ?_, i2⟩
      by_cases he : i = e
      · rw [he]; exact h0
      · exact i1 i a (by omega)
    · rename_i h0
      refine ⟨fun i a b => by omega, .inr ?_⟩
      rw [Nat.add_sub_cancel]; omega
theorem normalP_len (ns : List Nat) : (normalP ns).length = endP ns ns.length := by
  unfold normalP
  rw [List.length_take, Nat.min_eq_left (endP_le ns _)]
theorem normalP_nrm (ns : List Nat) : Nrm (normalP ns) := by
  obtain ⟨h1, h2⟩ := endP_spec ns ns.length (Nat.le_refl _)
  unfold Nrm
  rw [normalP_len]
  rcases h2 with h | h
  · exact .inl h
  · by_cases h0 : endP ns ns.length = 0
    · exact .inl h0
    · refine .inr ?_
      unfold normalP
      rw [List.getD_eq_getElem?_getD, List.getElem?_take_of_lt (by omega), ← List.getD_eq_getElem?_getD]
      exact h
theorem normalP_val (w : Nat) (ns : List Nat) : val w (normalP ns) = val w ns := by
  obtain ⟨h1, h2⟩ := endP_spec ns ns.length (Nat.le_refl _)
  have h3 := endP_le ns ns.length
  rw [val_take_drop w (endP ns ns.length) ns h3]
  rw [val_zeros (xs := ns.drop (endP ns ns.length)) fun i => by
    rw [List.getD_eq_getElem?_getD, List.getElem?_drop, ← List.getD_eq_getElem?_getD]
    by_cases hi : endP ns ns.length + i < ns.length
    · exact h1 _ (by omega) hi
    · rw [List.getD_eq_getElem?_getD, List.getElem?_eq_none (by omega)]; rfl]
  simp [normalP]
theorem normalP_eq {w : Nat} (hw : 0 < w) {ns : List Nat} (h : Lim w ns) : normalP ns = lim w (val w ns) := by
  rw [← normalP_val w ns]
  exact lim_of hw h.take (normalP_nrm ns)

theorem lim_len {w : Nat} (hw : 0 < w) {x n : Nat} (h : x < 2 ^ (w * n)) : (lim w x).length ≤ n := by
  rcases Nrm_lim hw x with h0 | h0
  · omega
  · by_cases hl : (lim w x).length = 0
    · omega
    · have h1 := val_low (w := w) (xs := lim w x) (n := (lim w x).length - 1) (by omega) h0
      rw [val_lim hw] at h1
      have h2 : 2 ^ (w * ((lim w x).length - 1)) < 2 ^ (w * n) := by omega
      have h3 := (Nat.pow_lt_pow_iff_right (by decide : 1 < 2)).mp h2
      have h4 := Nat.lt_of_mul_lt_mul_left h3
      omega
theorem lim_len0 {w x : Nat} (hw : 0 < w) : (lim w x).length = 0 ↔ x = 0 := by
  constructor
  · intro h
    have := val_lim hw x
    rw [List.length_eq_zero_iff.mp h] at this
    exact this.symm
  · rintro rfl; rw [lim_zero]; rfl
end

section
/-! P2 -/

theorem or_add {a b i : Nat} (h : b < 2 ^ i) : b ||| a * 2 ^ i = b + a * 2 ^ i := by
  rw [Nat.or_comm, Nat.mul_comm, ← Nat.two_pow_add_eq_or_of_lt h, Nat.add_comm]
theorem or_add' {a b i : Nat} (h : b < 2 ^ i) : a * 2 ^ i ||| b = a * 2 ^ i + b := by
  rw [Nat.mul_comm, ← Nat.two_pow_add_eq_or_of_lt h]
theorem mask_mod (x w : Nat) : x &&& (1 * 2 ^ w - 1) = x % 2 ^ w := by
  rw [Nat.one_mul, Nat.and_two_pow_sub_one_eq_mod]

/-! shift_left -/
theorem slLoop_val {as : List Nat} {few w : Nat} (hl : Lim w as) (hf : few ≤ w) : ∀ n pos f c, pos + n = as.length → Lim w f → c < 2 ^ few →
    Lim w (slLoop as few w n pos f c).1 ∧ (slLoop as few w n pos f c).2 < 2 ^ few ∧
      val w (slLoop as few w n pos f c).1 + 2 ^ (w * (slLoop as few w n pos f c).1.length) * (slLoop as few w n pos f c).2 = val w f + 2 ^ (w * f.length) * (c + 2 ^ few * val w (as.drop pos))
  | 0, pos, f, c, hp, h1, h2 => by
    rw [slLoop]
    refine ⟨h1, h2, ?_⟩
    rw [List.drop_eq_nil_of_le (by omega), val]
    simp
  | n + 1, pos, f, c, hp, h1, h2 => by
    rw [slLoop, or_add h2, mask_mod]
    have hx := hl pos
    have hB := Nat.two_pow_pos w
    have hc : (c + as.getD pos 0 * 2 ^ few) / 2 ^ w < 2 ^ few := by
      rw [Nat.div_lt_iff_lt_mul hB]
      have : (as.getD pos 0 + 1) * 2 ^ few ≤ 2 ^ w * 2 ^ few := Nat.mul_le_mul_right _ hx
      rw [Nat.add_mul, Nat.one_mul] at this
      rw [Nat.mul_comm (2 ^ few)]
      omega
    obtain ⟨i1, i2, i3⟩ := slLoop_val hl hf n (pos + 1) (f ++ [(c + as.getD pos 0 * 2 ^ few) % 2 ^ w]) ((c + as.getD pos 0 * 2 ^ few) / 2 ^ w) (by omega) (h1.append (Lim.cons (Nat.mod_lt _ hB) Lim.nil)) hc
    refine ⟨i1, i2, ?_⟩
    rw [i3, val_snoc, List.length_append, List.length_singleton, pow_split, val_drop w (by omega : pos < as.length)]
    have hm := Nat.mod_add_div (c + as.getD pos 0 * 2 ^ few) (2 ^ w)
    generalize (c + as.getD pos 0 * 2 ^ few) % 2 ^ w = m at *
    generalize hq : (c + as.getD pos 0 * 2 ^ few) / 2 ^ w = q at *
    generalize val w (as.drop (pos + 1)) = Y
    generalize 2 ^ (w * f.length) = P
    generalize 2 ^ w = B at *
    generalize 2 ^ few = F at *
    generalize as.getD pos 0 = x at *
    have : c + F * (x + B * Y) = m + B * (q + F * Y) := by
      rw [Nat.mul_add, Nat.mul_add, Nat.mul_comm F x, ← Nat.add_assoc, ← hm, Nat.mul_left_comm F B Y]
      omega
    rw [this]
    grind

theorem shlP_val {as : List Nat} {n w : Nat} (hl : Lim w as) (hn : n < w) : val w (shlP as n w) = val w as * 2 ^ n ∧ Lim w (shlP as n w) ∧ (shlP as n w).length ≤ as.length + 1 := by
  unfold shlP
  split
  · rename_i h0
    rw [List.length_eq_zero_iff.mp h0]
    exact ⟨by simp [val], Lim.nil, by simp⟩
  · rename_i h0
    rw [Nat.div_eq_of_lt hn, Nat.mod_eq_of_lt hn]
    obtain ⟨h1, h2, h3⟩ := slLoop_val hl (Nat.le_of_lt hn) as.length 0 (List.replicate 0 0) 0 (by omega) Lim.nil (Nat.two_pow_pos n)
    have h4 := slLoop_len as n w as.length 0 (List.replicate 0 0) 0
    generalize slLoop as n w as.length 0 (List.replicate 0 0) 0 = R at *
    obtain ⟨f, c⟩ := R
    dsimp only at *
    simp only [List.replicate_zero, List.length_nil, Nat.mul_zero, Nat.pow_zero, Nat.one_mul, List.drop_zero, val, Nat.zero_add] at h3 h4
    rw [Nat.mul_comm] at h3 
    split
    · refine ⟨?_, h1.append (Lim.cons ?_ Lim.nil), by simp; omega⟩
      · rw [val_snoc, Nat.mul_comm (val w as), ← h3, Nat.mul_comm c]
      · exact Nat.lt_of_lt_of_le h2 (Nat.pow_le_pow_right (by decide) (Nat.le_of_lt hn))
    · refine ⟨?_, h1, by omega⟩
      have : c = 0 := by omega
      subst this
      rw [Nat.mul_comm (val w as), ← h3]; simp

/-- the divisor keeps its length where its top limb has room -/
theorem shlP_len {as : List Nat} {n w : Nat} (hl : Lim w as) (hn : n < w) (h0 : 0 < as.length) (ht : (as.getD (as.length - 1) 0 + 1) * 2 ^ n ≤ 2 ^ w) : (shlP as n w).length = as.length := by
  unfold shlP
  rw [if_neg (by omega), Nat.div_eq_of_lt hn, Nat.mod_eq_of_lt hn]
  obtain ⟨h1, h2, h3⟩ := slLoop_val hl (Nat.le_of_lt hn) as.length 0 (List.replicate 0 0) 0 (by omega) Lim.nil (Nat.two_pow_pos n)
  have h4 := slLoop_len as n w as.length 0 (List.replicate 0 0) 0
  generalize slLoop as n w as.length 0 (List.replicate 0 0) 0 = R at *
  obtain ⟨f, c⟩ := R
  dsimp only at *
  simp only [List.replicate_zero, List.length_nil, Nat.mul_zero, Nat.pow_zero, Nat.one_mul, List.drop_zero, val, Nat.zero_add] at h3 h4
  have hv : val w as * 2 ^ n < 2 ^ (w * as.length) := by
    obtain ⟨l, e⟩ : ∃ l, as.length = l + 1 := ⟨_, (Nat.succ_pred_eq_of_pos h0).symm⟩
    have h5 := val_take_succ w (xs := as) (n := l) (by omega)
    rw [List.take_of_length_le (by omega)] at h5
    have h6 := val_lt (hl.take (n := l))
    rw [List.length_take, Nat.min_eq_left (by omega)] at h6
    rw [e, Nat.add_sub_cancel] at ht
    have h7 : val w as < 2 ^ (w * l) * (as.getD l 0 + 1) := by rw [h5, Nat.mul_add, Nat.mul_one]; omega
    have h8 : val w as * 2 ^ n < 2 ^ (w * l) * (as.getD l 0 + 1) * 2 ^ n := Nat.mul_lt_mul_of_pos_right h7 (Nat.two_pow_pos n)
    rw [Nat.mul_assoc] at h8
    have h9 := Nat.mul_le_mul_left (2 ^ (w * l)) ht
    rw [e, pow_split, Nat.mul_comm (2 ^ w)]
    omega
  have hc : c = 0 := by
    apply Nat.eq_zero_of_not_pos
    intro hc
    have : 2 ^ (w * f.length) * 1 ≤ 2 ^ (w * f.length) * c := Nat.mul_le_mul_left _ hc
    rw [h4] at this h3
    rw [Nat.mul_comm (2 ^ n)] at h3
    omega
  rw [hc, if_neg (by omega)]
  exact h4

/-! shift_right -/
theorem getD_drop {xs : List Nat} {a i : Nat} : (xs.drop a).getD i 0 = xs.getD (a + i) 0 := by
  rw [List.getD_eq_getElem?_getD, List.getD_eq_getElem?_getD, List.getElem?_drop]
theorem getD_out {xs : List Nat} {i : Nat} (h : xs.length ≤ i) : xs.getD i 0 = 0 := by
  rw [List.getD_eq_getElem?_getD, List.getElem?_eq_none h]; rfl
theorem val_mod {w : Nat} {xs : List Nat} {few : Nat} (h : few ≤ w) : val w xs % 2 ^ few = xs.getD 0 0 % 2 ^ few := by
  cases xs with
  | nil => simp [val]
  | cons x xs =>
    rw [val, List.getD_cons_zero]
    obtain ⟨k, rfl⟩ := Nat.exists_eq_add_of_le h
    rw [Nat.pow_add, Nat.mul_assoc, Nat.add_mul_mod_self_left]

theorem srOne_eq {as : List Nat} {few w pos : Nat} (hl : Lim w as) (hf : few ≤ w) : srOne as few w pos = as.getD pos 0 / 2 ^ few + 2 ^ (w - few) * (as.getD (pos + 1) 0 % 2 ^ few) := by
  unfold srOne
  have h1 : as.getD pos 0 / 2 ^ few < 2 ^ (w - few) := by
    rw [Nat.div_lt_iff_lt_mul (Nat.two_pow_pos few), ← Nat.pow_add, Nat.sub_add_cancel hf]
    exact hl pos
  rw [or_add h1, mask_mod]
  have e : 2 ^ w = 2 ^ (w - few) * 2 ^ few := by rw [← Nat.pow_add, Nat.sub_add_cancel hf]
  rw [e, Nat.mod_mul, Nat.add_mul_mod_self_right, Nat.mod_eq_of_lt h1, Nat.add_mul_div_right _ _ (Nat.two_pow_pos _), Nat.div_eq_of_lt h1, Nat.zero_add]

theorem srLoop_val {as : List Nat} {few w : Nat} (hl : Lim w as) (hf : few ≤ w) : ∀ n pos f, pos + n = as.length → Lim w f →
    Lim w (srLoop as few w n pos f) ∧ val w (srLoop as few w n pos f) = val w f + 2 ^ (w * f.length) * (val w (as.drop pos) / 2 ^ few)
  | 0, pos, f, hp, h1 => by
    rw [srLoop]
    refine ⟨h1, ?_⟩
    rw [List.drop_eq_nil_of_le (by omega), val, Nat.zero_div]
    simp
  | n + 1, pos, f, hp, h1 => by
    rw [srLoop]
    have hlt : srOne as few w pos < 2 ^ w := by unfold srOne; exact and_lt
    obtain ⟨i1, i2⟩ := srLoop_val hl hf n (pos + 1) (f ++ [srOne as few w pos]) (by omega) (h1.append (Lim.cons hlt Lim.nil))
    refine ⟨i1, ?_⟩
    rw [i2, val_snoc, List.length_append, List.length_singleton, pow_split, val_drop w (by omega : pos < as.length), srOne_eq hl hf]
    have hm := val_mod (xs := as.drop (pos + 1)) hf
    rw [getD_drop, Nat.add_zero] at hm
    rw [← hm]
    have hY := Nat.mod_add_div (val w (as.drop (pos + 1))) (2 ^ few)
    have e : 2 ^ w = 2 ^ few * 2 ^ (w - few) := by rw [← Nat.pow_add, Nat.add_sub_cancel' hf]
    generalize val w (as.drop (pos + 1)) = Y at *
    have e4 : (as.getD pos 0 + 2 ^ w * Y) / 2 ^ few = as.getD pos 0 / 2 ^ few + 2 ^ (w - few) * Y := by
      rw [e, Nat.mul_assoc (2 ^ few), Nat.add_mul_div_left _ _ (Nat.two_pow_pos few)]
    rw [e4, e]
    generalize Y % 2 ^ few = m at *
    generalize Y / 2 ^ few = q at *
    generalize as.getD pos 0 / 2 ^ few = x
    generalize 2 ^ (w * f.length) = P
    generalize 2 ^ (w - few) = G
    generalize 2 ^ few = F at *
    rw [← hY]
    grind

theorem val_div (w : Nat) : ∀ n (xs : List Nat), Lim w xs → val w xs / 2 ^ (w * n) = val w (xs.drop n)
  | 0, xs, _ => by simp
  | n + 1, [], _ => by simp [val]
  | n + 1, x :: xs, h => by
    rw [val, pow_split, ← Nat.div_div_eq_div_mul, Nat.add_mul_div_left _ _ (Nat.two_pow_pos w), Nat.div_eq_of_lt h.head, Nat.zero_add, val_div w n xs h.tail]
    rfl

theorem shrP_val {as : List Nat} {n w : Nat} (hl : Lim w as) (hw : 0 < w) : Lim w (shrP as n w) ∧ val w (shrP as n w) = val w as / 2 ^ n := by
  have hd : w * (n / w) + n % w = n := Nat.div_add_mod n w
  have e : val w as / 2 ^ n = val w (as.drop (n / w)) / 2 ^ (n % w) := by
    rw [← val_div w _ as hl, Nat.div_div_eq_div_mul, ← Nat.pow_add, hd]
  unfold shrP
  by_cases h : n / w ≤ as.length
  · obtain ⟨h1, h2⟩ := srLoop_val hl (Nat.le_of_lt (Nat.mod_lt n hw)) (as.length - n / w) (n / w) [] (by omega) Lim.nil
    refine ⟨h1, ?_⟩
    rw [h2, e]
    simp [val]
  · rw [show as.length - n / w = 0 by omega, srLoop]
    refine ⟨Lim.nil, ?_⟩
    rw [e, List.drop_eq_nil_of_le (by omega), val, Nat.zero_div]

/-! divrem_limb -/
theorem dlLoop_val {as : List Nat} {limb w : Nat} (hl : Lim w as) (h0 : 0 < limb) : ∀ n f r, n ≤ as.length → f.length = as.length → r < limb →
    (dlLoop as limb w n f r).2 < limb ∧ (∀ i, n ≤ i → (dlLoop as limb w n f r).1.getD i 0 = f.getD i 0) ∧ (Lim w f → Lim w (dlLoop as limb w n f r).1) ∧
      val w ((dlLoop as limb w n f r).1.take n) * limb + (dlLoop as limb w n f r).2 = val w (as.take n) + 2 ^ (w * n) * r
  | 0, f, r, _, _, hr => by
    rw [dlLoop]
    exact ⟨hr, fun _ _ => rfl, fun h => h, by simp [val]⟩
  | n + 1, f, r, hn, hf, hr => by
    rw [dlLoop]
    have hx := hl n
    rw [or_add' hx]
    have hq : (r * 2 ^ w + as.getD n 0) / limb < 2 ^ w := by
      rw [Nat.div_lt_iff_lt_mul h0]
      have : (r + 1) * 2 ^ w ≤ limb * 2 ^ w := Nat.mul_le_mul_right _ hr
      rw [Nat.add_mul, Nat.one_mul] at this
      rw [Nat.mul_comm (2 ^ w)]
      omega
    obtain ⟨i1, i2, i3, i4⟩ := dlLoop_val hl h0 n (f.set n ((r * 2 ^ w + as.getD n 0) / limb)) ((r * 2 ^ w + as.getD n 0) % limb) (by omega) (by simpa using hf) (Nat.mod_lt _ h0)
    have hlen := dlLoop_len as limb w n (f.set n ((r * 2 ^ w + as.getD n 0) / limb)) ((r * 2 ^ w + as.getD n 0) % limb)
    rw [List.length_set, hf] at hlen
    have hm := Nat.mod_add_div (r * 2 ^ w + as.getD n 0) limb
    generalize (r * 2 ^ w + as.getD n 0) % limb = r1 at *
    generalize (r * 2 ^ w + as.getD n 0) / limb = q at *
    generalize dlLoop as limb w n (f.set n q) r1 = R at *
    obtain ⟨g, s⟩ := R
    dsimp only at *
    refine ⟨i1, fun i hi => ?_, fun h => i3 (h.set hq), ?_⟩
    · rw [i2 i (by omega), getD_set, if_neg (by omega)]
    · rw [val_take_succ w (by omega : n < g.length), val_take_succ w (by omega : n < as.length), i2 n (Nat.le_refl _), getD_set, if_pos ⟨rfl, by omega⟩, pow_split]
      generalize 2 ^ (w * n) = P at *
      generalize 2 ^ w = B at *
      generalize as.getD n 0 = x at *
      rw [Nat.add_mul, Nat.mul_assoc P q, Nat.mul_comm q limb]
      have e2 : P * r1 + P * (limb * q) = P * (r * B) + P * x := by rw [← Nat.mul_add, hm, Nat.mul_add]
      have e3 : B * P * r = P * (r * B) := by rw [Nat.mul_comm B P, Nat.mul_assoc, Nat.mul_comm B r]
      rw [e3]
      omega

theorem dlP_val {as : List Nat} {limb w : Nat} (hl : Lim w as) (h0 : 0 < limb) : Lim w (dlP as limb w).1 ∧ val w (dlP as limb w).1 = val w as / limb ∧ (dlP as limb w).2 = val w as % limb := by
  obtain ⟨h1, h2, h3, h4⟩ := dlLoop_val hl h0 as.length (List.replicate as.length 0) 0 (Nat.le_refl _) (by simp) h0
  have hlen := dlLoop_len as limb w as.length (List.replicate as.length 0) 0
  rw [List.length_replicate] at hlen
  rw [List.take_of_length_le (by omega), List.take_of_length_le (Nat.le_refl _), Nat.mul_zero, Nat.add_zero] at h4
  refine ⟨h3 Lim.replicate, ?_, ?_⟩
  · rw [← h4, Nat.mul_comm, Nat.mul_add_div h0, Nat.div_eq_of_lt h1]; rfl
  · rw [← h4, Nat.mul_comm, Nat.mul_add_mod, Nat.mod_eq_of_lt h1]
end

section
/-! P3 -/

/-! bits -/
theorem getD_val {w : Nat} : ∀ {xs : List Nat}, Lim w xs → ∀ i, xs.getD i 0 = val w xs / 2 ^ (w * i) % 2 ^ w := by
  intro xs h i
  rw [val_div w i xs h]
  by_cases hi : i < xs.length
  · rw [val_drop w hi, Nat.add_mul_mod_self_left, Nat.mod_eq_of_lt (h i)]
  · rw [getD_out (by omega), List.drop_eq_nil_of_le (by omega), val, Nat.zero_mod]

theorem mod_bit {x w k : Nat} (h : k < w) : x % 2 ^ w / 2 ^ k % 2 = x / 2 ^ k % 2 := by
  have h1 := Nat.testBit_mod_two_pow x w k
  rw [Nat.testBit_eq_decide_div_mod_eq, Nat.testBit_eq_decide_div_mod_eq, decide_eq_true h, Bool.true_and] at h1
  have h2 := decide_eq_decide.mp h1
  have h3 := Nat.mod_two_eq_zero_or_one (x % 2 ^ w / 2 ^ k)
  have h4 := Nat.mod_two_eq_zero_or_one (x / 2 ^ k)
  omega

theorem bitP_eq {w x n : Nat} (hw : 0 < w) : bitP (lim w x) n w = x / 2 ^ n % 2 := by
  have e : bitP (lim w x) n w = ((lim w x).getD (n / w) 0 / 2 ^ (n % w)) % 2 := by
    unfold bitP
    split
    · exact Nat.and_one_is_mod _
    · rw [getD_out (by omega)]; simp
  rw [e, getD_val (Lim_lim hw x), val_lim hw, mod_bit (Nat.mod_lt n hw), Nat.div_div_eq_div_mul, ← Nat.pow_add, Nat.div_add_mod]

theorem bitLen_spec {x : Nat} (h : 0 < x) : 0 < bitLen x ∧ 2 ^ (bitLen x - 1) ≤ x ∧ x < 2 ^ bitLen x := by
  unfold bitLen
  rw [if_neg (by omega)]
  exact ⟨by omega, Nat.log2_self_le (by omega), Nat.lt_log2_self⟩
theorem bitLen_unique {x n : Nat} (h0 : 0 < n) (h1 : 2 ^ (n - 1) ≤ x) (h2 : x < 2 ^ n) : bitLen x = n := by
  have hx : 0 < x := Nat.lt_of_lt_of_le (Nat.two_pow_pos _) h1
  obtain ⟨a, b, c⟩ := bitLen_spec hx
  have h3 : 2 ^ (bitLen x - 1) < 2 ^ n := by omega
  have h4 : 2 ^ (n - 1) < 2 ^ bitLen x := by omega
  have h5 := (Nat.pow_lt_pow_iff_right (by decide : 1 < 2)).mp h3
  have h6 := (Nat.pow_lt_pow_iff_right (by decide : 1 < 2)).mp h4
  omega
theorem bitLen_le {x w : Nat} (h : x < 2 ^ w) : bitLen x ≤ w := by
  by_cases h0 : x = 0
  · subst h0; simp [bitLen]
  · obtain ⟨a, b, c⟩ := bitLen_spec (Nat.pos_of_ne_zero h0)
    have h3 : 2 ^ (bitLen x - 1) < 2 ^ w := by omega
    have h5 := (Nat.pow_lt_pow_iff_right (by decide : 1 < 2)).mp h3
    omega

theorem val_top {w : Nat} {xs : List Nat} (h : Lim w xs) (h0 : 0 < xs.length) :
    2 ^ (w * (xs.length - 1)) * xs.getD (xs.length - 1) 0 ≤ val w xs ∧ val w xs < 2 ^ (w * (xs.length - 1)) * (xs.getD (xs.length - 1) 0 + 1) := by
  obtain ⟨l, e⟩ : ∃ l, xs.length = l + 1 := ⟨_, (Nat.succ_pred_eq_of_pos h0).symm⟩
  have h5 := val_take_succ w (xs := xs) (n := l) (by omega)
  rw [List.take_of_length_le (by omega)] at h5
  have h6 := val_lt (h.take (n := l))
  rw [List.length_take, Nat.min_eq_left (by omega)] at h6
  rw [e, Nat.add_sub_cancel, Nat.mul_add, Nat.mul_one]
  omega

theorem bitsP_eq {w x : Nat} (hw : 0 < w) : bitsP (lim w x) w = bitLen x := by
  unfold bitsP
  by_cases h0 : x = 0
  · subst h0; rw [lim_zero]; rfl
  · have hl : 0 < (lim w x).length := Nat.pos_of_ne_zero fun h => h0 ((lim_len0 hw).mp h)
    rw [if_pos hl]
    rcases Nrm_lim hw x with h | h
    · omega
    · obtain ⟨a, b⟩ := val_top (Lim_lim hw x) hl
      rw [val_lim hw] at a b
      obtain ⟨c1, c2, c3⟩ := bitLen_spec h
      generalize (lim w x).getD ((lim w x).length - 1) 0 = t at *
      symm
      apply bitLen_unique
      · omega
      · refine Nat.le_trans ?_ a
        rw [Nat.add_sub_assoc (by omega), Nat.pow_add, Nat.mul_comm w]
        exact Nat.mul_le_mul_left _ c2
      · refine Nat.lt_of_lt_of_le b ?_
        rw [Nat.pow_add, Nat.mul_comm w]
        exact Nat.mul_le_mul_left _ c3

theorem evenP_eq {w x : Nat} (hw : 0 < w) : evenP (lim w x) = decide (x % 2 = 0) := by
  unfold evenP
  by_cases h0 : x = 0
  · subst h0; rw [lim_zero]; rfl
  · have hl : ¬ (lim w x).length = 0 := fun h => h0 ((lim_len0 hw).mp h)
    rw [if_neg hl, getD_val (Lim_lim hw x), val_lim hw, Nat.mul_zero, Nat.pow_zero, Nat.div_one, Nat.and_one_is_mod]
    have := mod_bit (x := x) hw
    rw [Nat.pow_zero, Nat.div_one, Nat.div_one] at this
    rw [this]

/-! compare -/
theorem cmpLoop_val {w : Nat} {as bs : List Nat} (ha : Lim w as) (hb : Lim w bs) : ∀ n, n ≤ as.length → n ≤ bs.length →
    cmpLoop as bs n = (if val w (as.take n) < val w (bs.take n) then -1 else if val w (as.take n) = val w (bs.take n) then 0 else 1)
  | 0, _, _ => by simp [cmpLoop, val]
  | n + 1, h1, h2 => by
    rw [cmpLoop, cmpLoop_val ha hb n (by omega) (by omega), val_take_succ w (by omega : n < as.length), val_take_succ w (by omega : n < bs.length)]
    have h3 := val_lt (ha.take (n := n))
    have h4 := val_lt (hb.take (n := n))
    rw [List.length_take, Nat.min_eq_left (by omega)] at h3 h4
    generalize val w (as.take n) = A at *
    generalize val w (bs.take n) = B at *
    generalize as.getD n 0 = x
    generalize bs.getD n 0 = y
    generalize 2 ^ (w * n) = P at *
    by_cases hxy : x = y
    · subst hxy
      rw [if_neg (by simp)]
      by_cases h5 : A < B
      · rw [if_pos h5, if_pos (by omega)]
      · rw [if_neg h5, if_neg (show ¬ A + P * x < B + P * x by omega)]
        by_cases h6 : A = B
        · rw [if_pos h6, if_pos (by omega)]
        · rw [if_neg h6, if_neg (by omega)]
    · rw [if_pos hxy]
      by_cases h5 : x < y
      · have h6 : P * (x + 1) ≤ P * y := Nat.mul_le_mul_left _ h5
        rw [Nat.mul_add, Nat.mul_one] at h6
        rw [if_pos h5, if_pos (by omega)]
      · have h6 : P * (y + 1) ≤ P * x := Nat.mul_le_mul_left _ (by omega)
        rw [Nat.mul_add, Nat.mul_one] at h6
        rw [if_neg h5, if_neg (by omega), if_neg (by omega)]

theorem cmpP_eq {w x y : Nat} (hw : 0 < w) : cmpP (lim w x) (lim w y) = (if x < y then -1 else if x = y then 0 else 1) := by
  have key : ∀ {x y : Nat}, (lim w x).length < (lim w y).length → x < y := by
    intro x y h
    have h1 := val_lt (Lim_lim hw x)
    rw [val_lim hw] at h1
    rcases Nrm_lim hw y with h2 | h2
    · omega
    · have h3 := (val_top (Lim_lim hw y) (by omega)).1
      rw [val_lim hw] at h3
      have h4 : 2 ^ (w * (lim w x).length) ≤ 2 ^ (w * ((lim w y).length - 1)) := Nat.pow_le_pow_right (by decide) (Nat.mul_le_mul_left _ (by omega))
      have h5 : 2 ^ (w * ((lim w y).length - 1)) * 1 ≤ 2 ^ (w * ((lim w y).length - 1)) * (lim w y).getD ((lim w y).length - 1) 0 := Nat.mul_le_mul_left _ h2
      omega
  unfold cmpP
  by_cases h : (lim w x).length = (lim w y).length
  · rw [if_neg (by simpa using h), cmpLoop_val (Lim_lim hw x) (Lim_lim hw y) _ (Nat.le_refl _) (by omega), List.take_of_length_le (Nat.le_refl _), List.take_of_length_le (by omega), val_lim hw, val_lim hw]
  · rw [if_pos h]
    by_cases h1 : (lim w x).length < (lim w y).length
    · rw [if_pos h1, if_pos (key h1)]
    · have := key (show (lim w y).length < (lim w x).length by omega)
      rw [if_neg h1, if_neg (by omega), if_neg (by omega)]

/-! trailing -/
noncomputable def tzF : Nat → Nat → Nat
  | 0, _ => 0
  | f + 1, x => if x % 2 = 1 then 0 else tzF f (x / 2) + 1
/-- noughts at the end of a number below 2 ^ 20 -/
noncomputable def tz (x : Nat) : Nat := tzF 20 x
theorem tzF_spec : ∀ f x, 0 < x → x < 2 ^ f → x % 2 ^ tzF f x = 0 ∧ x / 2 ^ tzF f x % 2 = 1
  | 0, x, h1, h2 => by omega
  | f + 1, x, h1, h2 => by
    rw [tzF]
    split
    · rename_i h; simp [h, Nat.mod_one]
    · obtain ⟨i1, i2⟩ := tzF_spec f (x / 2) (by omega) (by rw [Nat.pow_succ] at h2; omega)
      rw [Nat.pow_succ, Nat.mul_comm]
      refine ⟨?_, ?_⟩
      · rw [Nat.mod_mul, i1]; omega
      · rw [← Nat.div_div_eq_div_mul]; exact i2
theorem tz_unique {x s t : Nat} (h1 : x % 2 ^ s = 0) (h2 : x / 2 ^ s % 2 = 1) (h3 : x % 2 ^ t = 0) (h4 : x / 2 ^ t % 2 = 1) : s = t := by
  have key : ∀ {s t : Nat}, x / 2 ^ s % 2 = 1 → x % 2 ^ t = 0 → ¬ s < t := by
    intro s t a b h
    obtain ⟨k, rfl⟩ : ∃ k, t = s + 1 + k := ⟨t - (s + 1), by omega⟩
    have e := Nat.mod_add_div x (2 ^ (s + 1 + k))
    rw [b, Nat.zero_add] at e
    rw [← e, Nat.pow_add, Nat.pow_succ, Nat.mul_assoc, Nat.mul_assoc, Nat.mul_div_cancel_left _ (Nat.two_pow_pos s), Nat.mul_mod_right] at a
    cases a
  have a := key h2 h3
  have b := key h4 h1
  omega

theorem lowP_spec {x : Nat} (h : x < 256) (h0 : 0 < x) : 0 < bitLen (lowP x) ∧ x % 2 ^ (bitLen (lowP x) - 1) = 0 ∧ x / 2 ^ (bitLen (lowP x) - 1) % 2 = 1 ∧ bitLen (lowP x) - 1 < 8 := by
  have : ∀ x < 256, 0 < x → 0 < bitLen (lowP x) ∧ x % 2 ^ (bitLen (lowP x) - 1) = 0 ∧ x / 2 ^ (bitLen (lowP x) - 1) % 2 = 1 ∧ bitLen (lowP x) - 1 < 8 := by decide +kernel
  exact this x h h0

theorem trailP_spec {as : List Nat} {w : Nat} (hl : Lim w as) (hw8 : w ≤ 8) : ∀ n pos, pos + n = as.length → 0 < val w (as.drop pos) →
    pos * w ≤ trailP as w n pos ∧ val w (as.drop pos) % 2 ^ (trailP as w n pos - pos * w) = 0 ∧ val w (as.drop pos) / 2 ^ (trailP as w n pos - pos * w) % 2 = 1
  | 0, pos, hp, h0 => by rw [List.drop_eq_nil_of_le (by omega), val] at h0; omega
  | n + 1, pos, hp, h0 => by
    have hd := val_drop w (by omega : pos < as.length)
    rw [hd] at h0 ⊢
    have hx := hl pos
    have hB : 2 ^ w ≤ 2 ^ 8 := Nat.pow_le_pow_right (by decide) hw8
    unfold trailP
    split
    · rename_i hpos
      obtain ⟨a1, a2, a3, a4⟩ := lowP_spec (x := as.getD pos 0) (by omega) hpos
      have e : pos * w + bitLen (lowP (as.getD pos 0)) - 1 - pos * w = bitLen (lowP (as.getD pos 0)) - 1 := by omega
      rw [e]
      refine ⟨by omega, ?_⟩
      generalize bitLen (lowP (as.getD pos 0)) - 1 = t at *
      have ht : t < w := by
        refine Nat.lt_of_not_le fun h => ?_
        have : 2 ^ w ≤ 2 ^ t := Nat.pow_le_pow_right (by decide) h
        rw [Nat.div_eq_of_lt (by omega)] at a3
        cases a3
      obtain ⟨k, rfl⟩ : ∃ k, w = t + 1 + k := ⟨w - (t + 1), by omega⟩
      rw [show 2 ^ (t + 1 + k) = 2 ^ t * (2 * 2 ^ k) by rw [Nat.pow_add, Nat.pow_succ, Nat.mul_assoc], Nat.mul_assoc]
      refine ⟨by rw [Nat.add_mul_mod_self_left]; exact a2, ?_⟩
      rw [Nat.add_mul_div_left _ _ (Nat.two_pow_pos t), Nat.mul_assoc, Nat.add_mul_mod_self_left]
      exact a3
    · rename_i hpos
      have hz : as.getD pos 0 = 0 := by omega
      rw [hz, Nat.zero_add] at h0 ⊢
      have h1 : 0 < val w (as.drop (pos + 1)) := Nat.pos_of_mul_pos_left h0
      obtain ⟨i1, i2, i3⟩ := trailP_spec hl hw8 n (pos + 1) (by omega) h1
      rw [Nat.add_mul, Nat.one_mul] at i1 i2 i3
      generalize trailP as w n (pos + 1) = T at *
      obtain ⟨k, rfl⟩ : ∃ k, T = pos * w + w + k := ⟨T - (pos * w + w), by omega⟩
      rw [show pos * w + w + k - (pos * w + w) = k by omega] at i2 i3
      rw [show pos * w + w + k - pos * w = w + k by omega, Nat.pow_add]
      refine ⟨by omega, ?_, ?_⟩
      · rw [Nat.mul_mod_mul_left, i2, Nat.mul_zero]
      · rw [Nat.mul_div_mul_left _ _ (Nat.two_pow_pos w)]; exact i3

theorem trailP_eq {w x : Nat} (hw : 0 < w) (hw8 : w ≤ 8) (h0 : 0 < x) (h1 : x < 2 ^ 20) : trailP (lim w x) w (lim w x).length 0 = tz x := by
  have h := trailP_spec (Lim_lim hw x) hw8 (lim w x).length 0 (by omega) (by rw [List.drop_zero, val_lim hw]; exact h0)
  rw [List.drop_zero, val_lim hw, Nat.zero_mul, Nat.sub_zero] at h
  obtain ⟨a, b⟩ := tzF_spec 20 x h0 h1
  exact tz_unique h.2.1 h.2.2 a b
end

section
/-! P4 -/

/-! mul -/
theorem muladd_lt {B c f l b : Nat} (hc : c < B) (hf : f < B) (hl : l < B) (hb : b < B) : (c + (f + l * b)) / B < B := by
  have hB : 0 < B := by omega
  rw [Nat.div_lt_iff_lt_mul hB]
  obtain ⟨k, rfl⟩ : ∃ k, B = k + 1 := ⟨B - 1, by omega⟩
  have h1 : l * b ≤ k * k := Nat.mul_le_mul (by omega) (by omega)
  have h2 : (k + 1) * (k + 1) = k * k + k + (k + 1) := by grind
  omega

theorem mulRow_val {bs : List Nat} {w limb at' : Nat} (hb : Lim w bs) (hl : limb < 2 ^ w) : ∀ n pos f c, pos + n = bs.length → Lim w f → c < 2 ^ w → at' + bs.length ≤ f.length →
    Lim w (mulRow bs w limb at' n pos f c).1 ∧ (mulRow bs w limb at' n pos f c).2 < 2 ^ w ∧ (∀ i, at' + bs.length ≤ i → (mulRow bs w limb at' n pos f c).1.getD i 0 = f.getD i 0) ∧
      val w (mulRow bs w limb at' n pos f c).1 + 2 ^ (w * (at' + bs.length)) * (mulRow bs w limb at' n pos f c).2 = val w f + 2 ^ (w * (at' + pos)) * (c + limb * val w (bs.drop pos))
  | 0, pos, f, c, hp, h1, h2, h3 => by
    rw [mulRow]
    refine ⟨h1, h2, fun _ _ => rfl, ?_⟩
    rw [List.drop_eq_nil_of_le (by omega), val, show at' + bs.length = at' + pos by omega]
    simp
  | n + 1, pos, f, c, hp, h1, h2, h3 => by
    rw [mulRow, mask_mod]
    have hB := Nat.two_pow_pos w
    have hc := muladd_lt h2 (h1 (at' + pos)) hl (hb pos)
    have hm := Nat.mod_add_div (c + (f.getD (at' + pos) 0 + limb * bs.getD pos 0)) (2 ^ w)
    have hml := Nat.mod_lt (c + (f.getD (at' + pos) 0 + limb * bs.getD pos 0)) hB
    generalize (c + (f.getD (at' + pos) 0 + limb * bs.getD pos 0)) % 2 ^ w = m at *
    generalize (c + (f.getD (at' + pos) 0 + limb * bs.getD pos 0)) / 2 ^ w = q at *
    obtain ⟨i1, i2, i3, i4⟩ := mulRow_val (at' := at') hb hl n (pos + 1) (f.set (at' + pos) m) q (by omega) (h1.set hml) hc (by simpa using h3)
    refine ⟨i1, i2, fun i hi => ?_, ?_⟩
    · rw [i3 i hi, getD_set, if_neg (by omega)]
    · rw [i4, val_drop w (by omega : pos < bs.length), show at' + (pos + 1) = at' + pos + 1 by omega, pow_split]
      have hs := val_set w (xs := f) (i := at' + pos) (v := m) (by omega)
      generalize val w (f.set (at' + pos) m) = F1 at *
      generalize val w (bs.drop (pos + 1)) = Y at *
      generalize 2 ^ (w * (at' + pos)) = P at *
      generalize 2 ^ w = B at *
      generalize f.getD (at' + pos) 0 = x at *
      generalize bs.getD pos 0 = y at *
      generalize val w f = F at *
      have e1 : P * m + P * (B * q) = P * (c + (x + limb * y)) := by rw [← Nat.mul_add, hm]
      grind

theorem mulRows_val {as bs : List Nat} {w : Nat} (ha : Lim w as) (hb : Lim w bs) : ∀ n pos f, pos + n = as.length → f.length = as.length + bs.length → Lim w f → (∀ i, pos + bs.length ≤ i → f.getD i 0 = 0) →
    Lim w (mulRows as bs w n pos f) ∧ val w (mulRows as bs w n pos f) = val w f + 2 ^ (w * pos) * (val w (as.drop pos) * val w bs)
  | 0, pos, f, hp, hf, h1, h2 => by
    rw [mulRows]
    refine ⟨h1, ?_⟩
    rw [List.drop_eq_nil_of_le (by omega), val]
    simp
  | n + 1, pos, f, hp, hf, h1, h2 => by
    rw [mulRows]
    obtain ⟨a1, a2, a3, a4⟩ := mulRow_val (at' := pos) hb (ha pos) bs.length 0 f 0 (by omega) h1 (Nat.two_pow_pos w) (by omega)
    have a5 := mulRow_len bs w (as.getD pos 0) pos bs.length 0 f 0
    generalize mulRow bs w (as.getD pos 0) pos bs.length 0 f 0 = R at *
    obtain ⟨g, s⟩ := R
    dsimp only at *
    have a6 := a3 (pos + bs.length) (by omega)
    rw [h2 _ (by omega)] at a6
    have a7 := val_set w (xs := g) (i := pos + bs.length) (v := s) (by omega)
    rw [a6, Nat.mul_zero, Nat.add_zero] at a7
    obtain ⟨i1, i2⟩ := mulRows_val ha hb n (pos + 1) (g.set (pos + bs.length) s) (by omega) (by simp; omega) (a1.set a2) (fun i hi => by rw [getD_set, if_neg (by omega), a3 i (by omega), h2 i (by omega)])
    refine ⟨i1, ?_⟩
    rw [i2, a7, a4, Nat.add_zero, List.drop_zero, Nat.zero_add, val_drop w (by omega : pos < as.length), pow_split]
    generalize val w (as.drop (pos + 1)) = Y at *
    generalize 2 ^ (w * pos) = P at *
    generalize 2 ^ w = B at *
    generalize as.getD pos 0 = x at *
    generalize val w f = F at *
    generalize val w bs = V at *
    grind

theorem mulP_val {as bs : List Nat} {w : Nat} (ha : Lim w as) (hb : Lim w bs) : Lim w (mulP as bs w) ∧ val w (mulP as bs w) = val w as * val w bs := by
  obtain ⟨h1, h2⟩ := mulRows_val ha hb as.length 0 (List.replicate (as.length + bs.length) 0) (by omega) (by simp) Lim.replicate (fun i _ => by
    rw [List.getD_eq_getElem?_getD, List.getElem?_replicate]; split <;> rfl)
  refine ⟨h1, ?_⟩
  unfold mulP
  rw [h2, val_replicate]
  simp

theorem mul_eq {w x y : Nat} (hw : 0 < w) : normalP (mulP (lim w x) (lim w y) w) = lim w (x * y) := by
  obtain ⟨h1, h2⟩ := mulP_val (Lim_lim hw x) (Lim_lim hw y)
  rw [normalP_eq hw h1, h2, val_lim hw, val_lim hw]

/-! take_away, put_back -/
theorem tkRow_val {bs : List Nat} {w limb at' : Nat} (hb : Lim w bs) (hl : limb < 2 ^ w) : ∀ n pos f c, pos + n = bs.length → Lim w f → c < 2 ^ w → at' + bs.length ≤ f.length →
    (∀ i, i < at' + pos ∨ at' + bs.length ≤ i → (tkRow bs w limb at' n pos f c).1.getD i 0 = f.getD i 0) ∧
      val w (tkRow bs w limb at' n pos f c).1 + 2 ^ (w * (at' + pos)) * (c + limb * val w (bs.drop pos)) = val w f + 2 ^ (w * (at' + bs.length)) * (tkRow bs w limb at' n pos f c).2
  | 0, pos, f, c, hp, h1, h2, h3 => by
    rw [tkRow]
    refine ⟨fun _ _ => rfl, ?_⟩
    rw [List.drop_eq_nil_of_le (by omega), val, show at' + bs.length = at' + pos by omega]
    simp
  | n + 1, pos, f, c, hp, h1, h2, h3 => by
    rw [tkRow]
    have hB := Nat.two_pow_pos w
    have hc := tkC_lt (r := f.getD (at' + pos) 0) hl (hb pos) h2
    have hv := tkV_lt (t := limb * bs.getD pos 0 + c) (h1 (at' + pos))
    have hx := h1 (at' + pos)
    have hm := Nat.mod_add_div (limb * bs.getD pos 0 + c) (2 ^ w)
    have hml := Nat.mod_lt (limb * bs.getD pos 0 + c) hB
    have key : tkV (f.getD (at' + pos) 0) (limb * bs.getD pos 0 + c) w + (limb * bs.getD pos 0 + c) = f.getD (at' + pos) 0 + 2 ^ w * tkC (f.getD (at' + pos) 0) (limb * bs.getD pos 0 + c) w := by
      unfold tkV tkC
      rw [Nat.one_mul]
      generalize limb * bs.getD pos 0 + c = t at *
      split
      · rw [Nat.mul_add, Nat.mul_one]; omega
      · rw [Nat.add_zero]; omega
    generalize tkV (f.getD (at' + pos) 0) (limb * bs.getD pos 0 + c) w = v at *
    generalize tkC (f.getD (at' + pos) 0) (limb * bs.getD pos 0 + c) w = c' at *
    obtain ⟨i3, i4⟩ := tkRow_val (at' := at') hb hl n (pos + 1) (f.set (at' + pos) v) c' (by omega) (h1.set hv) hc (by simpa using h3)
    refine ⟨fun i hi => ?_, ?_⟩
    · rw [i3 i (by omega), getD_set, if_neg (by omega)]
    · rw [val_drop w (by omega : pos < bs.length)]
      rw [show at' + (pos + 1) = at' + pos + 1 by omega, pow_split] at i4
      have hs := val_set w (xs := f) (i := at' + pos) (v := v) (by omega)
      generalize val w (tkRow bs w limb at' n (pos + 1) (f.set (at' + pos) v) c').1 = G at *
      generalize (tkRow bs w limb at' n (pos + 1) (f.set (at' + pos) v) c').2 = s at *
      generalize val w (f.set (at' + pos) v) = F1 at *
      generalize val w (bs.drop (pos + 1)) = Y at *
      generalize 2 ^ (w * (at' + pos)) = P at *
      generalize 2 ^ (w * (at' + bs.length)) = Q at *
      generalize 2 ^ w = B at *
      generalize f.getD (at' + pos) 0 = x at *
      generalize bs.getD pos 0 = y at *
      generalize val w f = F at *
      have e1 : P * v + P * (limb * y + c) = P * x + P * (B * c') := by rw [← Nat.mul_add, key, Nat.mul_add]
      grind

theorem takeP_val {r bs : List Nat} {w limb at' : Nat} (hr : Lim w r) (hb : Lim w bs) (hl : limb < 2 ^ w) (hat : at' + bs.length < r.length) :
    (takeP r bs limb at' w).2 ≤ 1 ∧ (∀ i, i < at' ∨ at' + bs.length < i → (takeP r bs limb at' w).1.getD i 0 = r.getD i 0) ∧
      val w (takeP r bs limb at' w).1 + 2 ^ (w * at') * (limb * val w bs) = val w r + 2 ^ (w * (at' + bs.length + 1)) * (takeP r bs limb at' w).2 := by
  obtain ⟨h1, h2⟩ := tkRow_val (at' := at') hb hl bs.length 0 r 0 (by omega) hr (Nat.two_pow_pos w) (by omega)
  obtain ⟨h3, h4⟩ := tkRow_lim (at' := at') hl hb bs.length 0 r 0 hr (Nat.two_pow_pos w)
  have h5 := tkRow_len bs w limb at' bs.length 0 r 0
  unfold takeP
  generalize tkRow bs w limb at' bs.length 0 r 0 = R at *
  obtain ⟨g, s⟩ := R
  dsimp only at *
  have h6 := h3 (at' + bs.length)
  rw [List.drop_zero, Nat.add_zero, Nat.zero_add] at h2
  refine ⟨by split <;> omega, fun i hi => ?_, ?_⟩
  · rw [getD_set, if_neg (by omega), h1 i (by omega)]
  · have h7 := val_set w (xs := g) (i := at' + bs.length) (v := if g.getD (at' + bs.length) 0 < s then g.getD (at' + bs.length) 0 + 1 * 2 ^ w - s else g.getD (at' + bs.length) 0 - s) (by omega)
    have h8 : (if g.getD (at' + bs.length) 0 < s then g.getD (at' + bs.length) 0 + 1 * 2 ^ w - s else g.getD (at' + bs.length) 0 - s) + s = g.getD (at' + bs.length) 0 + 2 ^ w * (if g.getD (at' + bs.length) 0 < s then 1 else 0) := by
      split <;> omega
    generalize (if g.getD (at' + bs.length) 0 < s then g.getD (at' + bs.length) 0 + 1 * 2 ^ w - s else g.getD (at' + bs.length) 0 - s) = v at *
    generalize (if g.getD (at' + bs.length) 0 < s then 1 else 0) = e at *
    rw [pow_split]
    generalize val w (g.set (at' + bs.length) v) = G1 at *
    generalize val w g = G at *
    generalize val w r = R at *
    generalize val w bs = V at *
    generalize g.getD (at' + bs.length) 0 = x at *
    generalize 2 ^ (w * (at' + bs.length)) = Q at *
    generalize 2 ^ (w * at') = P at *
    generalize 2 ^ w = B at *
    have e1 : Q * v + Q * s = Q * x + Q * (B * e) := by rw [← Nat.mul_add, h8, Nat.mul_add]
    grind

theorem putRow_val {bs : List Nat} {w at' : Nat} (hb : Lim w bs) : ∀ n pos f c, pos + n = bs.length → at' + bs.length ≤ f.length →
    (∀ i, i < at' + pos ∨ at' + bs.length ≤ i → (putRow bs w at' n pos f c).1.getD i 0 = f.getD i 0) ∧
      val w (putRow bs w at' n pos f c).1 + 2 ^ (w * (at' + bs.length)) * (putRow bs w at' n pos f c).2 = val w f + 2 ^ (w * (at' + pos)) * (c + val w (bs.drop pos))
  | 0, pos, f, c, hp, h3 => by
    rw [putRow]
    refine ⟨fun _ _ => rfl, ?_⟩
    rw [List.drop_eq_nil_of_le (by omega), val, show at' + bs.length = at' + pos by omega]
    simp
  | n + 1, pos, f, c, hp, h3 => by
    rw [putRow, mask_mod]
    have hm := Nat.mod_add_div (c + (f.getD (at' + pos) 0 + bs.getD pos 0)) (2 ^ w)
    generalize (c + (f.getD (at' + pos) 0 + bs.getD pos 0)) % 2 ^ w = m at *
    generalize (c + (f.getD (at' + pos) 0 + bs.getD pos 0)) / 2 ^ w = q at *
    obtain ⟨i3, i4⟩ := putRow_val (at' := at') hb n (pos + 1) (f.set (at' + pos) m) q (by omega) (by simpa using h3)
    refine ⟨fun i hi => ?_, ?_⟩
    · rw [i3 i (by omega), getD_set, if_neg (by omega)]
    · rw [i4, val_drop w (by omega : pos < bs.length), show at' + (pos + 1) = at' + pos + 1 by omega, pow_split]
      have hs := val_set w (xs := f) (i := at' + pos) (v := m) (by omega)
      generalize val w (f.set (at' + pos) m) = F1 at *
      generalize val w (bs.drop (pos + 1)) = Y at *
      generalize 2 ^ (w * (at' + pos)) = P at *
      generalize 2 ^ w = B at *
      generalize f.getD (at' + pos) 0 = x at *
      generalize bs.getD pos 0 = y at *
      generalize val w f = F at *
      have e1 : P * m + P * (B * q) = P * (c + (x + y)) := by rw [← Nat.mul_add, hm]
      grind

theorem putP_val {r bs : List Nat} {w at' : Nat} (hb : Lim w bs) (hat : at' + bs.length < r.length) :
    ∃ e, (∀ i, i < at' ∨ at' + bs.length < i → (putP r bs at' w).getD i 0 = r.getD i 0) ∧
      val w (putP r bs at' w) + 2 ^ (w * (at' + bs.length + 1)) * e = val w r + 2 ^ (w * at') * val w bs := by
  obtain ⟨h1, h2⟩ := putRow_val (at' := at') hb bs.length 0 r 0 (by omega) (by omega)
  have h5 := putRow_len bs w at' bs.length 0 r 0
  unfold putP
  rw [mask_mod]
  generalize putRow bs w at' bs.length 0 r 0 = R at *
  obtain ⟨g, s⟩ := R
  dsimp only at *
  rw [List.drop_zero, Nat.add_zero, Nat.zero_add] at h2
  have hm := Nat.mod_add_div (g.getD (at' + bs.length) 0 + s) (2 ^ w)
  refine ⟨(g.getD (at' + bs.length) 0 + s) / 2 ^ w, fun i hi => ?_, ?_⟩
  · rw [getD_set, if_neg (by omega), h1 i (by omega)]
  · generalize (g.getD (at' + bs.length) 0 + s) % 2 ^ w = v at *
    generalize (g.getD (at' + bs.length) 0 + s) / 2 ^ w = e at *
    have h7 := val_set w (xs := g) (i := at' + bs.length) (v := v) (by omega)
    rw [pow_split]
    generalize val w (g.set (at' + bs.length) v) = G1 at *
    generalize val w g = G at *
    generalize val w r = R at *
    generalize val w bs = V at *
    generalize g.getD (at' + bs.length) 0 = x at *
    generalize 2 ^ (w * (at' + bs.length)) = Q at *
    generalize 2 ^ (w * at') = P at *
    generalize 2 ^ w = B at *
    have e1 : Q * v + Q * (B * e) = Q * x + Q * s := by rw [← Nat.mul_add, hm, Nat.mul_add]
    grind
end

section
/-! P5 -/

/-! the guess -/
theorem glLoop_eq {w t0 v1 v2 high : Nat} (h0 : t0 < 2 ^ w) (h2 : v2 < 2 ^ w) (hV : 0 < v1) : ∀ l, l < 2 ^ w → l * v1 ≤ high →
    glLoop (1 * 2 ^ w) t0 v1 v2 w l (high - l * v1) = min l ((high * 2 ^ w + t0) / (v1 * 2 ^ w + v2))
  | 0, _, _ => by simp [glLoop]
  | l + 1, hl, hle => by
    have hB := Nat.two_pow_pos w
    rw [glLoop, or_add' h0]
    have hV2 : 0 < v1 * 2 ^ w + v2 := by
      have : 1 * 2 ^ w ≤ v1 * 2 ^ w := Nat.mul_le_mul_right _ hV
      omega
    have e1 : (l + 1) * v1 = l * v1 + v1 := by rw [Nat.add_mul, Nat.one_mul]
    have ih := glLoop_eq (high := high) h0 h2 hV l (by omega) (by omega)
    have er : high - (l + 1) * v1 + v1 = high - l * v1 := by omega
    rw [er, ih]
    have key : (high - (l + 1) * v1 < 1 * 2 ^ w ∧ (high - (l + 1) * v1) * 2 ^ w + t0 < (l + 1) * v2) ↔ (high * 2 ^ w + t0) / (v1 * 2 ^ w + v2) < l + 1 := by
      rw [Nat.div_lt_iff_lt_mul hV2]
      obtain ⟨rest, hrest⟩ : ∃ rest, high = (l + 1) * v1 + rest := ⟨high - (l + 1) * v1, by omega⟩
      rw [hrest, Nat.add_sub_cancel_left, Nat.one_mul]
      generalize 2 ^ w = B at *
      have e2 : ((l + 1) * v1 + rest) * B + t0 < (l + 1) * (v1 * B + v2) ↔ rest * B + t0 < (l + 1) * v2 := by
        rw [Nat.add_mul, Nat.mul_add, Nat.mul_assoc (l + 1)]
        omega
      rw [e2]
      refine ⟨fun h => h.2, fun h => ⟨Nat.lt_of_not_le fun hge => ?_, h⟩⟩
      have h3 : B * B ≤ rest * B := Nat.mul_le_mul_right _ hge
      have h4 : (l + 1) * v2 ≤ B * B := Nat.mul_le_mul (by omega) (by omega)
      omega
    generalize (high * 2 ^ w + t0) / (v1 * 2 ^ w + v2) = q at *
    by_cases h : q < l + 1
    · rw [if_pos (key.mpr h)]; omega
    · rw [if_neg fun h' => h (key.mp h')]; omega

theorem guessP_eq {t : List Nat} {w v1 v2 : Nat} (ht : Lim w t) (h2 : v2 < 2 ^ w) (hV : 0 < v1) :
    guessP t v1 v2 w = min (2 ^ w - 1) (((t.getD 2 0 * 2 ^ w + t.getD 1 0) * 2 ^ w + t.getD 0 0) / (v1 * 2 ^ w + v2)) := by
  have hB := Nat.two_pow_pos w
  unfold guessP
  have e : glHigh t w = t.getD 2 0 * 2 ^ w + t.getD 1 0 := or_add' (ht 1)
  have hl : glLimb t v1 w ≤ 1 * 2 ^ w - 1 := Nat.min_le_right _ _
  have hm : glLimb t v1 w * v1 ≤ glHigh t w := Nat.le_trans (Nat.mul_le_mul_right _ (Nat.min_le_left _ _)) (Nat.div_mul_le_self _ _)
  rw [glLoop_eq (ht 0) h2 hV _ (by omega) hm, e]
  unfold glLimb
  rw [e]
  have hV2 : 0 < v1 * 2 ^ w + v2 := by
    have : 1 * 2 ^ w ≤ v1 * 2 ^ w := Nat.mul_le_mul_right _ hV
    omega
  have h5 : ((t.getD 2 0 * 2 ^ w + t.getD 1 0) * 2 ^ w + t.getD 0 0) / (v1 * 2 ^ w + v2) ≤ (t.getD 2 0 * 2 ^ w + t.getD 1 0) / v1 := by
    have h0 := ht 0
    generalize t.getD 2 0 * 2 ^ w + t.getD 1 0 = high
    generalize t.getD 0 0 = t0 at *
    generalize 2 ^ w = B at *
    rw [Nat.le_div_iff_mul_le hV]
    have h6 := Nat.div_mul_le_self (high * B + t0) (v1 * B + v2)
    generalize (high * B + t0) / (v1 * B + v2) = q at *
    have h7 : q * v1 * B < (high + 1) * B := by
      rw [Nat.mul_add, ← Nat.mul_assoc] at h6
      rw [Nat.add_mul, Nat.one_mul]
      omega
    have := Nat.lt_of_mul_lt_mul_right h7
    omega
  omega

theorem val_drop_lt {w n m : Nat} {xs : List Nat} (h : Lim w xs) (hz : ∀ i, n + m ≤ i → xs.getD i 0 = 0) : val w (xs.drop n) < 2 ^ (w * m) := by
  by_cases hl : m ≤ (xs.drop n).length
  · rw [val_take_drop w m _ hl, List.drop_drop]
    rw [val_zeros (xs := xs.drop (n + m)) fun i => by rw [getD_drop]; exact hz _ (by omega)]
    have := val_lt (h.drop (n := n)).take (xs := (xs.drop n).take m)
    rw [List.length_take, Nat.min_eq_left hl] at this
    omega
  · exact Nat.lt_of_lt_of_le (val_lt h.drop) (Nat.pow_le_pow_right (by decide) (Nat.mul_le_mul_left _ (by omega)))

/-- Knuth: the guess is right, or one too great -/
theorem guess_ok {r bs : List Nat} {w n : Nat} (hr : Lim w r) (hb : Lim w bs) (hw : 0 < w) (lb : 2 ≤ bs.length) (hv : 0 < bs.getD (bs.length - 1) 0) (hn : n + bs.length < r.length) (hz : ∀ i, n + bs.length < i → r.getD i 0 = 0) (hU : val w (r.drop n) < 2 ^ w * val w bs) :
    val w (r.drop n) / val w bs ≤ drGuess r bs w n ∧ drGuess r bs w n ≤ val w (r.drop n) / val w bs + 1 ∧ drGuess r bs w n < 2 ^ w := by
  have hB := Nat.two_pow_pos w
  have hg : drGuess r bs w n < 2 ^ w := guessP_lt _ _ _ _
  obtain ⟨k, ek⟩ : ∃ k, bs.length = k + 2 := ⟨bs.length - 2, by omega⟩
  have e3 : n + bs.length + 1 - (n + bs.length - 2) = 3 := by omega
  have eg : drGuess r bs w n = min (2 ^ w - 1) (((r.getD (n + k + 2) 0 * 2 ^ w + r.getD (n + k + 1) 0) * 2 ^ w + r.getD (n + k) 0) / (bs.getD (k + 1) 0 * 2 ^ w + bs.getD k 0)) := by
    unfold drGuess
    rw [guessP_eq hr.drop.take (hb _) hv]
    rw [e3, getD_take_drop _ _ _ _ (by decide), getD_take_drop _ _ _ _ (by decide), getD_take_drop _ _ _ _ (by decide)]
    rw [show n + bs.length - 2 + 2 = n + k + 2 by omega, show n + bs.length - 2 + 1 = n + k + 1 by omega, show n + bs.length - 2 + 0 = n + k by omega, show bs.length - 1 = k + 1 by omega, show bs.length - 2 = k by omega]
  -- U and V over B ^ k
  have hV := val_take_drop w k bs (by omega)
  rw [val_drop w (by omega : k < bs.length), val_drop w (by omega : k + 1 < bs.length), List.drop_eq_nil_of_le (by omega : bs.length ≤ k + 1 + 1), val, Nat.mul_zero, Nat.add_zero] at hV
  have hVl := val_lt (hb.take (n := k))
  rw [List.length_take, Nat.min_eq_left (by omega)] at hVl
  have hU0 := val_take_drop w k (r.drop n) (by simp; omega)
  rw [List.drop_drop, val_drop w (by omega : n + k < r.length), val_drop w (by omega : n + k + 1 < r.length), val_drop w (by omega : n + k + 1 + 1 < r.length),
    val_zeros (xs := r.drop (n + k + 1 + 1 + 1)) fun i => by rw [getD_drop]; exact hz _ (by omega)] at hU0
  have hUl := val_lt (hr.drop.take (xs := r.drop n) (n := k))
  rw [List.length_take, List.length_drop, Nat.min_eq_left (by omega)] at hUl
  rw [Nat.mul_zero, Nat.add_zero] at hU0
  have hv' : 0 < bs.getD (k + 1) 0 := by rw [show bs.length - 1 = k + 1 by omega] at hv; exact hv
  rw [show n + k + 1 + 1 = n + k + 2 by omega] at hU0
  generalize val w (r.drop n) = U at *
  generalize val w bs = V at *
  generalize val w ((r.drop n).take k) = u at *
  generalize val w (bs.take k) = v at *
  generalize drGuess r bs w n = g at *
  generalize r.getD (n + k + 2) 0 = x2 at *
  generalize r.getD (n + k + 1) 0 = x1 at *
  generalize r.getD (n + k) 0 = x0 at *
  generalize bs.getD (k + 1) 0 = y1 at *
  generalize bs.getD k 0 = y0 at *
  generalize 2 ^ (w * k) = P at *
  generalize 2 ^ w = B at *
  have eU : U = u + P * ((x2 * B + x1) * B + x0) := by rw [hU0]; grind
  have eV : V = v + P * (y1 * B + y0) := by rw [hV]; grind
  generalize hA : (x2 * B + x1) * B + x0 = A at *
  have hC1 : B ≤ y1 * B + y0 := by
    have : 1 * B ≤ y1 * B := Nat.mul_le_mul_right _ hv'
    omega
  generalize hC : y1 * B + y0 = C at *
  clear hA hC hU0 hV
  have hP : 0 < P := by omega
  have hVpos : 0 < V := by
    have : 1 * 1 ≤ P * C := Nat.mul_le_mul hP (by omega)
    omega
  have hq : U / V < B := by rw [Nat.div_lt_iff_lt_mul hVpos]; exact hU
  have h1 := Nat.div_mul_le_self U V
  have h2 : U < V * (U / V + 1) := Nat.lt_mul_div_succ U hVpos
  generalize U / V = q at *
  have ha : q ≤ A / C := by
    rw [Nat.le_div_iff_mul_le (by omega)]
    have h3 : P * (q * C) < P * (A + 1) := by
      have e1 : q * V = q * v + P * (q * C) := by rw [eV]; grind
      have e2 : P * (A + 1) = P * A + P := by rw [Nat.mul_add, Nat.mul_one]
      omega
    have := Nat.lt_of_mul_lt_mul_left h3
    omega
  have hb2 : min (B - 1) (A / C) ≤ q + 1 := by
    apply Nat.le_of_not_lt
    intro hlt
    have h4 : q + 2 ≤ A / C := by omega
    rw [Nat.le_div_iff_mul_le (by omega)] at h4
    have h5 : P * ((q + 2) * C) ≤ P * A := Nat.mul_le_mul_left _ h4
    have h6 : V ≤ P * (C + 1) := by rw [eV, Nat.mul_add, Nat.mul_one]; omega
    have h7 : V * (q + 1) ≤ P * (C + 1) * (q + 1) := Nat.mul_le_mul_right _ h6
    have e7 : P * (C + 1) * (q + 1) = P * ((C + 1) * (q + 1)) := Nat.mul_assoc _ _ _
    have h8 : P * ((q + 2) * C) < P * ((C + 1) * (q + 1)) := by omega
    have h9 := Nat.lt_of_mul_lt_mul_left h8
    have e5 : (q + 2) * C = q * C + 2 * C := Nat.add_mul _ _ _
    have e6 : (C + 1) * (q + 1) = q * C + C + q + 1 := by grind
    omega
  omega

/-! divide_rows -/
theorem take_same {w n : Nat} {xs ys : List Nat} (hl : xs.length = ys.length) (h : ∀ i, i < n → xs.getD i 0 = ys.getD i 0) : xs.take n = ys.take n := by
  apply List.ext_getElem?
  intro i
  rw [List.getElem?_take, List.getElem?_take]
  split
  · rename_i hi
    have := h i hi
    rw [List.getD_eq_getElem?_getD, List.getD_eq_getElem?_getD] at this
    by_cases h2 : i < xs.length
    · rw [List.getElem?_eq_getElem h2, List.getElem?_eq_getElem (by omega)] at this ⊢
      simpa using this
    · rw [List.getElem?_eq_none (by omega), List.getElem?_eq_none (by omega)]
  · rfl

theorem zeros_above {w n m V : Nat} {r : List Nat} (hr : Lim w r) (h : val w (r.drop (n + 1)) < V) (hV : V < 2 ^ (w * m)) : ∀ i, n + m < i → r.getD i 0 = 0 := by
  intro i hi
  have h1 := getD_val (hr.drop (n := n + 1)) (i - (n + 1))
  rw [getD_drop, show n + 1 + (i - (n + 1)) = i by omega] at h1
  rw [h1, Nat.div_eq_of_lt, Nat.zero_mod]
  refine Nat.lt_of_lt_of_le (Nat.lt_trans h hV) (Nat.pow_le_pow_right (by decide) (Nat.mul_le_mul_left _ (by omega)))

theorem drLoop_val {bs : List Nat} {w : Nat} (hb : Lim w bs) (hw : 0 < w) (lb : 2 ≤ bs.length) (hv : 0 < bs.getD (bs.length - 1) 0) : ∀ n r q, Lim w r → n + bs.length ≤ r.length → n ≤ q.length → val w (r.drop n) < val w bs →
    Lim w (drLoop bs w n r q).1 ∧ (Lim w q → Lim w (drLoop bs w n r q).2) ∧ (drLoop bs w n r q).1.length = r.length ∧ (drLoop bs w n r q).2.length = q.length ∧ (∀ i, n ≤ i → (drLoop bs w n r q).2.getD i 0 = q.getD i 0) ∧ val w (drLoop bs w n r q).1 < val w bs ∧
      val w ((drLoop bs w n r q).2.take n) * val w bs + val w (drLoop bs w n r q).1 = val w r
  | 0, r, q, h1, h2, h3, h4 => by
    rw [drLoop]
    rw [List.drop_zero] at h4
    exact ⟨h1, fun h => h, rfl, rfl, fun _ _ => rfl, h4, by simp [val]⟩
  | n + 1, r, q, h1, h2, h3, h4 => by
    have hVl := val_lt hb
    have hz := zeros_above h1 h4 hVl
    have hB := Nat.two_pow_pos w
    have hVpos : 0 < val w bs := by omega
    have hU : val w (r.drop n) < 2 ^ w * val w bs := by
      rw [val_drop w (by omega : n < r.length)]
      have h5 := h1 n
      have h6 : 2 ^ w * (val w (r.drop (n + 1)) + 1) ≤ 2 ^ w * val w bs := Nat.mul_le_mul_left _ h4
      rw [Nat.mul_add, Nat.mul_one] at h6
      omega
    obtain ⟨g1, g2, g3⟩ := guess_ok h1 hb hw lb hv (by omega) hz hU
    have hq : val w (r.drop n) / val w bs < 2 ^ w := by rw [Nat.div_lt_iff_lt_mul hVpos]; exact hU
    obtain ⟨t1, t2, t3⟩ := takeP_val (at' := n) h1 hb g3 (by omega)
    have t4 := takeP_lim (at' := n) g3 hb h1
    have t5 := takeP_len (r := r) (bs := bs) (w := w) (limb := drGuess r bs w n) (at' := n)
    have hm := Nat.mod_add_div (val w (r.drop n)) (val w bs)
    have hml := Nat.mod_lt (val w (r.drop n)) hVpos
    have hUl : val w (r.drop n) < 2 ^ (w * (bs.length + 1)) := val_drop_lt h1 fun i hi => hz i (by omega)
    rw [drLoop]
    -- what both ways lead to
    have fin : ∀ r2 g, r2.length = r.length → Lim w r2 → r2.take n = r.take n → val w (r2.drop n) = val w (r.drop n) % val w bs → g = val w (r.drop n) / val w bs →
        Lim w (drLoop bs w n r2 (q.set n g)).1 ∧ (Lim w q → Lim w (drLoop bs w n r2 (q.set n g)).2) ∧ (drLoop bs w n r2 (q.set n g)).1.length = r.length ∧ (drLoop bs w n r2 (q.set n g)).2.length = q.length ∧ (∀ i, n + 1 ≤ i → (drLoop bs w n r2 (q.set n g)).2.getD i 0 = q.getD i 0) ∧ val w (drLoop bs w n r2 (q.set n g)).1 < val w bs ∧
      val w ((drLoop bs w n r2 (q.set n g)).2.take (n + 1)) * val w bs + val w (drLoop bs w n r2 (q.set n g)).1 = val w r := by
      intro r2 g f1 f2 f3 f4 f5
      obtain ⟨i1, i2, i3, i4, i5, i6, i7⟩ := drLoop_val hb hw lb hv n r2 (q.set n g) f2 (by omega) (by simp; omega) (by omega)
      refine ⟨i1, fun h => i2 (h.set (by omega)), by omega, by simpa using i4, fun i hi => by rw [i5 i (by omega), getD_set, if_neg (by omega)], i6, ?_⟩
      rw [List.length_set] at i4
      rw [val_take_succ w (by omega : n < _), i5 n (Nat.le_refl _), getD_set, if_pos ⟨rfl, by omega⟩]
      have e1 := val_take_drop w n r2 (by omega)
      have e2 := val_take_drop w n r (by omega)
      rw [f3, f4] at e1
      generalize drLoop bs w n r2 (q.set n g) = X at *
      generalize val w (X.2.take n) = a at *
      generalize val w X.1 = b at *
      generalize val w r2 = c at *
      generalize val w r = c' at *
      generalize val w (r.take n) = t at *
      generalize val w (r.drop n) = U at *
      generalize val w bs = V at *
      generalize 2 ^ (w * n) = P at *
      rw [f5]
      generalize U / V = y at *
      generalize U % V = z at *
      have e3 : P * U = P * z + P * (V * y) := by rw [← hm, Nat.mul_add]
      grind
    have wtake : ∀ r2 : List Nat, r2.length = r.length → (∀ i, i < n ∨ n + bs.length < i → r2.getD i 0 = r.getD i 0) → r2.take n = r.take n ∧ (Lim w r2 → val w (r2.drop n) < 2 ^ (w * (bs.length + 1))) := by
      intro r2 hl h
      refine ⟨take_same (w := w) hl fun i hi => h i (.inl hi), fun hL => val_drop_lt hL fun i hi => ?_⟩
      rw [h i (.inr (by omega))]
      exact hz i (by omega)
    generalize drGuess r bs w n = g at *
    generalize takeP r bs g n w = T at *
    obtain ⟨r1, bo⟩ := T
    dsimp only at *
    obtain ⟨w1, w2⟩ := wtake r1 t5 t2
    have w3 := w2 t4
    have e1 := val_take_drop w n r1 (by omega)
    have e2 := val_take_drop w n r (by omega)
    have ep : 2 ^ (w * (n + bs.length + 1)) = 2 ^ (w * n) * 2 ^ (w * (bs.length + 1)) := by rw [← Nat.pow_add, ← Nat.mul_add]; rfl
    rw [w1] at e1
    have key : val w (r1.drop n) + g * val w bs = val w (r.drop n) + 2 ^ (w * (bs.length + 1)) * bo := by
      have : 2 ^ (w * n) * (val w (r1.drop n) + g * val w bs) = 2 ^ (w * n) * (val w (r.drop n) + 2 ^ (w * (bs.length + 1)) * bo) := by
        rw [ep] at t3
        grind
      exact Nat.eq_of_mul_eq_mul_left (Nat.two_pow_pos _) this
    have hqV : val w bs * (val w (r.drop n) / val w bs) = val w (r.drop n) / val w bs * val w bs := Nat.mul_comm _ _
    by_cases hbo : bo = 1
    · subst hbo
      rw [if_pos rfl]
      have hg : g = val w (r.drop n) / val w bs + 1 := by
        apply Nat.le_antisymm g2
        apply Nat.lt_of_not_le
        intro hle
        have : g * val w bs ≤ val w (r.drop n) / val w bs * val w bs := Nat.mul_le_mul_right _ hle
        omega
      obtain ⟨e, p1, p2⟩ := putP_val (r := r1) (at' := n) hb (by omega)
      have p3 := putP_lim (bs := bs) (at' := n) t4
      have p4 := putP_len (r := r1) (bs := bs) (w := w) (at' := n)
      generalize putP r1 bs n w = r2 at *
      obtain ⟨w4, w5⟩ := wtake r2 (by omega) fun i hi => by rw [p1 i hi, t2 i hi]
      have w6 := w5 p3
      have e3 := val_take_drop w n r2 (by omega)
      rw [w4] at e3
      have key2 : val w (r2.drop n) + 2 ^ (w * (bs.length + 1)) * e = val w (r1.drop n) + val w bs := by
        have : 2 ^ (w * n) * (val w (r2.drop n) + 2 ^ (w * (bs.length + 1)) * e) = 2 ^ (w * n) * (val w (r1.drop n) + val w bs) := by
          rw [ep] at p2
          grind
        exact Nat.eq_of_mul_eq_mul_left (Nat.two_pow_pos _) this
      refine fin r2 (g - 1) (p4.trans t5) p3 w4 ?_ (by rw [hg, Nat.add_sub_cancel])
      have hgV : g * val w bs = val w (r.drop n) / val w bs * val w bs + val w bs := by rw [hg, Nat.add_mul, Nat.one_mul]
      have key3 : val w (r2.drop n) + 2 ^ (w * (bs.length + 1)) * e = val w (r.drop n) % val w bs + 2 ^ (w * (bs.length + 1)) := by
        clear fin wtake
        generalize val w (r.drop n) / val w bs = y at *
        generalize val w (r.drop n) % val w bs = z at *
        rw [hqV] at hm
        omega
      have he : e = 1 := by
        rcases Nat.lt_trichotomy e 1 with h | h | h
        · have : e = 0 := by omega
          subst this
          omega
        · exact h
        · have h9 : 2 ^ (w * (bs.length + 1)) * 2 ≤ 2 ^ (w * (bs.length + 1)) * e := Nat.mul_le_mul_left _ h
          have hpw : 2 ^ (w * bs.length) ≤ 2 ^ (w * (bs.length + 1)) := Nat.pow_le_pow_right (by decide) (Nat.mul_le_mul_left _ (by omega))
          omega
      subst he
      omega
    · rw [if_neg hbo]
      have hb0 : bo = 0 := by omega
      subst hb0
      have hg : g = val w (r.drop n) / val w bs := by
        apply Nat.le_antisymm ?_ g1
        rw [Nat.le_div_iff_mul_le hVpos]
        omega
      refine fin r1 g t5 t4 w1 ?_ hg
      rw [← hg, Nat.mul_comm (val w bs)] at hm
      omega
end

section
/-! P6 -/

theorem lim_le_len {w x y : Nat} (hw : 0 < w) (h : y ≤ x) : (lim w y).length ≤ (lim w x).length := by
  apply lim_len hw
  have := val_lt (Lim_lim hw x)
  rw [val_lim hw] at this
  omega

theorem div_facts {w x y : Nat} (hw : 0 < w) (hy : 0 < y) (hxy : y ≤ x) (hl : 2 ≤ (lim w y).length) :
    let last := (lim w y).getD ((lim w y).length - 1) 0
    let s := w - bitLen last
    let D := shlP (lim w y) s w
    let R := shlP (lim w x) s w ++ List.replicate ((lim w x).length + 1 - (shlP (lim w x) s w).length) 0
    0 < last ∧ bitLen last ≤ w ∧ s < w ∧ Lim w D ∧ D.length = (lim w y).length ∧ 0 < D.getD (D.length - 1) 0 ∧ Lim w R ∧ R.length = (lim w x).length + 1 ∧ (shlP (lim w x) s w).length ≤ (lim w x).length + 1 ∧
      normalP (drP R D w).2 = lim w (x / y) ∧ Lim w (normalP (drP R D w).1) ∧ normalP (shrP (normalP (drP R D w).1) s w) = lim w (x % y) ∧ (drP R D w).1.length = R.length ∧ (drP R D w).2.length = R.length - D.length := by
  intro last s D R
  have hlim := Lim_lim hw y
  have hll := lim_le_len hw hxy
  have hlast : 0 < last := by
    rcases Nrm_lim hw y with h | h
    · omega
    · exact h
  have hlastw : last < 2 ^ w := hlim _
  obtain ⟨b1, b2, b3⟩ := bitLen_spec hlast
  have hbw : bitLen last ≤ w := bitLen_le hlastw
  have hs : s < w := by omega
  obtain ⟨d1, d2, d3⟩ := shlP_val (n := s) hlim hs
  have d4 := shlP_len (n := s) hlim hs (by omega) (by
    have h1 : (last + 1) * 2 ^ s ≤ 2 ^ bitLen last * 2 ^ s := Nat.mul_le_mul_right _ b3
    rw [← Nat.pow_add, show bitLen last + s = w by omega] at h1
    exact h1)
  rw [val_lim hw] at d1
  obtain ⟨r1, r2, r3⟩ := shlP_val (n := s) (Lim_lim hw x) hs
  rw [val_lim hw] at r1
  have hRl : R.length = (lim w x).length + 1 := by simp only [R, List.length_append, List.length_replicate]; omega
  have hRL : Lim w R := r2.append Lim.replicate
  have hRv : val w R = x * 2 ^ s := by simp only [R]; rw [val_append, val_replicate, r1, Nat.mul_zero, Nat.add_zero]
  have hDl : D.length = (lim w y).length := d4
  have hDv : val w D = y * 2 ^ s := d1
  have hDL : Lim w D := d2
  clear_value D R
  have ht := val_top hlim (by omega : 0 < (lim w y).length)
  rw [val_lim hw] at ht
  have hyB : 2 ^ (w * ((lim w y).length - 1)) ≤ y := by
    have h1 : 2 ^ (w * ((lim w y).length - 1)) * 1 ≤ 2 ^ (w * ((lim w y).length - 1)) * last := Nat.mul_le_mul_left _ hlast
    have h2 : 2 ^ (w * ((lim w y).length - 1)) * last ≤ y := ht.1
    omega
  have hDt : 0 < D.getD (D.length - 1) 0 := by
    have h1 := (val_top hDL (by omega)).2
    rw [hDl, hDv] at h1
    rw [hDl]
    apply Nat.pos_of_ne_zero
    intro h0
    rw [h0] at h1
    have h2 : y * 1 ≤ y * 2 ^ s := Nat.mul_le_mul_left _ (Nat.two_pow_pos s)
    omega
  have hDpos : 0 < val w D := by rw [hDv]; exact Nat.mul_pos hy (Nat.two_pow_pos s)
  have hinit : val w (R.drop (R.length - D.length)) < val w D := by
    rw [← val_div w _ R hRL, hRv, hDv, Nat.div_lt_iff_lt_mul (Nat.two_pow_pos _), Nat.mul_assoc, Nat.mul_comm (2 ^ s), ← Nat.mul_assoc]
    apply Nat.mul_lt_mul_of_pos_right _ (Nat.two_pow_pos s)
    have h1 := val_lt (Lim_lim hw x)
    rw [val_lim hw] at h1
    refine Nat.lt_of_lt_of_le h1 ?_
    have h2 : 2 ^ (w * ((lim w y).length - 1)) * 2 ^ (w * (R.length - D.length)) ≤ y * 2 ^ (w * (R.length - D.length)) := Nat.mul_le_mul_right _ hyB
    rw [← Nat.pow_add, ← Nat.mul_add, show (lim w y).length - 1 + (R.length - D.length) = (lim w x).length by omega] at h2
    exact h2
  obtain ⟨k1, k2, k3, k4, k5, k6, k7⟩ := drLoop_val hDL hw (by omega) hDt (R.length - D.length) R (List.replicate (R.length - D.length) 0) hRL (by omega) (by simp) hinit
  unfold drP
  generalize drLoop D w (R.length - D.length) R (List.replicate (R.length - D.length) 0) = X at *
  obtain ⟨rr, qq⟩ := X
  dsimp only at *
  rw [List.length_replicate] at k4
  rw [List.take_of_length_le (by omega), hRv, hDv] at k7
  rw [hDv] at k6
  have hs0 := Nat.two_pow_pos s
  have hq : val w qq = x / y := by
    have h1 : (val w qq * y) * 2 ^ s ≤ x * 2 ^ s := by rw [Nat.mul_assoc]; omega
    have h2 : x * 2 ^ s < ((val w qq + 1) * y) * 2 ^ s := by rw [Nat.mul_assoc, Nat.add_mul, Nat.one_mul]; omega
    have h3 := Nat.le_of_mul_le_mul_right h1 hs0
    have h4 := Nat.lt_of_mul_lt_mul_right h2
    symm
    apply Nat.div_eq_of_lt_le h3
    exact h4
  have hr : val w rr = (x % y) * 2 ^ s := by
    have h1 := Nat.mod_add_div x y
    rw [hq] at k7
    have h2 : x * 2 ^ s = (x % y) * 2 ^ s + (y * (x / y)) * 2 ^ s := by rw [← Nat.add_mul, h1]
    have h3 : x / y * (y * 2 ^ s) = (y * (x / y)) * 2 ^ s := by rw [← Nat.mul_assoc, Nat.mul_comm (x / y)]
    omega
  have hn := normalP_val w rr
  have hnl : Lim w (normalP rr) := k1.take
  obtain ⟨s1, s2⟩ := shrP_val (n := s) hnl hw
  refine ⟨hlast, hbw, hs, hDL, hDl, hDt, hRL, hRl, r3, ?_, hnl, ?_, k3, k4⟩
  · rw [normalP_eq hw (k2 Lim.replicate), hq]
  · rw [normalP_eq hw s1, s2, hn, hr, Nat.mul_div_cancel _ hs0]

theorem div_small_facts {w x y : Nat} (hw : 0 < w) (hy : 0 < y) (hl : (lim w y).length = 1) :
    (lim w y).getD 0 0 = y ∧ normalP (dlP (lim w x) y w).1 = lim w (x / y) ∧ dsRest (dlP (lim w x) y w).2 = lim w (x % y) := by
  have hv := val_lim hw y
  have h1 := Lim_lim hw y
  generalize lim w y = l at *
  obtain ⟨a, rfl⟩ : ∃ a, l = [a] := by
    match l, hl with
    | [a], _ => exact ⟨a, rfl⟩
  simp only [val, Nat.mul_zero, Nat.add_zero] at hv
  subst hv
  obtain ⟨d1, d2, d3⟩ := dlP_val (limb := a) (Lim_lim hw x) hy
  rw [val_lim hw] at d2 d3
  refine ⟨rfl, ?_, ?_⟩
  · rw [normalP_eq hw d1, d2]
  · rw [d3]
    have hlt : x % a < 2 ^ w := Nat.lt_trans (Nat.mod_lt _ hy) h1.head
    generalize x % a = r at *
    unfold dsRest
    by_cases h0 : 0 < r
    · rw [if_pos h0, lim_pos hw h0, Nat.mod_eq_of_lt hlt, Nat.div_eq_of_lt hlt, lim_zero]
    · rw [if_neg h0, show r = 0 by omega, lim_zero]
end

section
/-! F11 -/
open PySem PySem.W PyProof.Rows PySem.Spec PySem.Calls
set_option maxRecDepth 100000
set_option maxHeartbeats 4000000

theorem lim_small {w x : Nat} (hw : 0 < w) (h : x < 2 ^ 64) : (lim w x).length ≤ 64 := by
  apply lim_len hw
  refine Nat.lt_of_lt_of_le h (Nat.pow_le_pow_right (by decide) ?_)
  have : 1 * 64 ≤ w * 64 := Nat.mul_le_mul_right _ hw
  omega
theorem Lim.lt60 {w : Nat} {xs : List Nat} (h : Lim w xs) (hw : w ≤ 8) : ∀ i, xs.getD i 0 < 2 ^ 60 := fun i =>
  Nat.lt_of_lt_of_le (h i) (Nat.pow_le_pow_right (by decide) (by omega))

/-- what divrem hands back -/
noncomputable def DivTo (d : Nat) (ka kb w : Nat) (H : List O) (x y : Nat) : Prop :=
  ∃ H' p q r, CallTo d (.val (.ref 231)) [.ref ka, .ref kb, .nat w] H (.ref p) H' ∧ Kept [] H H' ∧ H'[p]? = some (.tup [.ref q, .ref r]) ∧ H'[q]? = some (O.nats (lim w (x / y))) ∧ H'[r]? = some (O.nats (lim w (x % y)))

theorem divrem_spec {d ka kb w x y : Nat} {H : List O} (ha : H[ka]? = some (O.nats (lim w x))) (hb : H[kb]? = some (O.nats (lim w y))) (hw : 0 < w) (hw8 : w ≤ 8) (hx : x < 2 ^ 64) (hy : 0 < y) (hy64 : y < 2 ^ 64) : DivTo (d + 4) ka kb w H x y := by
  have ok := ok_divrem_school
  have la := lim_small hw hx
  have lb := lim_small hw hy64
  have lb0 : 0 < (lim w y).length := Nat.pos_of_ne_zero fun h => by have := (lim_len0 hw).mp h; omega
  have Ya := (Lim_lim hw x).lt60 hw8
  have Yb := (Lim_lim hw y).lt60 hw8
  have c1 := compare_spec (d := d + 2) ha hb (by omega) (by omega)
  rw [cmpP_eq hw] at c1
  have st0 : ExecTo (d + 3) fi_divrem_school (stmtOf fi_divrem_school.body 0) ⟨[.ref ka, .ref kb, .nat w, .undef, .undef, .undef, .undef], H⟩ .next ⟨[.ref ka, .ref kb, .nat w, .undef, .undef, .undef, .undef], H⟩ := by
    apply ExecTo.ifF
    · ktr_rel
    · exact dF (by omega)
    · exact .nil
  unfold DivTo
  by_cases hxy : x < y
  · -- nothing to divide
    rw [if_pos hxy] at c1
    rw [Nat.div_eq_of_lt hxy, Nat.mod_eq_of_lt hxy, lim_zero]
    refine ⟨H ++ [O.nats []] ++ [O.nats (lim w x)] ++ [.tup [.ref H.length, .ref (H ++ [O.nats []]).length]], (H ++ [O.nats []] ++ [O.nats (lim w x)]).length, H.length, (H ++ [O.nats []]).length, ?_, Kept.app.trans (Kept.app.trans Kept.app), hp_new, hp_old (hp_old hp_new), hp_old hp_new⟩
    apply CallTo.of_body (fi := fi_divrem_school) ok lk_divrem_school rfl (by decide) (loc' := [.ref ka, .ref kb, .nat w, .undef, .undef, .undef, .undef])
    show ExecsTo _ _ _ ⟨[.ref ka, .ref kb, .nat w, .undef, .undef, .undef, .undef], H⟩ _ _
    apply ExecsTo.cons st0
    apply ExecsTo.stopR
    apply ExecTo.ifT
    · ktr_rel
    · decide
    · apply ExecsTo.ret
      apply EvalTo.as
      · kst_all1
        all_goals k_ownIn
      · rfl
      · rfl
  · -- one limb, or more
    have c2 : ∃ c, c1 = c := ⟨_, rfl⟩
    clear c2
    have st1 : ExecTo (d + 3) fi_divrem_school (stmtOf fi_divrem_school.body 1) ⟨[.ref ka, .ref kb, .nat w, .undef, .undef, .undef, .undef], H⟩ .next ⟨[.ref ka, .ref kb, .nat w, .undef, .undef, .undef, .undef], H⟩ := by
      rw [if_neg hxy] at c1
      apply ExecTo.ifF
      · ktr_rel
      · by_cases h : x = y
        · rw [if_pos h]; decide
        · rw [if_neg h]; decide
      · exact .nil
    by_cases hone : (lim w y).length = 1
    · obtain ⟨f1, f2, f3⟩ := div_small_facts (x := x) hw hy hone
      have hy60 : y < 2 ^ 60 := f1 ▸ Yb 0
      obtain ⟨H', p, q, r, s1, s2, s3, s4, s5⟩ := divrem_small_spec (d := d) (w := w) ha hb (by omega) hone (by rw [f1]; exact hy) (by rw [f1]; exact hy60) (by omega)
      rw [f1] at s4 s5
      rw [f2] at s4
      rw [f3] at s5
      refine ⟨H', p, q, r, ?_, s2, s3, s4, s5⟩
      apply CallTo.of_body (fi := fi_divrem_school) ok lk_divrem_school rfl (by decide) (loc' := [.ref ka, .ref kb, .nat w, .undef, .undef, .undef, .undef])
      show ExecsTo _ _ _ ⟨[.ref ka, .ref kb, .nat w, .undef, .undef, .undef, .undef], H⟩ _ _
      apply ExecsTo.cons st0
      apply ExecsTo.cons st1
      apply ExecsTo.stopR
      apply ExecTo.ifT
      · ktr_rel
      · exact dT hone
      · apply ExecsTo.ret
        ktr_rel
    · obtain ⟨f1, f2, f3, f4, f5, f6, f7, f8, f9, f10, f11, f12, f13, f14⟩ := div_facts (x := x) hw hy (by omega) (by omega)
      have hll := lim_le_len hw (show y ≤ x by omega)
      have b1 := bits_spec (d := d + 2) (k := H.length) (w := w) (H := H ++ [O.nats [(lim w y).getD ((lim w y).length - 1) 0]]) (ns := [(lim w y).getD ((lim w y).length - 1) 0]) hp_new (by simp)
      have b2 : bitsP [(lim w y).getD ((lim w y).length - 1) 0] w = bitLen ((lim w y).getD ((lim w y).length - 1) 0) := by simp [bitsP]
      rw [b2] at b1
      generalize bitLen ((lim w y).getD ((lim w y).length - 1) 0) = bl at *
      generalize hs : w - bl = s at *
      obtain ⟨H1, e1⟩ : ∃ H1, H1 = H ++ [O.nats [(lim w y).getD ((lim w y).length - 1) 0]] := ⟨_, rfl⟩
      have a1 : H1[ka]? = some (O.nats (lim w x)) := e1 ▸ hp_old ha
      have a2 : H1[kb]? = some (O.nats (lim w y)) := e1 ▸ hp_old hb
      have kk1 : Kept [] H H1 := e1 ▸ Kept.app
      have st3 : ExecTo (d + 3) fi_divrem_school (stmtOf fi_divrem_school.body 3) ⟨[.ref ka, .ref kb, .nat w, .undef, .undef, .undef, .undef], H⟩ .next ⟨[.ref ka, .ref kb, .nat w, .nat s, .undef, .undef, .undef], H1⟩ := by
        apply ExecTo.as
        · apply ExecTo.assign ok (i := 3)
          · k_memK
          · kst_all1 <;> k_ownIn
          · exact fun _ => rfl
        · rw [e1, hs]; exact St.eq rfl rfl
      clear b1
      have l1 := shift_left_spec (d := d + 2) (n := s) (w := w) a2 (by omega) Yb hw (by omega) (by omega)
      generalize shlP (lim w y) s w = D at *
      have a3 : (H1 ++ [O.nats D])[ka]? = some (O.nats (lim w x)) := hp_old a1
      have l2 := shift_left_spec (d := d + 2) (n := s) (w := w) a3 (by omega) Ya hw (by omega) (by omega)
      generalize shlP (lim w x) s w = R0 at *
      generalize hR : R0 ++ List.replicate ((lim w x).length + 1 - R0.length) 0 = R at *
      obtain ⟨H3, e3⟩ : ∃ H3, H3 = H1 ++ [O.nats D] ++ [O.nats R0] := ⟨_, rfl⟩
      obtain ⟨H4, e4⟩ : ∃ H4, H4 = H3 ++ [O.nats (List.replicate ((lim w x).length + 1 - R0.length) 0)] ++ [O.nats R] := ⟨_, rfl⟩
      have q1 : H3[ka]? = some (O.nats (lim w x)) := e3 ▸ hp_old a3
      have q2 : H3[(H1 ++ [O.nats D]).length]? = some (O.nats R0) := e3 ▸ hp_new
      have q3 : H4[(H3 ++ [O.nats (List.replicate ((lim w x).length + 1 - R0.length) 0)]).length]? = some (O.nats R) := e4 ▸ hp_new
      have q4 : H3[H1.length]? = some (O.nats D) := e3 ▸ hp_old hp_new
      have q5 : H4[H1.length]? = some (O.nats D) := e4 ▸ hp_old (hp_old q4)
      have kk3 : Kept [] H1 H3 := e3 ▸ Kept.app.trans Kept.app
      have kk4 : Kept [] H3 H4 := e4 ▸ Kept.app.trans Kept.app
      have hne : H1.length ≠ (H3 ++ [O.nats (List.replicate ((lim w x).length + 1 - R0.length) 0)]).length := by
        rw [e3]; simp
      obtain ⟨H5, g1, g2, g3, g4⟩ := divide_rows_spec (d := d + 1) (w := w) q3 q5 hne (by omega) (by omega) (by omega) f4 f7 (by omega) f6 (by omega)
      have kk5 : Kept [] H H5 := by
        refine (kk1.trans kk3).trans fun j o hj ho => g2 j o ?_ (kk4 j o hj ho)
        have := (List.getElem?_eq_some_iff.mp ho).1
        simp; omega
      obtain ⟨kr, ekr⟩ : ∃ kr, kr = (H3 ++ [O.nats (List.replicate ((lim w x).length + 1 - R0.length) 0)]).length := ⟨_, rfl⟩
      obtain ⟨kq, ekq⟩ : ∃ kq, kq = H4.length := ⟨_, rfl⟩
      rw [← ekr] at g1 g3 hne q3
      rw [← ekq] at g1 g4
      generalize drP R D w = Z at *
      obtain ⟨rr, qq⟩ := Z
      dsimp only at *
      have n1 := normal_spec (d := d + 2) g4 (by omega)
      rw [f10] at n1
      have g5 : (H5 ++ [O.nats (lim w (x / y))])[kr]? = some (O.nats rr) := hp_old g3
      have n2 := normal_spec (d := d + 2) g5 (by omega)
      have nl : (normalP rr).length ≤ rr.length := by simp [normalP, List.length_take]; omega
      have s1 := shift_right_spec (d := d + 1) (k := (H5 ++ [O.nats (lim w (x / y))]).length) (n := s) (w := w) (H := H5 ++ [O.nats (lim w (x / y))] ++ [O.nats (normalP rr)]) hp_new (by omega) (f11.lt60 hw8) hw (by omega) (by omega)
      rw [f12] at s1
      generalize shrP (normalP rr) s w = sr at *
      generalize normalP rr = nr at *
      refine ⟨H5 ++ [O.nats (lim w (x / y))] ++ [O.nats nr] ++ [O.nats sr, O.nats (lim w (x % y))] ++ [.tup [.ref H5.length, .ref ((H5 ++ [O.nats (lim w (x / y))] ++ [O.nats nr]).length + 1)]], (H5 ++ [O.nats (lim w (x / y))] ++ [O.nats nr] ++ [O.nats sr, O.nats (lim w (x % y))]).length, H5.length, (H5 ++ [O.nats (lim w (x / y))] ++ [O.nats nr]).length + 1, ?_, kk5.trans (Kept.app.trans (Kept.app.trans (Kept.app.trans Kept.app))), hp_new, hp_old (hp_old (hp_old hp_new)), hp_old (by rw [List.getElem?_append_right (by omega)]; simp)⟩
      apply CallTo.of_body (fi := fi_divrem_school) ok lk_divrem_school rfl (by decide) (loc' := [.ref ka, .ref kb, .nat w, .nat s, .ref H1.length, .ref kr, .ref kq])
      show ExecsTo _ _ _ ⟨[.ref ka, .ref kb, .nat w, .undef, .undef, .undef, .undef], H⟩ _ _
      apply ExecsTo.cons st0
      apply ExecsTo.cons st1
      apply ExecsTo.cons (σ₁ := ⟨[.ref ka, .ref kb, .nat w, .undef, .undef, .undef, .undef], H⟩)
      · apply ExecTo.ifF
        · ktr_rel
        · exact dF hone
        · exact .nil
      apply ExecsTo.cons st3
      apply ExecsTo.cons (σ₁ := ⟨[.ref ka, .ref kb, .nat w, .nat s, .ref H1.length, .undef, .undef], H1 ++ [O.nats D]⟩)
      · ktr_rel
      apply ExecsTo.cons (σ₁ := ⟨[.ref ka, .ref kb, .nat w, .nat s, .ref H1.length, .ref (H1 ++ [O.nats D]).length, .undef], H3⟩)
      · apply ExecTo.as
        · kst_all1 <;> k_ownIn
        · rw [e3]; exact St.eq rfl rfl
      apply ExecsTo.cons (σ₁ := ⟨[.ref ka, .ref kb, .nat w, .nat s, .ref H1.length, .ref kr, .undef], H4⟩)
      · apply ExecTo.as
        · apply ExecTo.assign ok (i := 5)
          · k_memK
          · apply EvalTo.catN
            · kst_all1
            · kst_all1 <;> k_ownIn
            · exact hp_old q2
            · exact hp_new
            · rw [← List.length_append, hR]; omega
          · exact fun _ => rfl
        · rw [hR, e4, ekr]; exact St.eq rfl rfl
      apply ExecsTo.cons (σ₁ := ⟨[.ref ka, .ref kb, .nat w, .nat s, .ref H1.length, .ref kr, .ref kq], H5⟩)
      · ktr_rel
      apply ExecsTo.ret
      apply EvalTo.as
      · kst_all1 <;> k_ownIn
      · rfl
      · rfl
end

section
/-! F12 -/
open PySem PySem.W PyProof.Rows PySem.Spec PySem.Calls
set_option maxRecDepth 100000
set_option maxHeartbeats 1000000

/-- the table of code of divided_times lies at kt -/
noncomputable def TabIn (kt : Nat) (H : List O) : Prop := ∃ t, H[kt]? = some (O.tab t) ∧ ∀ kc, t = some kc → H[kc]? = some O.code ∧ kc ≠ kt
/-- at kf lies what multiplies two rests by the modulus at km -/
noncomputable def TimesAt (kf w km : Nat) (H : List O) : Prop := ∃ kc kw ku kx kd, H[kf]? = some (O.fn kc kw ku kx kd) ∧ H[kc]? = some O.code ∧ H[kw]? = some (O.cell (.nat w)) ∧ H[ku]? = some (O.cell (.val (.ref 189))) ∧ H[kx]? = some (O.cell (.ref km)) ∧ H[kd]? = some (O.cell (.val (.ref 231)))
theorem TimesAt.keep {kf w km : Nat} {H H' : List O} (h : TimesAt kf w km H) (k : Kept [] H H') : TimesAt kf w km H' := by
  obtain ⟨kc, kw, ku, kx, kd, h1, h2, h3, h4, h5, h6⟩ := h
  exact ⟨kc, kw, ku, kx, kd, k.of h1, k.of h2, k.of h3, k.of h4, k.of h5, k.of h6⟩

theorem hp4 {H X : List O} {o0 o1 o2 o3 : O} : (H ++ [o0, o1, o2, o3] ++ X)[H.length]? = some o0 ∧ (H ++ [o0, o1, o2, o3] ++ X)[H.length + 1]? = some o1 ∧ (H ++ [o0, o1, o2, o3] ++ X)[H.length + 2]? = some o2 ∧ (H ++ [o0, o1, o2, o3] ++ X)[H.length + 3]? = some o3 := by
  refine ⟨?_, ?_, ?_, ?_⟩ <;> exact hp_old (by simp)

theorem hp_snd {H : List O} {x y : O} : ((H ++ [x]) ++ [y])[H.length + 1]? = some y := by
  have := hp_new (H := H ++ [x]) (o := y)
  rwa [List.length_append, List.length_singleton] at this
theorem divided_times_spec {d kt km w : Nat} {H : List O} (ht : TabIn kt H) :
    ∃ H' kf, CallTo (d + 1) (.val (.ref 156)) [.ref km, .nat w, .val (.ref 189), .val (.ref 231)] H (.ref kf) H' ∧ Kept [kt] H H' ∧ TabIn kt H' ∧ TimesAt kf w km H' := by
  have ok := @ok_dt H.length
  obtain ⟨t, h1, h2⟩ := ht
  have hkt := (List.getElem?_eq_some_iff.mp h1).1
  cases t with
  | none =>
    have e1 : (H ++ [O.cell (.val (.ref 231)), O.cell (.val (.ref 189)), O.cell (.nat w), O.cell (.ref km)])[kt]? = some (O.tab Option.none) := hp_old h1
    refine ⟨_, _, CallTo.of_dt (loc' := _) (ExecsTo.cons (ExecTo.nestNew rfl e1) (ExecsTo.ret (EvalTo.loc ok .here rfl V.ne_ref))), ?_, ⟨some _, hp_set (hp_old (hp_old e1)), fun kc hkc => ?_⟩, ?_⟩
    · exact (Kept.app.trans (Kept.app.trans Kept.app)).trans (Kept.set (by simp))
    · cases hkc
      have hne : (H ++ [O.cell (.val (.ref 231)), O.cell (.val (.ref 189)), O.cell (.nat w), O.cell (.ref km)]).length ≠ kt := by simp; omega
      exact ⟨hp_off (hp_old hp_new) hne.symm, hne⟩
    · obtain ⟨p1, p2, p3, p4⟩ := @hp4 H [] (O.cell (.val (.ref 231))) (O.cell (.val (.ref 189))) (O.cell (.nat w)) (O.cell (.ref km))
      rw [List.append_nil] at p1 p2 p3 p4
      refine ⟨_, _, _, _, _, hp_off (k := (H ++ [O.cell (.val (.ref 231)), O.cell (.val (.ref 189)), O.cell (.nat w), O.cell (.ref km)]).length + 1) ?_ ?_, hp_off (hp_old hp_new) ?_, hp_off (hp_old (hp_old p3)) ?_, hp_off (hp_old (hp_old p2)) ?_, hp_off (hp_old (hp_old p4)) ?_, hp_off (hp_old (hp_old p1)) ?_⟩
      · exact hp_snd
      all_goals (simp; omega)
  | some kc =>
    obtain ⟨c1, c2⟩ := h2 kc rfl
    have e1 : (H ++ [O.cell (.val (.ref 231)), O.cell (.val (.ref 189)), O.cell (.nat w), O.cell (.ref km)])[kt]? = some (O.tab (some kc)) := hp_old h1
    refine ⟨_, _, CallTo.of_dt (loc' := _) (ExecsTo.cons (ExecTo.nestHit rfl e1) (ExecsTo.ret (EvalTo.loc ok .here rfl V.ne_ref))), ?_, ⟨some kc, hp_old e1, fun kc' hkc => ?_⟩, ?_⟩
    · exact Kept.app.trans Kept.app
    · cases hkc
      exact ⟨hp_old (hp_old c1), c2⟩
    · obtain ⟨p1, p2, p3, p4⟩ := @hp4 H [] (O.cell (.val (.ref 231))) (O.cell (.val (.ref 189))) (O.cell (.nat w)) (O.cell (.ref km))
      rw [List.append_nil] at p1 p2 p3 p4
      exact ⟨_, _, _, _, _, hp_new, hp_old (hp_old c1), hp_old p3, hp_old p2, hp_old p4, hp_old p1⟩

theorem times_spec {d kf km w kx ky m x y : Nat} {H : List O} (ht : TimesAt kf w km H) (hm : H[km]? = some (O.nats (lim w m))) (hx : H[kx]? = some (O.nats (lim w x))) (hy : H[ky]? = some (O.nats (lim w y))) (hw : 0 < w) (hw8 : w ≤ 8) (hm0 : 0 < m) (hm2 : m < 2 ^ 20) (hx2 : x < 2 ^ 20) (hy2 : y < 2 ^ 20) :
    ∃ H' r, CallTo (d + 5) (.ref kf) [.ref kx, .ref ky] H (.ref r) H' ∧ Kept [] H H' ∧ H'[r]? = some (O.nats (lim w (x * y % m))) := by
  obtain ⟨kc, kw, ku, kz, kd, h1, h2, h3, h4, h5, h6⟩ := ht
  have lx := lim_small hw (show x < 2 ^ 64 by omega)
  have ly := lim_small hw (show y < 2 ^ 64 by omega)
  have hxy : x * y < 2 ^ 64 := by
    have : x * y ≤ 2 ^ 20 * 2 ^ 20 := Nat.mul_le_mul (by omega) (by omega)
    omega
  have c1 := mul_school_spec (d := d + 2) (w := w) hx hy (by omega) (by omega) ((Lim_lim hw x).lt60 hw8) (by omega)
  rw [mul_eq hw] at c1
  obtain ⟨H1, e1⟩ : ∃ H1, H1 = H ++ [O.nats (mulP (lim w x) (lim w y) w), O.nats (lim w (x * y))] := ⟨_, rfl⟩
  have k1 : Kept [] H H1 := e1 ▸ Kept.app
  have p1 : H1[H.length + 1]? = some (O.nats (lim w (x * y))) := by rw [e1]; simp
  rw [← e1] at c1
  clear e1
  have g3 := k1.of h3
  have g4 := k1.of h4
  have g5 := k1.of h5
  have g6 := k1.of h6
  obtain ⟨H2, p, q, r, c2, k2, t1, t2, t3⟩ := divrem_spec (d := d) p1 (k1.of hm) hw hw8 hxy hm0 (by omega)
  refine ⟨H2, r, ?_, k1.trans k2, t3⟩
  apply CallTo.of_clos h1 h2
  intro f c
  have ok := @ok_mu f c kw ku kz kd
  apply ExecsTo.ret
  apply EvalTo.itemT
  · kst_all1
  · kst_all1
  · exact t1
  · rfl
  · decide
end

section
/-! F13 -/
open PySem PySem.W PyProof.Rows PySem.Spec PySem.Calls
set_option maxRecDepth 100000
set_option maxHeartbeats 1000000

theorem lim_nil_iff {w x : Nat} (hw : 0 < w) : lim w x = [] ↔ x = 0 := by
  rw [← List.length_eq_zero_iff]; exact lim_len0 hw
theorem lim_one {w : Nat} (hw : 0 < w) : lim w 1 = [1] := by
  have h : 2 ^ 1 ≤ 2 ^ w := Nat.pow_le_pow_right (by decide) hw
  rw [lim_pos hw (by decide), Nat.mod_eq_of_lt (by omega), Nat.div_eq_of_lt (by omega), lim_zero]
theorem lim_inj {w x y : Nat} (hw : 0 < w) : lim w x = lim w y ↔ x = y := by
  constructor
  · intro h
    have := congrArg (val w) h
    rwa [val_lim hw, val_lim hw] at this
  · rintro rfl; rfl

theorem check_modulus_spec {d km w m : Nat} {H : List O} (hm : H[km]? = some (O.nats (lim w m))) (hw : 0 < w) (h0 : 0 < m) : CallTo (d + 1) (.val (.ref 142)) [.ref km] H .none H := by
  have ok := ok_check_modulus
  apply CallTo.of_bodyN (fi := fi_check_modulus) ok lk_check_modulus rfl (by decide) (loc' := [.ref km])
  show ExecsTo _ _ _ ⟨[.ref km], H⟩ _ _
  apply ExecsTo.one
  apply ExecTo.ifF (σ₁ := ⟨[.ref km], H⟩)
  · apply TestTo.eqLit (ns := lim w m) (ms := [])
    · kst_all1
    · exact EvalsTo.nil
    · exact hm
    · decide
  · refine dF fun h => ?_
    have := (lim_nil_iff hw).mp h
    omega
  · exact .nil

theorem unit_rest_spec {d km w m : Nat} {H : List O} (hm : H[km]? = some (O.nats (lim w m))) (hw : 0 < w) (h0 : 0 < m) : CallTo (d + 1) (.val (.ref 149)) [.ref km] H (.ref H.length) (H ++ [O.nats (lim w (1 % m))]) := by
  have ok := ok_unit_rest
  apply CallTo.of_body (fi := fi_unit_rest) ok lk_unit_rest rfl (by decide) (loc' := [.ref km])
  show ExecsTo _ _ _ ⟨[.ref km], H⟩ _ _
  apply ExecsTo.ret
  by_cases h1 : m = 1
  · subst h1
    rw [Nat.mod_self, lim_zero]
    apply EvalTo.iteT (σ₁ := ⟨[.ref km], H⟩)
    · apply TestTo.eqLit (ns := lim w 1) (ms := [1])
      · kst_all1
      · exact EvalsTo.cons EvalTo.kLit EvalsTo.nil (fun _ => rfl)
      · exact hm
      · decide
    · exact dT (lim_one hw)
    · ktr_rel
  · rw [Nat.mod_eq_of_lt (by omega), lim_one hw]
    apply EvalTo.iteF (σ₁ := ⟨[.ref km], H⟩)
    · apply TestTo.eqLit (ns := lim w m) (ms := [1])
      · kst_all1
      · exact EvalsTo.cons EvalTo.kLit EvalsTo.nil (fun _ => rfl)
      · exact hm
      · decide
    · refine dF fun h => h1 ?_
      rw [← lim_one hw] at h
      exact (lim_inj hw).mp h
    · ktr_rel

theorem EvalTo.times {d : Nat} {fi : FI} {σ σ₂ σ' : St} {pos p : Pos} (ok : fi.Ok) {x : Str} {e : Expr} {rest : List Expr} {kf w km : Nat} {vs : List V} {v : V} {H' : List O} (ht : TimesAt kf w km σ.heap) (h1 : EvalTo d fi (.Name x p) σ (.ref kf) σ) (h2 : EvalsTo d fi (e :: rest) σ vs σ₂) (hk : Kept [] σ.heap σ₂.heap)
    (hc : CallTo d (.ref kf) vs σ₂.heap v H') (q : (⟨σ₂.loc, H'⟩ : St) = σ') (hs : ∀ env, starEach (e :: rest) env = (false, eval e env) :: starEach rest env) (hp : ∀ env, (backTo pos (starEach rest env)).any (·.1) = false) :
    EvalTo d fi (.Call (.Name x p) (e :: rest) [] pos) σ v σ' := by
  obtain ⟨kc, kw, ku, kx, kd, f1, f2, f3, f4, f5, f6⟩ := ht
  exact q ▸ EvalTo.callR ok h1 f1 (fnLike_fn _ _ _ _ _) h2 (hk.of f1) hs hp hc

/-! odd_powers, of size 2 -/
theorem odd_powers_spec {d kf km w kb m b : Nat} {H : List O} (ht : TimesAt kf w km H) (hm : H[km]? = some (O.nats (lim w m))) (hb : H[kb]? = some (O.nats (lim w b))) (hw : 0 < w) (hw8 : w ≤ 8) (hm0 : 0 < m) (hm2 : m < 2 ^ 20) (hb2 : b < m) :
    ∃ H' r k3, CallTo (d + 6) (.val (.ref 121)) [.ref kb, .nat 2, .ref kf] H (.ref r) H' ∧ Kept [] H H' ∧ H'[r]? = some (.list [.ref kb, .ref k3]) ∧ H'[k3]? = some (O.nats (lim w (b ^ 3 % m))) := by
  have ok := ok_odd_powers
  obtain ⟨H0, e0⟩ : ∃ H0, H0 = H ++ [.list [.ref kb]] := ⟨_, rfl⟩
  have k0 : Kept [] H H0 := e0 ▸ Kept.app
  have p0 : H0[H.length]? = some (.list [.ref kb]) := e0 ▸ hp_new
  obtain ⟨H1, sq, c1, k1, s1⟩ := times_spec (d := d) (ht.keep k0) (k0.of hm) (k0.of hb) (k0.of hb) hw hw8 hm0 hm2 (by omega) (by omega)
  have hsq : b * b % m < m := Nat.mod_lt _ hm0
  obtain ⟨H2, k3, c2, k2, s2⟩ := times_spec (d := d) ((ht.keep k0).keep k1) (k1.of (k0.of hm)) (k1.of (k0.of hb)) s1 hw hw8 hm0 hm2 (by omega) (by omega)
  have e3 : b * (b * b % m) % m = b ^ 3 % m := by
    rw [Nat.mul_mod, Nat.mod_mod, ← Nat.mul_mod, show b ^ 3 = b * (b * b) by rw [Nat.pow_succ, Nat.pow_succ, Nat.pow_one, Nat.mul_comm]]
  rw [e3] at s2
  have p2 : H2[H.length]? = some (.list [.ref kb]) := k2.of (k1.of p0)
  have kk : Kept [] H (H2.set H.length (.list [.ref kb, .ref k3])) := fun j o hj ho => by
    have hne := hp_ne ho
    exact hp_off (k2 j o hj (k1 j o hj (k0 j o hj ho))) hne
  have hk3 : k3 ≠ H.length := by
    intro e
    subst e
    rw [p2] at s2
    have := congrArg (fun x : Option O => match x with | some (.list xs) => xs | _ => []) s2
    simp only [O.nats] at this
    cases h : lim w (b ^ 3 % m) with
    | nil => rw [h] at this; cases this
    | cons x r => rw [h] at this; cases this
  refine ⟨H2.set H.length (.list [.ref kb, .ref k3]), H.length, k3, ?_, kk, hp_set p2, hp_off s2 hk3.symm⟩
  apply CallTo.of_body (fi := fi_odd_powers) ok lk_odd_powers rfl (by decide) (loc' := [.ref kb, .nat 2, .ref kf, .ref H.length, .ref sq, .int 0])
  show ExecsTo _ _ _ ⟨[.ref kb, .nat 2, .ref kf, .undef, .undef, .undef], H⟩ _ _
  apply ExecsTo.cons (σ₁ := ⟨[.ref kb, .nat 2, .ref kf, .ref H.length, .ref sq, .undef], H1⟩)
  · apply ExecTo.as
    · apply ExecTo.tup2 ok (i := 3) (j := 4)
      · k_memK
      · k_memK
      · apply EvalTo.list (vs := [.ref kb])
        · kst_all1
        · simp
      · rw [← e0]
        refine EvalTo.times ok (ht.keep k0) ?_ ?_ Kept.refl c1 rfl (fun _ => rfl) (fun _ => rfl)
        · kst_all1
        · kst_all1
      · exact fun _ => rfl
      · exact fun _ => rfl
      · exact fun _ => rfl
      · exact fun _ _ => rfl
    · rfl
  apply ExecsTo.cons (σ₁ := ⟨[.ref kb, .nat 2, .ref kf, .ref H.length, .ref sq, .int 0], H2.set H.length (.list [.ref kb, .ref k3])⟩)
  · refine ExecTo.forRE ok (i := 5) (n := 1) (a := 0) (c := 1) (σ₁ := ⟨[.ref kb, .nat 2, .ref kf, .ref H.length, .ref sq, .undef], H1⟩) ?_ ?_ (fun _ _ => rfl) (RunR.stepN (v := .int 0) ?_ RunR.nil)
    · k_memK
    · apply iterRange1
      · kst_all1
      · apply EvalTo.as
        · kst_all1 <;> k_ownIn
        · rfl
        · rfl
      · decide
      · exact fun _ => rfl
    · apply ExecsTo.one
      refine ExecTo.append (k := H.length) (xs := [.ref kb]) (ys := [.ref kb]) (v := .ref k3) (σ₁ := ⟨[.ref kb, .nat 2, .ref kf, .ref H.length, .ref sq, .int 0], H1⟩) (σ₂ := ⟨[.ref kb, .nat 2, .ref kf, .ref H.length, .ref sq, .int 0], H2⟩) ?_ (k1.of p0) ?_ p2 (by simp) (fun _ => _) (fun _ => rfl) (fun _ => rfl) (fun _ => rfl) rfl
      · ktr_rel
      · refine EvalTo.times ok (σ₂ := ⟨[.ref kb, .nat 2, .ref kf, .ref H.length, .ref sq, .int 0], H1⟩) ((ht.keep k0).keep k1) ?_ ?_ Kept.refl c2 rfl (fun _ => rfl) (fun _ => rfl)
        · kst_all1
        · apply EvalsTo.cons (σ₁ := ⟨[.ref kb, .nat 2, .ref kf, .ref H.length, .ref sq, .int 0], H1⟩)
          · apply EvalTo.itemLast
            · kst_all1
            · exact EvalTo.neg EvalTo.kLit
            · exact k1.of p0
            · rfl
            · simp
          · kst_all1
          · exact fun _ => rfl
  apply ExecsTo.ret
  ktr_rel
end

section
/-! F14 -/
open PySem PySem.W PyProof.Rows PySem.Spec PySem.Calls
set_option maxRecDepth 100000
set_option maxHeartbeats 1000000

theorem bit_lim {d k n w x : Nat} {H : List O} (hk : H[k]? = some (O.nats (lim w x))) (hw : 0 < w) (hw8 : w ≤ 8) (hx : x < 2 ^ 20) (hn : n < 2 ^ 20) : CallTo (d + 1) (.val (.ref 107)) [.ref k, .nat n, .nat w] H (.nat (x / 2 ^ n % 2)) H := by
  have := bit_spec (d := d) (n := n) (w := w) hk (by have := lim_small hw (show x < 2 ^ 64 by omega); omega) hw (by omega) (by omega)
  rwa [bitP_eq hw] at this

theorem iterDown3 {d : Nat} {fi : FI} {σ σ₁ σ₂ σ₃ : St} {pos : Pos} {x : Str} {p : Pos} {e f g : Expr} {a b : Int} {n : Nat} (h0 : EvalTo d fi (.Name x p) σ (.val (.type "range")) σ) (h1 : EvalTo d fi e σ (.int a) σ₁) (h2 : EvalTo d fi f σ₁ (.int b) σ₂) (h3 : EvalTo d fi g σ₂ (.int (-((1 : Nat) : Int))) σ₃) (ha : a.natAbs < 2 ^ 48) (hb : b.natAbs < 2 ^ 48) (hn : (a - b).toNat = n)
    (hs : ∀ env, starEach [e, f, g] env = (false, eval e env) :: starEach [f, g] env) (hs' : ∀ env, starEach [f, g] env = (false, eval f env) :: starEach [g] env) (hs'' : ∀ env, starEach [g] env = (false, eval g env) :: starEach [] env) :
    IterR d fi (.Call (.Name x p) [e, f, g] [] pos) σ a (-1) n σ₃ := by
  subst hn
  exact iterRange3 (pos := pos) h0 h1 h2 h3 ha hb hs hs' hs''

/-- the window's loop over its bits -/
theorem window_fin {d k w E l v n : Nat} {H : List O} (hk : H[k]? = some (O.nats (lim w E))) (hw : 0 < w) (hw8 : w ≤ 8) (hE : E < 2 ^ 20) {top : Nat} (ht : top < 2 ^ 20) (h1 : E / 2 ^ top % 2 = 1)
    (h : (l = top ∧ v = 1 ∧ n = 1) ∨ (l + 1 = top ∧ v = 3 ∧ n = 2 ∧ E / 2 ^ l % 2 = 1)) :
    ∃ u, ExecsTo (d + 1) fi_window_at (fi_window_at.body.drop 2) ⟨[.ref k, .nat top, .nat 2, .nat w, .nat l, .undef, .undef], H⟩ (.ret (.ref H.length)) ⟨[.ref k, .nat top, .nat 2, .nat w, .nat l, .nat v, u], H ++ [.tup [.nat v, .nat n]]⟩ := by
  have ok := ok_window_at
  have c1 := bit_lim (d := d) (n := top) hk hw hw8 hE ht
  rw [h1] at c1
  have step : ∀ {u : V} {x y s : Nat}, s < 2 ^ 20 → y = 2 * x + E / 2 ^ s % 2 → ExecsTo (d + 1) fi_window_at (bodyOf (stmtOf fi_window_at.body 3)) ⟨[.ref k, .nat top, .nat 2, .nat w, .nat l, .nat x, .nat s], H⟩ .next ⟨[.ref k, .nat top, .nat 2, .nat w, .nat l, .nat y, .nat s], H⟩ := by
    intro u x y s hs hy
    have c := bit_lim (d := d) (n := s) hk hw hw8 hE hs
    subst hy
    tb_rel
  refine ⟨.nat l, ?_⟩
  apply ExecsTo.cons (σ₁ := ⟨[.ref k, .nat top, .nat 2, .nat w, .nat l, .nat 0, .undef], H⟩)
  · ktr_rel
  apply ExecsTo.cons (σ₁ := ⟨[.ref k, .nat top, .nat 2, .nat w, .nat l, .nat v, .nat l], H⟩)
  · refine ExecTo.forRE ok (i := 6) (n := n) (a := (top : Int)) (c := -1) (σ₁ := ⟨[.ref k, .nat top, .nat 2, .nat w, .nat l, .nat 0, .undef], H⟩) ?_ ?_ (fun _ _ => rfl) ?_
    · k_memK
    · refine iterDown3 (σ₁ := ⟨[.ref k, .nat top, .nat 2, .nat w, .nat l, .nat 0, .undef], H⟩) (b := (l : Int) - ((1 : Nat) : Int)) ?_ ?_ ?_ (EvalTo.neg EvalTo.kLit) ?_ ?_ ?_ (fun _ => rfl) (fun _ => rfl) (fun _ => rfl)
      · kst_all1
      · kst_all1
      · apply EvalTo.bin (op := .Sub)
        · kst_all1
        · kst_all1
        · exact BinTo.sub
      · omega
      · omega
      · omega
    · rcases h with ⟨rfl, rfl, rfl⟩ | ⟨h2, rfl, rfl, h3⟩
      · exact RunR.stepN (v := .nat l) (step (u := .undef) (x := 0) ht (by omega)) .nil
      · show RunR _ _ _ _ (V.nat top :: V.int ((top : Int) + -1) :: []) _ _ _
        rw [show (top : Int) + -1 = (l : Int) by omega]
        exact RunR.stepN (v := .nat top) (step (u := .undef) (x := 0) ht (by omega)) (RunR.stepN (v := .nat l) (step (u := .undef) (x := 1) (by omega) (by omega)) .nil)
  apply ExecsTo.ret
  have hn : n = top - l + 1 := by omega
  rw [hn]
  apply EvalTo.as
  · kst_all1
    all_goals k_ownIn
  · rfl
  · rfl

noncomputable def winP (E k : Nat) : Nat × Nat := if 0 < k ∧ E / 2 ^ (k - 1) % 2 = 1 then (3, 2) else (1, 1)
theorem window_spec {d ke w E k : Nat} {H : List O} (hk : H[ke]? = some (O.nats (lim w E))) (hw : 0 < w) (hw8 : w ≤ 8) (hE : E < 2 ^ 20) (ht : k < 2 ^ 20) (h1 : E / 2 ^ k % 2 = 1) :
    CallTo (d + 2) (.val (.ref 128)) [.ref ke, .nat k, .nat 2, .nat w] H (.ref H.length) (H ++ [.tup [.nat (winP E k).1, .nat (winP E k).2]]) := by
  have ok := ok_window_at
  have c0 := bit_lim (d := d) (n := k - 1) hk hw hw8 hE (by omega)
  have c1 := bit_lim (d := d) (n := k) hk hw hw8 hE ht
  rw [h1] at c1
  have st0 : ExecTo (d + 1) fi_window_at (stmtOf fi_window_at.body 0) ⟨[.ref ke, .nat k, .nat 2, .nat w, .undef, .undef, .undef], H⟩ .next ⟨[.ref ke, .nat k, .nat 2, .nat w, .nat (k - 1), .undef, .undef], H⟩ := by
    refine ExecTo.assignP ok 4 (v := .nat (k - 1)) ?_ ?_ ?_ rfl
    · k_memK
    · refine EvalTo.as (v := .int (if ((0 : Nat) : Int) > ((k : Int) - ((2 : Nat) : Int)) + ((1 : Nat) : Int) then ((0 : Nat) : Int) else ((k : Int) - ((2 : Nat) : Int)) + ((1 : Nat) : Int))) (EvalTo.max2 (σ₁ := ⟨[.ref ke, .nat k, .nat 2, .nat w, .undef, .undef, .undef], H⟩) ?_ ?_ EvalTo.kLit (fun _ => rfl) (fun _ => rfl)) rfl ?_
      · kst_all1
      · apply EvalTo.bin (op := .Add)
        · apply EvalTo.bin (op := .Sub)
          · kst_all1
          · kst_all1
          · exact BinTo.sub
        · kst_all1
        · exact BinTo.add
      · apply congrArg V.int
        split <;> omega
    · exact fun _ => rfl
  have fin : ∀ {n v l : Nat}, (l = k - 1 ∨ (l = k ∧ E / 2 ^ (k - 1) % 2 = 0)) → E / 2 ^ l % 2 = 1 → ((l = k ∧ v = 1 ∧ n = 1) ∨ (l + 1 = k ∧ v = 3 ∧ n = 2 ∧ E / 2 ^ l % 2 = 1)) →
      CallTo (d + 2) (.val (.ref 128)) [.ref ke, .nat k, .nat 2, .nat w] H (.ref H.length) (H ++ [.tup [.nat v, .nat n]]) := by
    intro n v l hl hb h
    obtain ⟨u, run⟩ := window_fin (d := d) hk hw hw8 hE ht h1 h
    apply CallTo.of_body (fi := fi_window_at) ok lk_window_at rfl (by decide) (loc' := [.ref ke, .nat k, .nat 2, .nat w, .nat l, .nat v, u])
    show ExecsTo _ _ _ ⟨[.ref ke, .nat k, .nat 2, .nat w, .undef, .undef, .undef], H⟩ _ _
    apply ExecsTo.cons st0
    apply ExecsTo.cons (σ₁ := ⟨[.ref ke, .nat k, .nat 2, .nat w, .nat l, .undef, .undef], H⟩) ?_ run
    apply ExecTo.whileE
    rcases hl with rfl | ⟨rfl, h0⟩
    · apply WRun.stopE
      rw [hb] at c0
      ktr_rel
    · rw [h0] at c0
      have hk0 : 0 < l := by
        apply Nat.pos_of_ne_zero
        rintro rfl
        rw [h0] at h1
        cases h1
      apply WRun.stepN (σ₁ := ⟨[.ref ke, .nat l, .nat 2, .nat w, .nat (l - 1), .undef, .undef], H⟩) (σ₂ := ⟨[.ref ke, .nat l, .nat 2, .nat w, .nat l, .undef, .undef], H⟩)
      · ktr_rel
      · apply ExecsTo.one
        apply ExecTo.as
        · kst_all1
        · rw [Nat.sub_add_cancel hk0]; rfl
      · apply WRun.stopE
        ktr_rel
  unfold winP
  by_cases h : 0 < k ∧ E / 2 ^ (k - 1) % 2 = 1
  · rw [if_pos h]
    exact fin (l := k - 1) (.inl rfl) h.2 (.inr ⟨by omega, rfl, rfl, h.2⟩)
  · rw [if_neg h]
    by_cases hk0 : k = 0
    · exact fin (l := k) (.inl (by omega)) h1 (.inl ⟨rfl, rfl, rfl⟩)
    · exact fin (l := k) (.inr ⟨rfl, by omega⟩) h1 (.inl ⟨rfl, rfl, rfl⟩)
end

section
/-! F15 -/
open PySem PySem.W PyProof.Rows PySem.Spec PySem.Calls
set_option maxRecDepth 100000
set_option maxHeartbeats 1000000

theorem ExecTo.cbC {d : Nat} {fi : FI} {st : Stmt} {σ σ' : St} {f g : Fl} (h : ExecTo d fi st σ f σ') (e : f = g) : ExecTo d fi st σ g σ' := e ▸ h

/-- what lies about while the power is built -/
structure BW (kb ke km kf kt k3 w m E b : Nat) (H : List O) : Prop where
  ti : TimesAt kf w km H
  mo : H[km]? = some (O.nats (lim w m))
  ex : H[ke]? = some (O.nats (lim w E))
  ta : H[kt]? = some (.list [.ref kb, .ref k3])
  ba : H[kb]? = some (O.nats (lim w (b ^ 1 % m)))
  b3 : H[k3]? = some (O.nats (lim w (b ^ 3 % m)))
theorem BW.keep {kb ke km kf kt k3 w m E b : Nat} {H H' : List O} (h : BW kb ke km kf kt k3 w m E b H) (k : Kept [] H H') : BW kb ke km kf kt k3 w m E b H' :=
  ⟨h.ti.keep k, k.of h.mo, k.of h.ex, k.of h.ta, k.of h.ba, k.of h.b3⟩

section
variable {d kb ke km kf kt k3 ko w m E b : Nat}

theorem times_mod {kx ky x y : Nat} {H : List O} (B : BW kb ke km kf kt k3 w m E b H) (hx : H[kx]? = some (O.nats (lim w (x % m)))) (hy : H[ky]? = some (O.nats (lim w (y % m)))) (hw : 0 < w) (hw8 : w ≤ 8) (hm0 : 0 < m) (hm2 : m < 2 ^ 20) :
    ∃ H' r, CallTo (d + 5) (.ref kf) [.ref kx, .ref ky] H (.ref r) H' ∧ Kept [] H H' ∧ H'[r]? = some (O.nats (lim w (x * y % m))) := by
  have h1 := Nat.mod_lt x hm0
  have h2 := Nat.mod_lt y hm0
  have := times_spec (d := d) B.ti B.mo hx hy hw hw8 hm0 hm2 (by omega) (by omega)
  rwa [← Nat.mul_mod] at this

noncomputable abbrev bwLoc (kb ke w ko kf kt : Nat) (F S v9 v10 v11 : V) : List V := [.ref kb, .ref ke, .nat 2, .nat w, .ref ko, .ref kf, .ref kt, F, S, v9, v10, v11]

theorem sq_run (hw : 0 < w) (hw8 : w ≤ 8) (hm0 : 0 < m) (hm2 : m < 2 ^ 20) {S v9 v10 : V} : ∀ n (a x r : Nat) (H : List O) (v11 : V), BW kb ke km kf kt k3 w m E b H → H[r]? = some (O.nats (lim w (x % m))) →
    ∃ H' r' u, RunR (d + 5) fi_by_windows (bodyOf (stmtOf ((match stmtOf (bodyOf (stmtOf fi_by_windows.body 3)) 2 with | .If _ _ o _ => o | _ => [])) 0)) 11 (upFrom (a : Int) 1 n) ⟨bwLoc kb ke w ko kf kt (.ref r) S v9 v10 v11, H⟩ .next ⟨bwLoc kb ke w ko kf kt (.ref r') S v9 v10 u, H'⟩ ∧
      Kept [] H H' ∧ H'[r']? = some (O.nats (lim w (x ^ 2 ^ n % m))) := by
  have ok := ok_by_windows
  intro n
  induction n with
  | zero => exact fun a x r H v11 B hr => ⟨H, r, v11, .nil, Kept.refl, by simpa using hr⟩
  | succ n ih =>
    intro a x r H v11 B hr
    obtain ⟨H1, r1, c1, k1, s1⟩ := times_mod (d := d) B hr hr hw hw8 hm0 hm2
    obtain ⟨H2, r2, u, run, k2, s2⟩ := ih (a + 1) (x * x) r1 H1 (.nat a) (B.keep k1) s1
    rw [up_up]
    refine ⟨H2, r2, u, RunR.stepN ?_ run, k1.trans k2, ?_⟩
    · apply ExecsTo.one
      apply ExecTo.as
      · apply ExecTo.assign ok (i := 7)
        · k_memK
        · refine EvalTo.times ok (σ₂ := ⟨bwLoc kb ke w ko kf kt (.ref r) S v9 v10 (.nat a), H⟩) (σ' := ⟨bwLoc kb ke w ko kf kt (.ref r) S v9 v10 (.nat a), H1⟩) B.ti ?_ ?_ Kept.refl c1 rfl (fun _ => rfl) (fun _ => rfl)
          · kst_all1
          · refine EvalsTo.cons (σ₁ := ⟨bwLoc kb ke w ko kf kt (.ref r) S v9 v10 (.nat a), H⟩) (v := .ref r) ?_ (EvalsTo.cons (σ₁ := ⟨bwLoc kb ke w ko kf kt (.ref r) S v9 v10 (.nat a), H⟩) (v := .ref r) ?_ .nil (fun _ => rfl)) (fun _ => rfl)
            · ktr_rel
            · ktr_rel
        · exact fun _ => rfl
      · rfl
    · rw [s2, ← Nat.pow_two, ← Nat.pow_mul, show 2 * 2 ^ n = 2 ^ (n + 1) by rw [Nat.pow_succ, Nat.mul_comm]]

/-- what found stands for when n bits are left -/
noncomputable def FV (w m E b n : Nat) (F : V) (H : List O) : Prop := (F = .none ∧ E / 2 ^ n = 0 ∧ 0 < n ∧ E / 2 ^ (n - 1) % 2 = 1) ∨ ∃ k, F = .ref k ∧ H[k]? = some (O.nats (lim w (b ^ (E / 2 ^ n) % m)))

theorem half_eq (E k : Nat) : E / 2 ^ k = 2 * (E / 2 ^ (k + 1)) + E / 2 ^ k % 2 := by
  rw [Nat.pow_succ, ← Nat.div_div_eq_div_mul]
  omega

/-- one window -/
theorem win_step (hw : 0 < w) (hw8 : w ≤ 8) (hm0 : 0 < m) (hm2 : m < 2 ^ 20) (hE : E < 2 ^ 20) {k : Nat} (hk : k < 2 ^ 20) (hbit : E / 2 ^ k % 2 = 1) {H : List O} {F v9 v10 v11 : V} (B : BW kb ke km kf kt k3 w m E b H) (hF : FV w m E b (k + 1) F H) :
    ∃ H' r u9 u10 u11, ExecsTo (d + 6) fi_by_windows (bodyOf (stmtOf fi_by_windows.body 3)) ⟨bwLoc kb ke w ko kf kt F (.nat k) v9 v10 v11, H⟩ .next ⟨bwLoc kb ke w ko kf kt (.ref r) (.int ((k : Int) - ((winP E k).2 : Int))) u9 u10 u11, H'⟩ ∧ Kept [] H H' ∧
      (winP E k).2 ≤ k + 1 ∧ 0 < (winP E k).2 ∧ H'[r]? = some (O.nats (lim w (b ^ (E / 2 ^ (k + 1 - (winP E k).2)) % m))) := by
  have ok := ok_by_windows
  have cb := bit_lim (d := d + 5) (n := k) B.ex hw hw8 hE hk
  rw [hbit] at cb
  have cw := window_spec (d := d + 4) B.ex hw hw8 hE hk hbit
  have hfact : ((winP E k).1 = 1 ∧ (winP E k).2 = 1) ∨ ((winP E k).1 = 3 ∧ (winP E k).2 = 2 ∧ 0 < k ∧ E / 2 ^ (k - 1) % 2 = 1) := by
    unfold winP
    by_cases h : 0 < k ∧ E / 2 ^ (k - 1) % 2 = 1
    · rw [if_pos h]; exact .inr ⟨rfl, rfl, h⟩
    · rw [if_neg h]; exact .inl ⟨rfl, rfl⟩
  generalize winP E k = W at *
  obtain ⟨v, n⟩ := W
  dsimp only at hfact cw ⊢
  have hnk : n ≤ k + 1 ∧ 0 < n := by omega
  -- the exponent behind the window
  have hexp : E / 2 ^ (k + 1 - n) = E / 2 ^ (k + 1) * 2 ^ n + v := by
    rcases hfact with ⟨rfl, rfl⟩ | ⟨rfl, rfl, h1, h2⟩
    · have := half_eq E k
      rw [Nat.add_sub_cancel]
      omega
    · have e1 := half_eq E k
      have e2 := half_eq E (k - 1)
      rw [Nat.sub_add_cancel h1] at e2
      rw [show k + 1 - 2 = k - 1 by omega]
      omega
  obtain ⟨H1, e1⟩ : ∃ H1, H1 = H ++ [.tup [.nat v, .nat n]] := ⟨_, rfl⟩
  have k1 : Kept [] H H1 := e1 ▸ Kept.app
  have p1 : H1[H.length]? = some (.tup [.nat v, .nat n]) := e1 ▸ hp_new
  rw [← e1] at cw
  have B1 := B.keep k1
  have st0 : ExecTo (d + 6) fi_by_windows (stmtOf (bodyOf (stmtOf fi_by_windows.body 3)) 0) ⟨bwLoc kb ke w ko kf kt F (.nat k) v9 v10 v11, H⟩ .next ⟨bwLoc kb ke w ko kf kt F (.nat k) v9 v10 v11, H⟩ := by
    apply ExecTo.ifF
    · ktr_rel
    · exact dF (by omega)
    · exact .nil
  have st1 : ExecTo (d + 6) fi_by_windows (stmtOf (bodyOf (stmtOf fi_by_windows.body 3)) 1) ⟨bwLoc kb ke w ko kf kt F (.nat k) v9 v10 v11, H⟩ .next ⟨bwLoc kb ke w ko kf kt F (.nat k) (.nat v) (.nat n) v11, H1⟩ := by
    apply ExecTo.as
    · apply ExecTo.tupCall2 ok (i := 9) (j := 10)
      · k_memK
      · k_memK
      · kst_all1 <;> k_ownIn
      · exact p1
      · exact fun _ => rfl
      · exact fun _ => rfl
    · rfl
  have hxs : ∃ kv, ([V.ref kb, V.ref k3])[v / 2]? = some (.ref kv) ∧ H1[kv]? = some (O.nats (lim w (b ^ v % m))) := by
    rcases hfact with ⟨rfl, rfl⟩ | ⟨rfl, rfl, h1, h2⟩
    · exact ⟨kb, rfl, B1.ba⟩
    · exact ⟨k3, rfl, B1.b3⟩
  obtain ⟨kv, x1, x2⟩ := hxs
  have st3 : ∀ {H2 : List O} {F' v11' : V}, ExecTo (d + 6) fi_by_windows (stmtOf (bodyOf (stmtOf fi_by_windows.body 3)) 3) ⟨bwLoc kb ke w ko kf kt F' (.nat k) (.nat v) (.nat n) v11', H2⟩ .next ⟨bwLoc kb ke w ko kf kt F' (.int ((k : Int) - (n : Int))) (.nat v) (.nat n) v11', H2⟩ := by
    intro H2 F' v11'
    refine ExecTo.as (ExecTo.aug (σ₁ := ⟨bwLoc kb ke w ko kf kt F' (.nat k) (.nat v) (.nat n) v11', H2⟩) ok (i := 8) (a := .nat k) (b := .nat n) ?_ rfl V.ne_int ?_ AugTo.sub) rfl
    · k_memK
    · ktr_rel
  rcases hF with ⟨rfl, h0, h1, h2⟩ | ⟨kk, rfl, hkk⟩
  · refine ⟨H1, kv, .nat v, .nat n, v11, ?_, k1, hnk.1, hnk.2, ?_⟩
    · apply ExecsTo.cons st0
      apply ExecsTo.cons st1
      apply ExecsTo.cons (σ₁ := ⟨bwLoc kb ke w ko kf kt (.ref kv) (.nat k) (.nat v) (.nat n) v11, H1⟩)
      · apply ExecTo.ifT (σ₁ := ⟨bwLoc kb ke w ko kf kt .none (.nat k) (.nat v) (.nat n) v11, H1⟩)
        · apply TestTo.isNone
          · ktr_rel
          · exact fun _ h => nomatch h
        · rfl
        · apply ExecsTo.one
          refine ExecTo.assignP ok 7 (v := .ref kv) ?_ ?_ (fun _ => rfl) rfl
          · k_memK
          · refine EvalTo.item (σ₁ := ⟨bwLoc kb ke w ko kf kt .none (.nat k) (.nat v) (.nat n) v11, H1⟩) (k := kt) (i := v / 2) (xs := [.ref kb, .ref k3]) ?_ ?_ B1.ta x1 (by omega)
            · ktr_rel
            · ktr_rel
      · exact ExecsTo.one st3
    · rw [hexp, h0, Nat.zero_mul, Nat.zero_add]
      exact x2
  · obtain ⟨H2, r2, u, run, k2, s2⟩ := sq_run (d := d + 1) (ko := ko) (S := .nat k) (v9 := .nat v) (v10 := .nat n) hw hw8 hm0 hm2 n 0 _ kk H1 v11 B1 (k1.of hkk)
    have B2 := B1.keep k2
    obtain ⟨H3, r3, c3, k3', s3⟩ := times_mod (d := d + 1) B2 s2 (k2.of x2) hw hw8 hm0 hm2
    refine ⟨H3, r3, .nat v, .nat n, u, ?_, k1.trans (k2.trans k3'), hnk.1, hnk.2, ?_⟩
    · apply ExecsTo.cons st0
      apply ExecsTo.cons st1
      apply ExecsTo.cons (σ₁ := ⟨bwLoc kb ke w ko kf kt (.ref r3) (.nat k) (.nat v) (.nat n) u, H3⟩)
      · apply ExecTo.ifF (σ₁ := ⟨bwLoc kb ke w ko kf kt (.ref kk) (.nat k) (.nat v) (.nat n) v11, H1⟩)
        · apply TestTo.isNone
          · ktr_rel
          · exact fun _ h => nomatch h
        · rfl
        · apply ExecsTo.cons (σ₁ := ⟨bwLoc kb ke w ko kf kt (.ref r2) (.nat k) (.nat v) (.nat n) u, H2⟩)
          · refine ExecTo.forRE ok (i := 11) (n := n) (a := (0 : Nat)) (c := 1) (σ₁ := ⟨bwLoc kb ke w ko kf kt (.ref kk) (.nat k) (.nat v) (.nat n) v11, H1⟩) ?_ ?_ (fun _ _ => rfl) run
            · k_memK
            · apply iterRange1
              · kst_all1
              · kst_all1
              · omega
              · exact fun _ => rfl
          · apply ExecsTo.one
            apply ExecTo.as
            · apply ExecTo.assign ok (i := 7)
              · k_memK
              · refine EvalTo.times ok (σ₂ := ⟨bwLoc kb ke w ko kf kt (.ref r2) (.nat k) (.nat v) (.nat n) u, H2⟩) (σ' := ⟨bwLoc kb ke w ko kf kt (.ref r2) (.nat k) (.nat v) (.nat n) u, H3⟩) B2.ti ?_ ?_ Kept.refl c3 rfl (fun _ => rfl) (fun _ => rfl)
                · kst_all1
                · refine EvalsTo.cons (σ₁ := ⟨bwLoc kb ke w ko kf kt (.ref r2) (.nat k) (.nat v) (.nat n) u, H2⟩) (v := .ref r2) ?_ (EvalsTo.cons (σ₁ := ⟨bwLoc kb ke w ko kf kt (.ref r2) (.nat k) (.nat v) (.nat n) u, H2⟩) (v := .ref kv) ?_ .nil (fun _ => rfl)) (fun _ => rfl)
                  · ktr_rel
                  · refine EvalTo.item (σ₁ := ⟨bwLoc kb ke w ko kf kt (.ref r2) (.nat k) (.nat v) (.nat n) u, H2⟩) (k := kt) (i := v / 2) (xs := [.ref kb, .ref k3]) ?_ ?_ (k2.of B1.ta) x1 (by omega)
                    · ktr_rel
                    · ktr_rel
              · exact fun _ => rfl
            · rfl
      · exact ExecsTo.one st3
    · rw [s3, hexp, Nat.pow_add b, Nat.pow_mul b]
end
end

section
/-! F16 -/
open PySem PySem.W PyProof.Rows PySem.Spec PySem.Calls
set_option maxRecDepth 100000
set_option maxHeartbeats 1000000

section
variable {d kb ke km kf kt k3 ko w m E b : Nat}

theorem FV_next {n n' : Nat} {r : Nat} {H : List O} (h : H[r]? = some (O.nats (lim w (b ^ (E / 2 ^ n') % m)))) : FV w m E b n' (.ref r) H := .inr ⟨r, rfl, h⟩

theorem bw_loop (hw : 0 < w) (hw8 : w ≤ 8) (hm0 : 0 < m) (hm2 : m < 2 ^ 20) (hE : E < 2 ^ 20) : ∀ N n, n < N → n ≤ 20 → ∀ (H : List O) (F v9 v10 v11 : V), BW kb ke km kf kt k3 w m E b H → FV w m E b n F H →
    ∃ H' r u9 u10 u11, (∃ cnt, WRun (d + 6) fi_by_windows (testOf (stmtOf fi_by_windows.body 3)) (bodyOf (stmtOf fi_by_windows.body 3)) cnt ⟨bwLoc kb ke w ko kf kt F (.int ((n : Int) - 1)) v9 v10 v11, H⟩ .next ⟨bwLoc kb ke w ko kf kt (.ref r) (.int (-1)) u9 u10 u11, H'⟩) ∧
      Kept [] H H' ∧ H'[r]? = some (O.nats (lim w (b ^ E % m))) := by
  have ok := ok_by_windows
  intro N
  induction N with
  | zero => intro n hn; omega
  | succ N ih =>
    intro n hn hn20 H F v9 v10 v11 B hF
    cases n with
    | zero =>
      rcases hF with ⟨rfl, h0, h1, h2⟩ | ⟨r, rfl, hr⟩
      · omega
      · rw [Nat.pow_zero, Nat.div_one] at hr
        refine ⟨H, r, v9, v10, v11, ?_, Kept.refl, hr⟩
        apply WRun.stopE
        show TestTo _ _ (Expr.Compare _ [_] [_] _) _ _ _
        ktr_rel
    | succ k =>
      rw [show ((k + 1 : Nat) : Int) - 1 = (k : Int) by omega]
      by_cases hbit : E / 2 ^ k % 2 = 1
      · obtain ⟨H1, r1, u9, u10, u11, ex, k1, l1, l2, s1⟩ := win_step (d := d) (ko := ko) (k := k) (v9 := v9) (v10 := v10) (v11 := v11) hw hw8 hm0 hm2 hE (by omega) hbit B hF
        obtain ⟨H2, r2, t9, t10, t11, run, k2, s2⟩ := ih (k + 1 - (winP E k).2) (by omega) (by omega) H1 (.ref r1) u9 u10 u11 (B.keep k1) (.inr ⟨r1, rfl, s1⟩)
        refine ⟨H2, r2, t9, t10, t11, ?_, k1.trans k2, s2⟩
        rw [show ((k + 1 - (winP E k).2 : Nat) : Int) - 1 = (k : Int) - ((winP E k).2 : Int) by omega] at run
        refine WRun.stepN (σ₁ := ⟨bwLoc kb ke w ko kf kt F (.nat k) v9 v10 v11, H⟩) ?_ ex run
        show TestTo _ _ (Expr.Compare _ [_] [_] _) _ _ _
        ktr_rel
      · rcases hF with ⟨rfl, h0, h1, h2⟩ | ⟨r, rfl, hr⟩
        · rw [Nat.add_sub_cancel] at h2
          exact absurd h2 hbit
        · have cb := bit_lim (d := d + 5) (n := k) B.ex hw hw8 hE (by omega)
          rw [show E / 2 ^ k % 2 = 0 by omega] at cb
          obtain ⟨H1, r1, c1, k1, s1⟩ := times_mod (d := d + 1) B hr hr hw hw8 hm0 hm2
          have e := half_eq E k
          rw [← Nat.pow_two, ← Nat.pow_mul, show E / 2 ^ (k + 1) * 2 = E / 2 ^ k by omega] at s1
          obtain ⟨H2, r2, t9, t10, t11, run, k2, s2⟩ := ih k (by omega) (by omega) H1 (.ref r1) v9 v10 v11 (B.keep k1) (.inr ⟨r1, rfl, s1⟩)
          refine ⟨H2, r2, t9, t10, t11, ?_, k1.trans k2, s2⟩
          refine WRun.stepE (f := .cont) (σ₁ := ⟨bwLoc kb ke w ko kf kt (.ref r) (.nat k) v9 v10 v11, H⟩) ?_ ?_ trivial run
          · show TestTo _ _ (Expr.Compare _ [_] [_] _) _ _ _
            ktr_rel
          · apply ExecsTo.stopC
            apply ExecTo.ifT
            · ktr_rel
            · decide
            · apply ExecsTo.cons (σ₁ := ⟨bwLoc kb ke w ko kf kt (.ref r1) (.nat k) v9 v10 v11, H1⟩)
              · apply ExecTo.as
                · apply ExecTo.assign ok (i := 7)
                  · k_memK
                  · refine EvalTo.times ok (σ₂ := ⟨bwLoc kb ke w ko kf kt (.ref r) (.nat k) v9 v10 v11, H⟩) (σ' := ⟨bwLoc kb ke w ko kf kt (.ref r) (.nat k) v9 v10 v11, H1⟩) B.ti ?_ ?_ Kept.refl c1 rfl (fun _ => rfl) (fun _ => rfl)
                    · kst_all1
                    · refine EvalsTo.cons (σ₁ := ⟨bwLoc kb ke w ko kf kt (.ref r) (.nat k) v9 v10 v11, H⟩) (v := .ref r) ?_ (EvalsTo.cons (σ₁ := ⟨bwLoc kb ke w ko kf kt (.ref r) (.nat k) v9 v10 v11, H⟩) (v := .ref r) ?_ .nil (fun _ => rfl)) (fun _ => rfl)
                      · ktr_rel
                      · ktr_rel
                  · exact fun _ => rfl
                · rfl
              apply ExecsTo.cons (σ₁ := ⟨bwLoc kb ke w ko kf kt (.ref r1) (.int ((k : Int) - 1)) v9 v10 v11, H1⟩)
              · refine ExecTo.as (ExecTo.aug (σ₁ := ⟨bwLoc kb ke w ko kf kt (.ref r1) (.nat k) v9 v10 v11, H1⟩) ok (i := 8) (a := .nat k) (b := .nat 1) ?_ rfl V.ne_int ?_ AugTo.sub) rfl
                · k_memK
                · ktr_rel
              exact ExecsTo.stopC ExecTo.cont

theorem by_windows_spec {H : List O} (ti : TimesAt kf w km H) (mo : H[km]? = some (O.nats (lim w m))) (ex : H[ke]? = some (O.nats (lim w E))) (ba : H[kb]? = some (O.nats (lim w (b % m)))) (one : H[ko]? = some (O.nats (lim w (1 % m)))) (hw : 0 < w) (hw8 : w ≤ 8) (hm0 : 0 < m) (hm2 : m < 2 ^ 20) (hE : E < 2 ^ 20) :
    ∃ H' r, CallTo (d + 7) (.val (.ref 135)) [.ref kb, .ref ke, .nat 2, .nat w, .ref ko, .ref kf] H (.ref r) H' ∧ Kept [] H H' ∧ H'[r]? = some (O.nats (lim w (b ^ E % m))) := by
  have ok := ok_by_windows
  by_cases h0 : E = 0
  · subst h0
    refine ⟨H, ko, ?_, Kept.refl, one⟩
    apply CallTo.of_body (fi := fi_by_windows) ok lk_by_windows rfl (by decide) (loc' := [.ref kb, .ref ke, .nat 2, .nat w, .ref ko, .ref kf, .undef, .undef, .undef, .undef, .undef, .undef])
    show ExecsTo _ _ _ ⟨[.ref kb, .ref ke, .nat 2, .nat w, .ref ko, .ref kf, .undef, .undef, .undef, .undef, .undef, .undef], H⟩ _ _
    apply ExecsTo.stopR
    apply ExecTo.ifT (σ₁ := ⟨[.ref kb, .ref ke, .nat 2, .nat w, .ref ko, .ref kf, .undef, .undef, .undef, .undef, .undef, .undef], H⟩)
    · apply TestTo.eqLit (ns := lim w 0) (ms := [])
      · kst_all1
      · exact EvalsTo.nil
      · exact ex
      · decide
    · exact dT (lim_zero w)
    · apply ExecsTo.ret
      ktr_rel
  · have hml := Nat.mod_lt b hm0
    obtain ⟨H1, kt, k3, c1, kk1, t1, t3⟩ := odd_powers_spec (d := d) ti mo ba hw hw8 hm0 hm2 hml
    have e3 : (b % m) ^ 3 % m = b ^ 3 % m := (Nat.pow_mod b 3 m).symm
    rw [e3] at t3
    have B : BW kb ke km kf kt k3 w m E b H1 := ⟨ti.keep kk1, kk1.of mo, kk1.of ex, t1, by rw [Nat.pow_one]; exact kk1.of ba, t3⟩
    obtain ⟨b1, b2, b3⟩ := bitLen_spec (Nat.pos_of_ne_zero h0)
    have hbl : bitLen E ≤ 20 := bitLen_le hE
    have cbits := bits_spec (d := d + 5) (w := w) B.ex (by have := lim_small hw (show E < 2 ^ 64 by omega); omega)
    rw [bitsP_eq hw] at cbits
    have hF : FV w m E b (bitLen E) .none H1 := by
      refine .inl ⟨rfl, Nat.div_eq_of_lt b3, b1, ?_⟩
      have h1 : E / 2 ^ (bitLen E - 1) = 1 := by
        apply Nat.div_eq_of_lt_le
        · omega
        · rw [show (1 + 1) * 2 ^ (bitLen E - 1) = 2 ^ (bitLen E - 1 + 1) by rw [Nat.pow_succ, Nat.mul_comm], Nat.sub_add_cancel b1]
          exact b3
      rw [h1]
    obtain ⟨H2, r, u9, u10, u11, run, kk2, s2⟩ := bw_loop (d := d) (ko := ko) hw hw8 hm0 hm2 hE (bitLen E + 1) (bitLen E) (by omega) hbl H1 .none .undef .undef .undef B hF
    refine ⟨H2, r, ?_, kk1.trans kk2, s2⟩
    apply CallTo.of_body (fi := fi_by_windows) ok lk_by_windows rfl (by decide) (loc' := bwLoc kb ke w ko kf kt (.ref r) (.int (-1)) u9 u10 u11)
    show ExecsTo _ _ _ ⟨[.ref kb, .ref ke, .nat 2, .nat w, .ref ko, .ref kf, .undef, .undef, .undef, .undef, .undef, .undef], H⟩ _ _
    apply ExecsTo.cons (σ₁ := ⟨[.ref kb, .ref ke, .nat 2, .nat w, .ref ko, .ref kf, .undef, .undef, .undef, .undef, .undef, .undef], H⟩)
    · apply ExecTo.ifF (σ₁ := ⟨[.ref kb, .ref ke, .nat 2, .nat w, .ref ko, .ref kf, .undef, .undef, .undef, .undef, .undef, .undef], H⟩)
      · apply TestTo.eqLit (ns := lim w E) (ms := [])
        · kst_all1
        · exact EvalsTo.nil
        · exact ex
        · decide
      · exact dF fun h => h0 ((lim_nil_iff hw).mp h)
      · exact .nil
    apply ExecsTo.cons (σ₁ := ⟨[.ref kb, .ref ke, .nat 2, .nat w, .ref ko, .ref kf, .ref kt, .none, .undef, .undef, .undef, .undef], H1⟩)
    · ktr_rel
    apply ExecsTo.cons (σ₁ := ⟨bwLoc kb ke w ko kf kt .none (.int ((bitLen E : Int) - 1)) .undef .undef .undef, H1⟩)
    · refine ExecTo.as (ExecTo.assign ok (i := 8) (v := .int ((bitLen E : Int) - ((1 : Nat) : Int))) (σ₁ := ⟨[.ref kb, .ref ke, .nat 2, .nat w, .ref ko, .ref kf, .ref kt, .none, .undef, .undef, .undef, .undef], H1⟩) ?_ (EvalTo.bin (σ₁ := ⟨[.ref kb, .ref ke, .nat 2, .nat w, .ref ko, .ref kf, .ref kt, .none, .undef, .undef, .undef, .undef], H1⟩) ?_ ?_ BinTo.sub) ?_) rfl
      · k_memK
      · ktr_rel
      · ktr_rel
      · exact fun _ => rfl
    apply ExecsTo.cons
    · exact ExecTo.whileE run
    apply ExecsTo.ret
    ktr_rel

theorem power_mod_spec {ka kt0 x : Nat} {H : List O} (ht : TabIn kt0 H) (ha : H[ka]? = some (O.nats (lim w x))) (he : H[ke]? = some (O.nats (lim w E))) (hm : H[km]? = some (O.nats (lim w m))) (n1 : ka ≠ kt0) (n2 : ke ≠ kt0) (n3 : km ≠ kt0) (hw : 0 < w) (hw8 : w ≤ 8) (hm0 : 0 < m) (hm2 : m < 2 ^ 20) (hE : E < 2 ^ 20) (hx : x < 2 ^ 20) :
    ∃ H' r, CallTo (d + 8) (.val (.ref 163)) [.ref ka, .ref ke, .ref km, .nat w, .nat 2, .val (.ref 189), .val (.ref 231)] H (.ref r) H' ∧ Kept [kt0] H H' ∧ TabIn kt0 H' ∧ H'[r]? = some (O.nats (lim w (x ^ E % m))) := by
  have ok := ok_power_mod
  have c0 := check_modulus_spec (d := d + 6) hm hw hm0
  obtain ⟨H1, p, q, kb, c1, k1, t1, t2, t3⟩ := divrem_spec (d := d + 3) ha hm hw hw8 (by omega) hm0 (by omega)
  have c2 := unit_rest_spec (d := d + 6) (k1.of hm) hw hm0
  obtain ⟨H2, e2⟩ : ∃ H2, H2 = H1 ++ [O.nats (lim w (1 % m))] := ⟨_, rfl⟩
  have k2 : Kept [] H1 H2 := e2 ▸ Kept.app
  have o2 : H2[H1.length]? = some (O.nats (lim w (1 % m))) := e2 ▸ hp_new
  rw [← e2] at c2
  have ht2 : TabIn kt0 H2 := by
    obtain ⟨t, h1, h2⟩ := ht
    exact ⟨t, k2.of (k1.of h1), fun kc hkc => ⟨k2.of (k1.of (h2 kc hkc).1), (h2 kc hkc).2⟩⟩
  obtain ⟨H3, kf, c3, k3, ht3, ti⟩ := divided_times_spec (d := d + 6) (km := km) (w := w) ht2
  have kkb : kb ≠ kt0 := by
    obtain ⟨t, h1, h2⟩ := ht
    intro e
    subst e
    have := k1.of h1
    rw [t3] at this
    cases this
  have kko : H1.length ≠ kt0 := by
    obtain ⟨t, h1, h2⟩ := ht
    exact hp_ne (k1.of h1)
  obtain ⟨H4, r, c4, k4, s4⟩ := by_windows_spec (d := d) (E := E) (b := x) (ko := H1.length) ti (k3 km _ (by simpa using n3) (k2.of (k1.of hm))) (k3 ke _ (by simpa using n2) (k2.of (k1.of he))) (k3 kb _ (by simpa using kkb) (k2.of t3)) (k3 H1.length _ (by simpa using kko) o2) hw hw8 hm0 hm2 hE
  refine ⟨H4, r, ?_, ?_, ?_, s4⟩
  · apply CallTo.of_body (fi := fi_power_mod) ok lk_power_mod rfl (by decide) (loc' := [.ref ka, .ref ke, .ref km, .nat w, .nat 2, .val (.ref 189), .val (.ref 231), .ref kb])
    show ExecsTo _ _ _ ⟨[.ref ka, .ref ke, .ref km, .nat w, .nat 2, .val (.ref 189), .val (.ref 231), .undef], H⟩ _ _
    apply ExecsTo.cons (σ₁ := ⟨[.ref ka, .ref ke, .ref km, .nat w, .nat 2, .val (.ref 189), .val (.ref 231), .undef], H⟩)
    · refine ExecTo.expr (v := .none) ?_ (fun _ => rfl) rfl
      ktr_rel
    apply ExecsTo.cons (σ₁ := ⟨[.ref ka, .ref ke, .ref km, .nat w, .nat 2, .val (.ref 189), .val (.ref 231), .ref kb], H1⟩)
    · apply ExecTo.as
      · apply ExecTo.assign ok (i := 7) (v := .ref kb)
        · k_memK
        · apply EvalTo.itemT
          · kst_all1
          · kst_all1
          · exact t1
          · rfl
          · decide
        · exact fun _ => rfl
      · rfl
    apply ExecsTo.ret
    ktr_rel
  · exact (((k1.trans k2).nil).trans k3).trans k4.nil
  · obtain ⟨t, h1, h2⟩ := ht3
    exact ⟨t, k4.of h1, fun kc hkc => ⟨k4.of (h2 kc hkc).1, (h2 kc hkc).2⟩⟩
end
end

section
/-! F17 -/
open PySem PySem.W PyProof.Rows PySem.Spec PySem.Calls
set_option maxRecDepth 100000
set_option maxHeartbeats 1000000

noncomputable abbrev fi_lb (n : Nat) : FI := { name := "last_bits", params := fdArgs (stAt 22), body := fdBody (stAt 22), scope := fdScope (stAt 22), addr := 168, code := 167, names := ["many"], gl := ["sum", "range"], cells := [("w", n), ("a", n + 1)] }
theorem lbNd : (["many"] : List Str).Nodup := by decide +kernel
theorem lbLoc : ∀ x ∈ (["many"] : List Str), (fdScope (stAt 22)).names.lookup x = some .local ∧ (x == ("__debug__" : Str)) = false := by decide +kernel
theorem lbGlo : ∀ x ∈ (["sum", "range"] : List Str), (fdScope (stAt 22)).names.lookup x = some .globalImplicit ∧ (x == ("__debug__" : Str)) = false := by decide +kernel
theorem lbCel : ∀ x ∈ (["w", "a"] : List Str), (fdScope (stAt 22)).names.lookup x = some .cell ∧ (x == ("__debug__" : Str)) = false ∧ (x == ("__classdict__" : Str)) = false := by decide +kernel
theorem lbNdC : (["w", "a"] : List Str).Nodup := by decide +kernel
theorem ok_lb {n : Nat} : FI.Ok (fi_lb n) := ⟨lbNd, lbLoc, lbGlo, rfl, rfl, rfl, by
  intro p hp
  have h := lbCel p.1 (List.mem_map_of_mem (f := (·.1)) hp)
  exact ⟨.inl h.1, h.2⟩, lbNdC⟩

theorem lbAt : AtC 168 167 "last_bits" (fdArgs (stAt 22)) (fdBody (stAt 22)) (fdScope (stAt 22)) ["a", "many", "w"] := by
  refine ⟨fun P => ⟨_, _, _, _, _, _, _, _, _, rfl, fun vs h => ?_⟩, fun P => by kernel_rfl⟩
  obtain ⟨v0, v1, v2, rfl⟩ := len3 h.symm
  rfl
theorem lbKinds : ∀ x ∈ (["a", "many", "w"] : List Str), ((fdScope (stAt 22)).names.lookup x == some .local || (fdScope (stAt 22)).names.lookup x == some .cell) = true := by decide +kernel

theorem CallTo.of_lb {d : Nat} {H H' : List O} {va vm vw v : V} {loc' : List V}
    (h : ExecsTo d (fi_lb H.length) (fdBody (stAt 22)) ⟨[vm], H ++ [O.cell vw, O.cell va]⟩ (.ret v) ⟨loc', H'⟩) : CallTo (d + 1) (.val (.ref 168)) [va, vm, vw] H v H' := ⟨by
  intro w p loose mean mg mb A₀ base h₀ outer dp un gd cn cs L a ccd cl m news extra ρ s fv vs Q B F X N T hk R nd hd hu hf hvs hQ
  cases hf
  obtain ⟨u1, u2, u3, rfl⟩ : ∃ u1 u2 u3, vs = [u1, u2, u3] := len3 hvs.length
  obtain ⟨k1, k2, k3, _⟩ := hvs
  obtain ⟨oc, od, osl, dV, kV, doc, pm, an, ct, hlook, hbind⟩ := lbAt.at_ w.params
  have ok := @ok_lb H.length
  refine wpAny_call ?_
  refine code_defC (A := ktrTop dp un gd cn cs L a ccd cl outer) B F X N T rfl rfl hk hlook (lbAt.code _) (show dp < recursionLimit by omega) (BindsTo.of_eq (hbind _ rfl)) ?_ ?_ ?_ rfl rfl rfl
  · exact List.all_eq_true.mpr fun y hy => lbKinds y.1 (List.of_mem_zip hy).1
  · decide +kernel
  · intro g L' h₁ tk cells F₀ F₁ N₁ Y B₁ X₁ T₁ hlt
    obtain ⟨o2, o1, rfl, e2, e1⟩ := Y.two
    have e2' : o2.data = .cell (some u3) := e2
    have e1' : o1.data = .cell (some u1) := e1
    let C' : RC d (fi_lb H.length) := ⟨w, p, loose, mean, mg, mb, _, base, envX cn cs L a ccd cl :: outer, dp + 1, un + 3, gd, L', g, extra, [("w", L' + 2), ("a", L' + 1)], B₁, X₁, T₁, by omega, by omega⟩
    have R₁ : HR (ρ ++ ([(L' + 2, o2), (L' + 1, o1)] : Led).map (·.1)) (H ++ [O.cell vw, O.cell va]) (news ++ [(L' + 2, o2), (L' + 1, o1)]) := by
      refine R.app rfl fun {k x p} hx hp => ?_
      match k with
      | 0 => cases hx; cases hp; exact cellP_mk (a := L' + 2) k3.mono e2'
      | 1 => cases hx; cases hp; exact cellP_mk (a := L' + 1) k1.mono e1'
      | n + 2 => cases hx
    have hρ : ρ.length = H.length := by rw [R.len, ← R.adr, List.length_map]
    have S : C'.SR ⟨[vm], H ++ [O.cell vw, O.cell va]⟩ (ρ ++ ([(L' + 2, o2), (L' + 1, o1)] : Led).map (·.1)) h₁ := by
      refine ⟨_, news ++ [(L' + 2, o2), (L' + 1, o1)], F₁, fun p hp => N₁ p ?_, R₁, ?_, ⟨⟨rfl, ?_, rfl, ?_, trivial⟩, rfl, fun {i x v} hi hx => ?_⟩⟩
      · simp only [List.mem_append] at hp ⊢
        rcases hp with (hp | hp) | hp
        · exact .inr (.inl hp)
        · exact .inl hp
        · exact .inr (.inr hp)
      · have nd' := nd
        simp only [List.map_append] at nd' ⊢
        refine nodup_mid nd' (L := L') (fun x hx => ?_) ?_ ?_
        · rw [← List.map_append] at hx
          obtain ⟨p, hp, rfl⟩ := List.mem_map.mp hx
          exact hlt p hp
        · simp
        · intro y hy
          simp only [List.map_cons, List.map_nil, List.mem_cons, List.not_mem_nil, or_false] at hy
          omega
      · rw [← hρ]; simp
      · rw [← hρ]; simp
      · match i with
        | 0 =>
          cases hi; cases hx
          exact VRo.of k2.mono
        | n + 1 => cases hx
    refine wpAny_mono (h.run C' _ { s with heap := h₁, toks := tk } (fun fl s' => LeaveK h₀ L m g _ (match fl with | .ret v => v | _ => .none) s') S fun τ fl s' m' S' hfl => ?_) (fun _ _ x => x) fun _ _ x => x.elim
    obtain ⟨u, rfl, hu'⟩ := hfl
    obtain ⟨m₂, news₂, F₂, N₂, R₂, nd₂, l₂⟩ := S'.ex
    have hs : Same s s' := by obtain ⟨h, tk, rfl⟩ := m'; exact ⟨h, tk, rfl⟩
    rw [List.append_assoc] at R₂ hu'
    exact leaveK_ F₂ N₂ fun kF kN => hQ _ u s' news₂ hs kF kN R₂ nd₂ hu'⟩

theorem UpTo_nats (f : Nat → Nat) (n : Nat) : O.list (UpTo (fun i => V.nat (f i)) n) = O.nats ((List.range n).map f) := by simp [UpTo, O.nats]
theorem bits_sum (x : Nat) : ∀ n, ((List.range n).map fun i => x / 2 ^ i % 2 * 2 ^ i).sum = x % 2 ^ n
  | 0 => by simp [Nat.mod_one]
  | n + 1 => by
    rw [List.range_succ, List.map_append, List.sum_append, bits_sum x n, List.map_cons, List.map_nil, List.sum_cons, List.sum_nil, Nat.add_zero, Nat.pow_succ, Nat.mod_mul, Nat.mul_comm (2 ^ n) (x / 2 ^ n % 2)]

theorem last_bits_spec {d ka many w x : Nat} {H : List O} (ha : H[ka]? = some (O.nats (lim w x))) (hw : 0 < w) (hw8 : w ≤ 8) (hx : x < 2 ^ 20) (hn : many ≤ 10) :
    ∃ H', CallTo (d + 2) (.val (.ref 168)) [.ref ka, .nat many, .nat w] H (.nat (x % 2 ^ many)) H' ∧ Kept [] H H' := by
  have ok := @ok_lb H.length
  obtain ⟨H1, e1⟩ : ∃ H1, H1 = H ++ [O.cell (.nat w), O.cell (.ref ka)] := ⟨_, rfl⟩
  have k1 : Kept [] H H1 := e1 ▸ Kept.app
  have p1 : H1[H.length]? = some (O.cell (.nat w)) := by rw [e1]; simp
  have p2 : H1[H.length + 1]? = some (O.cell (.ref ka)) := by rw [e1]; simp
  refine ⟨H1 ++ [O.nats ((List.range many).map fun i => x / 2 ^ i % 2 * 2 ^ i)], ?_, k1.trans Kept.app⟩
  apply CallTo.of_lb (loc' := [.nat many])
  rw [← e1]
  apply ExecsTo.ret
  rw [← bits_sum]
  refine EvalTo.sumN (σ₂ := ⟨[.nat many], H1 ++ [O.nats ((List.range many).map fun i => x / 2 ^ i % 2 * 2 ^ i)]⟩) ?_ ?_ hp_new (fun _ => rfl)
  · kst_all1
  · rw [← UpTo_nats]
    refine EvalTo.compRange (σ₁ := ⟨[.nat many], H1⟩) (a := 0) (n := many) (f := fun i => V.nat (x / 2 ^ i % 2 * 2 ^ i)) ?_ ?_ ?_ ?_ ?_ ?_ (by omega) ?_ (fun _ _ => rfl)
    · intro L cl hcl
      obtain ⟨x1, x2, rfl⟩ : ∃ x1 x2, cl = ([("w", x1), ("a", x2)] : List (Str × Addr)) := by
        match cl, hcl with
        | [(_, x1), (_, x2)], hcl =>
          simp only [List.map_cons, List.map_nil, List.cons.injEq, and_true] at hcl
          exact ⟨x1, x2, by rw [hcl.1, hcl.2]⟩
      rfl
    · decide +kernel
    · rfl
    · decide +kernel
    · decide +kernel
    · apply iterRange1
      · kst_all1
      · kst_all1
      · omega
      · exact fun _ => rfl
    · intro i hi
      rw [Nat.zero_add]
      have cb := bit_lim (d := d) (n := i) (k1.of ha) hw hw8 hx (by omega)
      refine EltTo.bin (a := .nat (x / 2 ^ i % 2)) (b := .nat i) ?_ (EltTo.var (by decide +kernel) rfl (by decide +kernel)) (BinTo.shlN (by omega) (by omega))
      refine EltTo.call (f := 107) (vs := [.ref ka, .nat i, .nat w]) (j := 7) ?_ (by decide) rfl ?_ (by decide +kernel) rfl ?_ (fun _ => rfl) (fun _ => rfl) cb
      · k_memK
      · intro env he
        unfold relabel Env.kindOf
        rw [show env.scope = fdScope (stAt 22) from he]
        decide +kernel
      · refine EltsTo.cons (v := .ref ka) (EltTo.free ok (j := 1) (k := H.length + 1) ?_ p2 V.ne_ref rfl ?_) (EltsTo.cons (v := .nat i) (EltTo.var (by decide +kernel) rfl (by decide +kernel)) (EltsTo.cons (v := .nat w) (EltTo.free ok (j := 0) (k := H.length) ?_ p1 V.ne_int rfl ?_) EltsTo.nil (fun _ => rfl)) (fun _ => rfl)) (fun _ => rfl)
        · k_memK
        · intro env he
          unfold relabel Env.kindOf
          rw [show env.scope = fdScope (stAt 22) from he]
          decide +kernel
        · k_memK
        · intro env he
          unfold relabel Env.kindOf
          rw [show env.scope = fdScope (stAt 22) from he]
          decide +kernel
end

section
/-! F18 -/
open PySem PySem.W PyProof.Rows PySem.Spec PySem.Calls
set_option maxRecDepth 100000
set_option maxHeartbeats 1000000

noncomputable def tsN (t x : Nat) : Int := if t % 2 = 1 ∧ (x % 8 = 3 ∨ x % 8 = 5) then -1 else 1
theorem two_sign_spec {d ka t w x : Nat} {H : List O} (ha : H[ka]? = some (O.nats (lim w x))) (hw : 0 < w) (hw8 : w ≤ 8) (hx : x < 2 ^ 20) :
    ∃ H', CallTo (d + 3) (.val (.ref 175)) [.nat t, .ref ka, .nat w] H (.int (tsN t x)) H' ∧ Kept [] H H' := by
  have ok := ok_two_sign
  obtain ⟨H1, c1, k1⟩ := last_bits_spec (d := d) (many := 3) ha hw hw8 hx (by decide)
  by_cases h1 : t % 2 = 1
  · refine ⟨H1, ?_, k1⟩
    apply CallTo.of_body (fi := fi_two_sign) ok lk_two_sign rfl (by decide) (loc' := [.nat t, .ref ka, .nat w])
    show ExecsTo _ _ _ ⟨[.nat t, .ref ka, .nat w], H⟩ _ _
    apply ExecsTo.ret
    have tst : ∀ {test : Expr}, True := fun {_} => trivial
    have any : ([3, 5] : List Int).any (· == ((x % 2 ^ 3 : Nat) : Int)) = decide (x % 8 = 3 ∨ x % 8 = 5) := by
      show ((3 : Int) == ((x % 8 : Nat) : Int) || (((5 : Int) == ((x % 8 : Nat) : Int)) || false)) = _
      have e1 : ((3 : Int) == ((x % 8 : Nat) : Int)) = decide (x % 8 = 3) := decide_cast (by omega)
      have e2 : ((5 : Int) == ((x % 8 : Nat) : Int)) = decide (x % 8 = 5) := decide_cast (by omega)
      rw [e1, e2, Bool.or_false, Bool.decide_or]
    by_cases h2 : x % 8 = 3 ∨ x % 8 = 5
    · rw [tsN, if_pos ⟨h1, h2⟩]
      refine EvalTo.iteT (σ₁ := ⟨[.nat t, .ref ka, .nat w], H1⟩) (b := ([3, 5] : List Int).any (· == ((x % 2 ^ 3 : Nat) : Int))) (TestTo.andT (σ₁ := ⟨[.nat t, .ref ka, .nat w], H⟩) (b := decide (t % 2 = 1)) ?_ (dT h1) (TestTo.inTuple (ns := [3, 5]) (σ₁ := ⟨[.nat t, .ref ka, .nat w], H1⟩) ?_ (EvalsTo.cons EvalTo.kLit (EvalsTo.cons EvalTo.kLit EvalsTo.nil (fun _ => rfl)) (fun _ => rfl)) rfl (by decide))) (by rw [any]; exact dT h2) (EvalTo.neg EvalTo.kLit)
      · ktr_rel
      · ktr_rel
    · rw [tsN, if_neg fun h => h2 h.2]
      refine EvalTo.iteF (σ₁ := ⟨[.nat t, .ref ka, .nat w], H1⟩) (b := ([3, 5] : List Int).any (· == ((x % 2 ^ 3 : Nat) : Int))) (TestTo.andT (σ₁ := ⟨[.nat t, .ref ka, .nat w], H⟩) (b := decide (t % 2 = 1)) ?_ (dT h1) (TestTo.inTuple (ns := [3, 5]) (σ₁ := ⟨[.nat t, .ref ka, .nat w], H1⟩) ?_ (EvalsTo.cons EvalTo.kLit (EvalsTo.cons EvalTo.kLit EvalsTo.nil (fun _ => rfl)) (fun _ => rfl)) rfl (by decide))) (by rw [any]; exact dF h2) EvalTo.kLit
      · ktr_rel
      · ktr_rel
  · refine ⟨H, ?_, Kept.refl⟩
    apply CallTo.of_body (fi := fi_two_sign) ok lk_two_sign rfl (by decide) (loc' := [.nat t, .ref ka, .nat w])
    show ExecsTo _ _ _ ⟨[.nat t, .ref ka, .nat w], H⟩ _ _
    apply ExecsTo.ret
    rw [tsN, if_neg fun h => h1 h.1]
    refine EvalTo.iteF (σ₁ := ⟨[.nat t, .ref ka, .nat w], H⟩) (b := false) (TestTo.andF (σ₁ := ⟨[.nat t, .ref ka, .nat w], H⟩) (b := decide (t % 2 = 1)) ?_ (dF h1)) rfl EvalTo.kLit
    ktr_rel
theorem tsN_abs (t x : Nat) : (tsN t x).natAbs = 1 := by unfold tsN; split <;> rfl

theorem tzF_le : ∀ f x, tzF f x ≤ f
  | 0, _ => Nat.le_refl _
  | f + 1, x => by
    rw [tzF]
    split
    · omega
    · have := tzF_le f (x / 2); omega
theorem tz_le (x : Nat) : tz x ≤ 20 := tzF_le 20 x

noncomputable def jacF : Nat → Int → Nat → Nat → Int
  | 0, _, _, _ => 0
  | k + 1, f, a, n => if a = 0 then (if n = 1 then f else 0) else
      jacF k (if a / 2 ^ tz a % 4 = 3 ∧ n % 4 = 3 then -(f * tsN (tz a) n) else f * tsN (tz a) n) (n % (a / 2 ^ tz a)) (a / 2 ^ tz a)
noncomputable def jacN (a n : Nat) : Int := jacF (a % n + 1) 1 (a % n) n

theorem jacobi_loop {d w : Nat} (hw : 0 < w) (hw8 : w ≤ 8) : ∀ N a n (f : Int) (ka kn : Nat) (H : List O) (v : V), a < N → a < 2 ^ 20 → 0 < n → n < 2 ^ 20 → f.natAbs ≤ 1 → H[ka]? = some (O.nats (lim w a)) → H[kn]? = some (O.nats (lim w n)) →
    ∃ H' ka' kn' n' f' u, (∃ cnt, WRun (d + 4) fi_jacobi (testOf (stmtOf fi_jacobi.body 2)) (bodyOf (stmtOf fi_jacobi.body 2)) cnt ⟨[.ref ka, .ref kn, .nat w, .val (.ref 231), .int f, v], H⟩ .next ⟨[.ref ka', .ref kn', .nat w, .val (.ref 231), .int f', u], H'⟩) ∧
      Kept [] H H' ∧ n' < 2 ^ 20 ∧ H'[kn']? = some (O.nats (lim w n')) ∧ (if n' = 1 then f' else 0) = jacF N f a n := by
  have ok := ok_jacobi
  intro N
  induction N with
  | zero => intro a; omega
  | succ N ih =>
    intro a n f ka kn H v haN ha20 hn0 hn20 hf hka hkn
    have la := lim_small hw (show a < 2 ^ 64 by omega)
    rw [jacF]
    by_cases h0 : a = 0
    · rw [if_pos h0]
      refine ⟨H, ka, kn, n, f, v, ?_, Kept.refl, hn20, hkn, rfl⟩
      apply WRun.stopE
      show TestTo _ _ (Expr.Compare _ [_] [_] _) _ _ _
      have hl : (lim w a).length = 0 := (lim_len0 hw).mpr h0
      ktr_rel
    · rw [if_neg h0]
      have hl : 0 < (lim w a).length := Nat.pos_of_ne_zero fun h => h0 ((lim_len0 hw).mp h)
      have ha256 : ∀ i, (lim w a).getD i 0 < 256 := fun i => Nat.lt_of_lt_of_le (Lim_lim hw a i) (Nat.pow_le_pow_right (by decide) hw8)
      have hex : ∃ i, 0 < (lim w a).getD i 0 := by
        rcases Nrm_lim hw a with h | h
        · omega
        · exact ⟨_, h⟩
      have c1 := trailing_spec (d := d + 3) (w := w) hka (by omega) ha256 hex
      rw [trailP_eq hw hw8 (by omega) ha20] at c1
      have c2 := shift_right_spec (d := d + 2) (n := tz a) (w := w) hka (by omega) ((Lim_lim hw a).lt60 hw8) hw (by omega) (by have := tz_le a; omega)
      obtain ⟨s1, s2⟩ := shrP_val (n := tz a) (Lim_lim hw a) hw
      rw [normalP_eq hw s1, s2, val_lim hw] at c2
      obtain ⟨H1, e1⟩ : ∃ H1, H1 = H ++ [O.nats (shrP (lim w a) (tz a) w), O.nats (lim w (a / 2 ^ tz a))] := ⟨_, rfl⟩
      have k1 : Kept [] H H1 := e1 ▸ Kept.app
      have p1 : H1[H.length + 1]? = some (O.nats (lim w (a / 2 ^ tz a))) := by rw [e1]; simp
      rw [← e1] at c2
      clear e1
      obtain ⟨z1, z2⟩ := tzF_spec 20 a (by omega) ha20
      change a % 2 ^ tz a = 0 at z1
      change a / 2 ^ tz a % 2 = 1 at z2
      have hba : a / 2 ^ tz a ≤ a := Nat.div_le_self _ _
      generalize a / 2 ^ tz a = b at *
      generalize tz a = t at *
      have hb0 : 0 < b := by omega
      generalize H.length + 1 = kb at *
      obtain ⟨H2, c3, k2⟩ := two_sign_spec (d := d + 1) (t := t) (k1.of hkn) hw hw8 hn20
      have p2 := k2.of p1
      have q2 := k2.of (k1.of hkn)
      have hts := tsN_abs t n
      have hf1 : (f * tsN t n).natAbs ≤ 1 := by rw [Int.natAbs_mul, hts, Nat.mul_one]; exact hf
      obtain ⟨H3, c4, k3⟩ := last_bits_spec (d := d + 2) (many := 2) p2 hw hw8 (by omega) (by decide)
      -- the sign turns, or not
      have turn : ∃ H4, ExecTo (d + 4) fi_jacobi (stmtOf (bodyOf (stmtOf fi_jacobi.body 2)) 3) ⟨[.ref kb, .ref kn, .nat w, .val (.ref 231), .int (f * tsN t n), .nat t], H2⟩ .next ⟨[.ref kb, .ref kn, .nat w, .val (.ref 231), .int (if b % 4 = 3 ∧ n % 4 = 3 then -(f * tsN t n) else f * tsN t n), .nat t], H4⟩ ∧ Kept [] H2 H4 := by
        by_cases h3 : b % 4 = 3
        · obtain ⟨H4, c5, k4⟩ := last_bits_spec (d := d + 2) (many := 2) (k3.of q2) hw hw8 hn20 (by decide)
          refine ⟨H4, ?_, k3.trans k4⟩
          by_cases h4 : n % 4 = 3
          · rw [if_pos ⟨h3, h4⟩]
            refine ExecTo.ifT (σ₁ := ⟨[.ref kb, .ref kn, .nat w, .val (.ref 231), .int (f * tsN t n), .nat t], H4⟩) (b := decide (n % 2 ^ 2 = 3)) (TestTo.andT (σ₁ := ⟨[.ref kb, .ref kn, .nat w, .val (.ref 231), .int (f * tsN t n), .nat t], H3⟩) (b := decide (b % 2 ^ 2 = 3)) ?_ (dT h3) ?_) (dT h4) (ExecsTo.one (ExecTo.assignP ok 4 (v := .int (-(f * tsN t n))) ?_ (EvalTo.neg ?_) (fun _ => rfl) rfl))
            · ktr_rel
            · ktr_rel
            · k_memK
            · ktr_rel
          · rw [if_neg fun h => h4 h.2]
            refine ExecTo.ifF (σ₁ := ⟨[.ref kb, .ref kn, .nat w, .val (.ref 231), .int (f * tsN t n), .nat t], H4⟩) (b := decide (n % 2 ^ 2 = 3)) (TestTo.andT (σ₁ := ⟨[.ref kb, .ref kn, .nat w, .val (.ref 231), .int (f * tsN t n), .nat t], H3⟩) (b := decide (b % 2 ^ 2 = 3)) ?_ (dT h3) ?_) (dF h4) .nil
            · ktr_rel
            · ktr_rel
        · refine ⟨H3, ?_, k3⟩
          rw [if_neg fun h => h3 h.1]
          refine ExecTo.ifF (σ₁ := ⟨[.ref kb, .ref kn, .nat w, .val (.ref 231), .int (f * tsN t n), .nat t], H3⟩) (b := false) (TestTo.andF (σ₁ := ⟨[.ref kb, .ref kn, .nat w, .val (.ref 231), .int (f * tsN t n), .nat t], H3⟩) (b := decide (b % 2 ^ 2 = 3)) ?_ (dF h3)) rfl .nil
          ktr_rel
      obtain ⟨H4, st3, k4⟩ := turn
      obtain ⟨H5, p, q, r, c6, k5, t1, t2, t3⟩ := divrem_spec (d := d) (k4.of q2) (k4.of p2) hw hw8 (by omega) hb0 (by omega)
      have hf2 : (if b % 4 = 3 ∧ n % 4 = 3 then -(f * tsN t n) else f * tsN t n).natAbs ≤ 1 := by
        split
        · rw [Int.natAbs_neg]; exact hf1
        · exact hf1
      have hmod := Nat.mod_lt n hb0
      generalize (if b % 4 = 3 ∧ n % 4 = 3 then -(f * tsN t n) else f * tsN t n) = f2 at *
      obtain ⟨H6, ka', kn', n', f', u, run, k6, r1, r2, r3⟩ := ih (n % b) b f2 r kb H5 (.nat t) (by omega) (by omega) hb0 (by omega) hf2 t3 (k5.of (k4.of p2))
      refine ⟨H6, ka', kn', n', f', u, ?_, k1.trans (k2.trans (k4.trans (k5.trans k6))), r1, r2, r3⟩
      refine WRun.stepN (σ₁ := ⟨[.ref ka, .ref kn, .nat w, .val (.ref 231), .int f, v], H⟩) ?_ ?_ run
      · show TestTo _ _ (Expr.Compare _ [_] [_] _) _ _ _
        ktr_rel
      · apply ExecsTo.cons (σ₁ := ⟨[.ref ka, .ref kn, .nat w, .val (.ref 231), .int f, .nat t], H⟩)
        · ktr_rel
        apply ExecsTo.cons (σ₁ := ⟨[.ref kb, .ref kn, .nat w, .val (.ref 231), .int f, .nat t], H1⟩)
        · ktr_rel
        apply ExecsTo.cons (σ₁ := ⟨[.ref kb, .ref kn, .nat w, .val (.ref 231), .int (f * tsN t n), .nat t], H2⟩)
        · apply ExecTo.as
          · apply ExecTo.assign ok (i := 4)
            · k_memK
            · refine EvalTo.bin (op := .Mult) (σ₁ := ⟨[.ref kb, .ref kn, .nat w, .val (.ref 231), .int f, .nat t], H1⟩) (σ₂ := ⟨[.ref kb, .ref kn, .nat w, .val (.ref 231), .int f, .nat t], H2⟩) (a := .int f) (b := .int (tsN t n)) ?_ ?_ (BinTo.mul (by omega))
              · ktr_rel
              · ktr_rel
            · exact fun _ => rfl
          · rfl
        apply ExecsTo.cons st3
        apply ExecsTo.one
        apply ExecTo.as
        · apply ExecTo.tup2 ok (i := 0) (j := 1)
          · k_memK
          · k_memK
          · apply EvalTo.itemT
            · kst_all1
            · kst_all1
            · exact t1
            · rfl
            · decide
          · kst_all1
          · exact fun _ => rfl
          · exact fun _ => rfl
          · exact fun _ => rfl
          · exact fun _ _ => rfl
        · rfl

theorem jacobi_spec {d ka kn w a n : Nat} {H : List O} (ha : H[ka]? = some (O.nats (lim w a))) (hn : H[kn]? = some (O.nats (lim w n))) (hw : 0 < w) (hw8 : w ≤ 8) (ha2 : a < 2 ^ 20) (hn2 : n < 2 ^ 20) (hodd : n % 2 = 1) :
    ∃ H', CallTo (d + 5) (.val (.ref 182)) [.ref ka, .ref kn, .nat w, .val (.ref 231)] H (.int (jacN a n)) H' ∧ Kept [] H H' := by
  have ok := ok_jacobi
  have ln := lim_small hw (show n < 2 ^ 64 by omega)
  have c0 := is_even_spec (d := d + 3) hn (by omega)
  rw [evenP_eq hw, dF (show ¬ n % 2 = 0 by omega)] at c0
  obtain ⟨H1, p, q, r, c1, k1, t1, t2, t3⟩ := divrem_spec (d := d) ha hn hw hw8 (by omega) (by omega) (by omega)
  have hm := Nat.mod_lt a (show 0 < n by omega)
  obtain ⟨H2, ka', kn', n', f', u, run, k2, r1, r2, r3⟩ := jacobi_loop (d := d) hw hw8 (a % n + 1) (a % n) n 1 r kn H1 .undef (by omega) (by omega) (by omega) hn2 (by decide) t3 (k1.of hn)
  have c3 := compare_spec (d := d + 3) (ka := kn') (kb := H2.length) (H := H2 ++ [O.nats [1]]) (hp_old r2) hp_new (by have := lim_small hw (show n' < 2 ^ 64 by omega); omega) (by decide)
  rw [← lim_one hw, cmpP_eq hw, lim_one hw] at c3
  refine ⟨H2 ++ [O.nats [1]], ?_, (k1.trans k2).trans Kept.app⟩
  apply CallTo.of_body (fi := fi_jacobi) ok lk_jacobi rfl (by decide) (loc' := [.ref ka', .ref kn', .nat w, .val (.ref 231), .int f', u])
  show ExecsTo _ _ _ ⟨[.ref ka, .ref kn, .nat w, .val (.ref 231), .undef, .undef], H⟩ _ _
  apply ExecsTo.cons (σ₁ := ⟨[.ref ka, .ref kn, .nat w, .val (.ref 231), .undef, .undef], H⟩)
  · refine ExecTo.ifF (σ₁ := ⟨[.ref ka, .ref kn, .nat w, .val (.ref 231), .undef, .undef], H⟩) (b := false) (TestTo.plain ?_ (fun _ => rfl)) rfl .nil
    ktr_rel
  apply ExecsTo.cons (σ₁ := ⟨[.ref r, .ref kn, .nat w, .val (.ref 231), .int 1, .undef], H1⟩)
  · apply ExecTo.as
    · apply ExecTo.tup2 ok (i := 4) (j := 0)
      · k_memK
      · k_memK
      · exact EvalTo.kLit
      · apply EvalTo.itemT
        · kst_all1
        · kst_all1
        · exact t1
        · rfl
        · decide
      · exact fun _ => rfl
      · exact fun _ => rfl
      · exact fun _ => rfl
      · exact fun _ _ => rfl
    · rfl
  apply ExecsTo.cons
  · exact ExecTo.whileE run
  apply ExecsTo.ret
  unfold jacN
  rw [← r3]
  by_cases h1 : n' = 1
  · subst h1
    rw [if_pos rfl]
    rw [if_neg (by omega), if_pos rfl] at c3
    refine EvalTo.iteT (σ₁ := ⟨[.ref ka', .ref kn', .nat w, .val (.ref 231), .int f', u], H2 ++ [O.nats [1]]⟩) (b := decide ((0 : Int) = ((0 : Nat) : Int))) ?_ (by decide) ?_
    · ktr_rel
    · ktr_rel
  · rw [if_neg h1]
    have hne : (if n' < 1 then (-1 : Int) else if n' = 1 then 0 else 1) ≠ 0 := by
      rw [if_neg h1]; split <;> decide
    generalize (if n' < 1 then (-1 : Int) else if n' = 1 then 0 else 1) = c at *
    refine EvalTo.iteF (σ₁ := ⟨[.ref ka', .ref kn', .nat w, .val (.ref 231), .int f', u], H2 ++ [O.nats [1]]⟩) (b := decide (c = ((0 : Nat) : Int))) ?_ (dF hne) ?_
    · ktr_rel
    · ktr_rel
end

section
/-! F19 -/
open PySem PySem.W PyProof.Rows PySem.Spec PySem.Calls
set_option maxRecDepth 100000
set_option maxHeartbeats 1000000

/-! _law_limbs -/
theorem law_limbs_loop {d w : Nat} {H : List O} (hw : 0 < w) (hw8 : w ≤ 8) : ∀ N x f, x < N → x < 2 ^ 40 → f.length + (lim w x).length ≤ 2 ^ 10 →
    ∃ cnt, WRun d fi_law_limbs (testOf (stmtOf fi_law_limbs.body 1)) (bodyOf (stmtOf fi_law_limbs.body 1)) cnt ⟨[.nat x, .nat w, .ref H.length], H ++ [O.nats f]⟩ .next ⟨[.nat 0, .nat w, .ref H.length], H ++ [O.nats (f ++ lim w x)]⟩ := by
  have ok := ok_law_limbs
  have hB : 2 ^ w ≤ 2 ^ 8 := Nat.pow_le_pow_right (by decide) hw8
  have hB1 : 2 ^ 1 ≤ 2 ^ w := Nat.pow_le_pow_right (by decide) hw
  intro N
  induction N with
  | zero => intro x f h; omega
  | succ N ih =>
    intro x f hx hx2 hl
    by_cases h0 : x = 0
    · subst h0
      rw [lim_zero, List.append_nil]
      apply WRun.stopE
      show TestTo _ _ (Expr.Compare _ [_] [_] _) _ _ _
      ktr_rel
    · have hpos : 0 < x := by omega
      have e := lim_pos hw hpos
      have hd : x / 2 ^ w < x := Nat.div_lt_self hpos (by omega)
      rw [e] at hl ⊢
      have run := ih (x / 2 ^ w) (f ++ [x % 2 ^ w]) (by omega) (by omega) (by simp at hl ⊢; omega)
      rw [List.append_assoc, List.singleton_append] at run
      refine WRun.stepN (σ₁ := ⟨[.nat x, .nat w, .ref H.length], H ++ [O.nats f]⟩) ?_ ?_ run
      · show TestTo _ _ (Expr.Compare _ [_] [_] _) _ _ _
        ktr_rel
      · have hf : f.length ≤ 2 ^ 20 := by omega
        apply ExecsTo.cons (σ₁ := ⟨[.nat x, .nat w, .ref H.length], H ++ [O.nats (f ++ [x % 2 ^ w])]⟩)
        · ktr_rel
        tb_rel

theorem law_limbs_spec {d w x : Nat} {H : List O} (hw : 0 < w) (hw8 : w ≤ 8) (hx : x < 2 ^ 40) : CallTo (d + 1) (.val (.ref 245)) [.nat x, .nat w] H (.ref H.length) (H ++ [O.nats (lim w x)]) := by
  have ok := ok_law_limbs
  have hl := lim_small hw (show x < 2 ^ 64 by omega)
  have run := law_limbs_loop (d := d) (H := H) hw hw8 (x + 1) x [] (by omega) hx (by simp; omega)
  rw [List.nil_append] at run
  apply CallTo.of_body (fi := fi_law_limbs) ok lk_law_limbs rfl (by decide) (loc' := [.nat 0, .nat w, .ref H.length])
  show ExecsTo _ _ _ ⟨[.nat x, .nat w, .undef], H⟩ _ _
  apply ExecsTo.cons (σ₁ := ⟨[.nat x, .nat w, .ref H.length], H ++ [O.nats []]⟩)
  · ktr_rel
  apply ExecsTo.cons
  · exact ExecTo.whileE run
  apply ExecsTo.ret
  ktr_rel

theorem TabIn.keep {kt : Nat} {H H' : List O} (h : TabIn kt H) (k : Kept [] H H') : TabIn kt H' := by
  obtain ⟨t, h1, h2⟩ := h
  exact ⟨t, k.of h1, fun kc hkc => ⟨k.of (h2 kc hkc).1, (h2 kc hkc).2⟩⟩
theorem TabIn.ne {kt : Nat} {H : List O} (h : TabIn kt H) : H.length ≠ kt := by
  obtain ⟨t, h1, h2⟩ := h
  exact hp_ne h1

/-! _law_raised -/
theorem law_raised_spec {d ka kn kt w x m E : Nat} {H : List O} (ht : TabIn kt H) (ha : H[ka]? = some (O.nats (lim w x))) (hn : H[kn]? = some (O.nats (lim w m))) (n1 : ka ≠ kt) (n3 : kn ≠ kt) (hw : 0 < w) (hw8 : w ≤ 8) (hm0 : 0 < m) (hm2 : m < 2 ^ 20) (hE : E < 2 ^ 20) (hx : x < 2 ^ 20) :
    ∃ H' r, CallTo (d + 9) (.val (.ref 252)) [.ref ka, .nat E, .ref kn, .nat w] H (.ref r) H' ∧ Kept [kt] H H' ∧ TabIn kt H' ∧ H'[r]? = some (O.nats (lim w (x ^ E % m))) := by
  have ok := ok_law_raised
  have c1 := law_limbs_spec (d := d + 7) (w := w) (x := E) (H := H) hw hw8 (by omega)
  have k1 : Kept [] H (H ++ [O.nats (lim w E)]) := Kept.app
  have p1 : (H ++ [O.nats (lim w E)])[H.length]? = some (O.nats (lim w E)) := hp_new
  have ht1 := ht.keep k1
  have ne1 := ht.ne
  generalize H ++ [O.nats (lim w E)] = H1 at *
  obtain ⟨H2, r, c2, k2, t2, s2⟩ := power_mod_spec (d := d) ht1 (k1.of ha) p1 (k1.of hn) n1 ne1 n3 hw hw8 hm0 hm2 hE hx
  refine ⟨H2, r, ?_, (k1.nil).trans k2, t2, s2⟩
  apply CallTo.of_body (fi := fi_law_raised) ok lk_law_raised rfl (by decide) (loc' := [.ref ka, .nat E, .ref kn, .nat w])
  show ExecsTo _ _ _ ⟨[.ref ka, .nat E, .ref kn, .nat w], H⟩ _ _
  apply ExecsTo.ret
  ktr_rel

/-! _law_times -/
theorem law_times_spec {d ka kb kn w x y m : Nat} {H : List O} (ha : H[ka]? = some (O.nats (lim w x))) (hb : H[kb]? = some (O.nats (lim w y))) (hn : H[kn]? = some (O.nats (lim w m))) (hw : 0 < w) (hw8 : w ≤ 8) (hm0 : 0 < m) (hm2 : m < 2 ^ 20) (hx : x < 2 ^ 20) (hy : y < 2 ^ 20) :
    ∃ H' r, CallTo (d + 5) (.val (.ref 259)) [.ref ka, .ref kb, .ref kn, .nat w] H (.ref r) H' ∧ Kept [] H H' ∧ H'[r]? = some (O.nats (lim w (x * y % m))) := by
  have ok := ok_law_times
  have lx := lim_small hw (show x < 2 ^ 64 by omega)
  have ly := lim_small hw (show y < 2 ^ 64 by omega)
  have hxy : x * y < 2 ^ 64 := by
    have : x * y ≤ 2 ^ 20 * 2 ^ 20 := Nat.mul_le_mul (by omega) (by omega)
    omega
  have c1 := mul_school_spec (d := d + 2) (w := w) ha hb (by omega) (by omega) ((Lim_lim hw x).lt60 hw8) (by omega)
  rw [mul_eq hw] at c1
  obtain ⟨H1, e1⟩ : ∃ H1, H1 = H ++ [O.nats (mulP (lim w x) (lim w y) w), O.nats (lim w (x * y))] := ⟨_, rfl⟩
  have k1 : Kept [] H H1 := e1 ▸ Kept.app
  have p1 : H1[H.length + 1]? = some (O.nats (lim w (x * y))) := by rw [e1]; simp
  rw [← e1] at c1
  clear e1
  obtain ⟨H2, p, q, r, c2, k2, t1, t2, t3⟩ := divrem_spec (d := d) p1 (k1.of hn) hw hw8 hxy hm0 (by omega)
  refine ⟨H2, r, ?_, k1.trans k2, t3⟩
  apply CallTo.of_body (fi := fi_law_times) ok lk_law_times rfl (by decide) (loc' := [.ref ka, .ref kb, .ref kn, .nat w])
  show ExecsTo _ _ _ ⟨[.ref ka, .ref kb, .ref kn, .nat w], H⟩ _ _
  apply ExecsTo.ret
  apply EvalTo.itemT
  · kst_all1
  · kst_all1
  · exact t1
  · rfl
  · decide

/-! _law_squarings -/
noncomputable def sqN (m : Nat) : Nat → Nat → Nat → Option Nat
  | 0, _, _ => Option.none
  | k + 1, pos, x => if x = 1 then some pos else sqN m k (pos + 1) (x * x % m)
noncomputable def optV : Option Nat → V
  | Option.none => .none
  | some k => .nat k

theorem sq_loop {d kn w m most : Nat} (hw : 0 < w) (hw8 : w ≤ 8) (hm0 : 0 < m) (hm2 : m < 2 ^ 20) : ∀ (n pos x ka : Nat) (H : List O) (v : V), x < m → H[ka]? = some (O.nats (lim w x)) → H[kn]? = some (O.nats (lim w m)) →
    ∃ H' ka' u, Kept [] H H' ∧ RunR (d + 5) fi_law_squarings (bodyOf (stmtOf fi_law_squarings.body 0)) 4 (upFrom (pos : Int) 1 n) ⟨[.ref ka, .ref kn, .nat w, .nat most, v], H⟩ (match sqN m n pos x with | Option.none => .next | some k => .ret (.nat k)) ⟨[.ref ka', .ref kn, .nat w, .nat most, u], H'⟩ := by
  have ok := ok_law_squarings
  intro n
  induction n with
  | zero => exact fun pos x ka H v _ _ _ => ⟨H, ka, v, Kept.refl, .nil⟩
  | succ n ih =>
    intro pos x ka H v hx ha hn
    rw [up_up]
    unfold sqN
    have st : ∀ {b : Bool}, b = decide (lim w x = [1]) → TestTo (d + 5) fi_law_squarings (testOf (stmtOf (bodyOf (stmtOf fi_law_squarings.body 0)) 0)) ⟨[.ref ka, .ref kn, .nat w, .nat most, .nat pos], H⟩ b ⟨[.ref ka, .ref kn, .nat w, .nat most, .nat pos], H⟩ := by
      intro b hb
      subst hb
      apply TestTo.eqLit (ns := lim w x) (ms := [1]) (σ₁ := ⟨[.ref ka, .ref kn, .nat w, .nat most, .nat pos], H⟩)
      · kst_all1
      · exact EvalsTo.cons EvalTo.kLit EvalsTo.nil (fun _ => rfl)
      · exact ha
      · decide
    by_cases h1 : x = 1
    · rw [if_pos h1]
      refine ⟨H, ka, .nat pos, Kept.refl, RunR.ret ?_⟩
      apply ExecsTo.stopR
      apply ExecTo.ifT (st rfl)
      · exact dT (by rw [h1]; exact lim_one hw)
      · apply ExecsTo.ret
        ktr_rel
    · rw [if_neg h1]
      obtain ⟨H1, r, c1, k1, s1⟩ := law_times_spec (d := d) ha ha hn hw hw8 hm0 hm2 (by omega) (by omega)
      obtain ⟨H2, ka', u, k2, run⟩ := ih (pos + 1) (x * x % m) r H1 (.nat pos) (Nat.mod_lt _ hm0) s1 (k1.of hn)
      refine ⟨H2, ka', u, k1.trans k2, RunR.stepN ?_ run⟩
      apply ExecsTo.cons (σ₁ := ⟨[.ref ka, .ref kn, .nat w, .nat most, .nat pos], H⟩)
      · apply ExecTo.ifF (st rfl)
        · refine dF fun h => h1 ?_
          rw [← lim_one hw] at h
          exact (lim_inj hw).mp h
        · exact .nil
      tb_rel

theorem law_squarings_spec {d ka kn w m x most : Nat} {H : List O} (ha : H[ka]? = some (O.nats (lim w x))) (hn : H[kn]? = some (O.nats (lim w m))) (hw : 0 < w) (hw8 : w ≤ 8) (hm0 : 0 < m) (hm2 : m < 2 ^ 20) (hx : x < m) (hmost : most < 2 ^ 20) :
    ∃ H', CallTo (d + 6) (.val (.ref 266)) [.ref ka, .ref kn, .nat w, .nat most] H (optV (sqN m (most + 1) 0 x)) H' ∧ Kept [] H H' := by
  have ok := ok_law_squarings
  obtain ⟨H', ka', u, k1, run⟩ := sq_loop (d := d) (most := most) hw hw8 hm0 hm2 (most + 1) 0 x ka H .undef hx ha hn
  refine ⟨H', ?_, k1⟩
  apply CallTo.of_body (fi := fi_law_squarings) ok lk_law_squarings rfl (by decide) (loc' := [.ref ka', .ref kn, .nat w, .nat most, u])
  show ExecsTo _ _ _ ⟨[.ref ka, .ref kn, .nat w, .nat most, .undef], H⟩ _ _
  have hit : IterR (d + 5) fi_law_squarings (match stmtOf fi_law_squarings.body 0 with | .For _ it _ _ _ => it | _ => .Constant .none 0 ⟨0, 0, 0, 0⟩) ⟨[.ref ka, .ref kn, .nat w, .nat most, .undef], H⟩ ((0 : Nat) : Int) 1 (most + 1) ⟨[.ref ka, .ref kn, .nat w, .nat most, .undef], H⟩ := by
    apply iterRange1
    · kst_all1
    · kst_all1
    · omega
    · exact fun _ => rfl
  cases h : sqN m (most + 1) 0 x with
  | none =>
    rw [h] at run
    apply ExecsTo.cons
    · refine ExecTo.forRE ok (i := 4) ?_ hit (fun _ _ => rfl) run
      k_memK
    · apply ExecsTo.ret
      exact EvalTo.kNone
  | some k =>
    rw [h] at run
    apply ExecsTo.stopR
    refine ExecTo.forRE ok (i := 4) ?_ hit (fun _ _ => rfl) run
    k_memK

/-! _law_dug -/
theorem law_dug_spec {d km ks c many : Nat} {H : List O} {sp : List Nat} (hm : H[km]? = some (.list [.nat c, .ref ks])) (hs : H[ks]? = some (O.nats sp)) (hne : ks ≠ km) (hlen : sp.length ≤ 2 ^ 10) (hc : c < 2 ^ 10) (h0 : 0 < many) :
    ∃ r, r < many ∧ CallTo (d + 1) (.val (.ref 238)) [.ref km, .nat many] H (.nat r) (H.set km (.list [.nat (c + 1), .ref ks])) := by
  have ok := ok_law_dug
  have hm1 : (H.set km (.list [.nat (c + 1), .ref ks]))[km]? = some (.list [.nat (c + 1), .ref ks]) := hp_set hm
  have hs1 : (H.set km (.list [.nat (c + 1), .ref ks]))[ks]? = some (O.nats sp) := hp_off hs hne.symm
  have st0 : ExecTo d fi_law_dug (stmtOf fi_law_dug.body 0) ⟨[.ref km, .nat many], H⟩ .next ⟨[.ref km, .nat many], H.set km (.list [.nat (c + 1), .ref ks])⟩ := by
    refine ExecTo.as (ExecTo.setItem (v := .nat (c + 1)) (k := km) (i := 0) (xs := [.nat c, .ref ks]) (σ₁ := ⟨[.ref km, .nat many], H⟩) (σ₂ := ⟨[.ref km, .nat many], H⟩) (σ₃ := ⟨[.ref km, .nat many], H⟩) (EvalTo.bin (a := .nat c) (b := .nat 1) (σ₁ := ⟨[.ref km, .nat many], H⟩) (EvalTo.item (k := km) (i := 0) (σ₁ := ⟨[.ref km, .nat many], H⟩) ?_ EvalTo.kLit hm rfl (by decide)) EvalTo.kLit BinTo.addN) ?_ EvalTo.kLit hm (by simp) (by decide) (fun _ => rfl)) rfl
    · ktr_rel
    · ktr_rel
  generalize H.set km (.list [.nat (c + 1), .ref ks]) = H1 at *
  have m0 : ∀ {p1 p2 p3 : Pos} {kk : Nat}, EvalTo d fi_law_dug (.Subscript (.Name "mine" p1) (.Constant (.int 0) kk p2) p3) ⟨[.ref km, .nat many], H1⟩ (.nat (c + 1)) ⟨[.ref km, .nat many], H1⟩ := by
    intro p1 p2 p3 kk
    refine EvalTo.item (k := km) (i := 0) (σ₁ := ⟨[.ref km, .nat many], H1⟩) ?_ EvalTo.kLit hm1 rfl (by decide)
    ktr_rel
  have m1 : ∀ {p1 p2 p3 : Pos} {kk : Nat}, EvalTo d fi_law_dug (.Subscript (.Name "mine" p1) (.Constant (.int 1) kk p2) p3) ⟨[.ref km, .nat many], H1⟩ (.ref ks) ⟨[.ref km, .nat many], H1⟩ := by
    intro p1 p2 p3 kk
    refine EvalTo.item (k := km) (i := 1) (σ₁ := ⟨[.ref km, .nat many], H1⟩) ?_ EvalTo.kLit hm1 rfl (by decide)
    ktr_rel
  have tst : TestTo d fi_law_dug (testOf (stmtOf fi_law_dug.body 1)) ⟨[.ref km, .nat many], H1⟩ (decide (c + 1 ≤ sp.length)) ⟨[.ref km, .nat many], H1⟩ := by
    refine TestTo.cmp (a := .nat (c + 1)) (b := .nat sp.length) m0 (EvalTo.lenN (σ₂ := ⟨[.ref km, .nat many], H1⟩) ?_ m1 hs1 (fun _ => rfl) (by omega)) CmpTo.leN rfl
    kst_all1
  by_cases h : c + 1 ≤ sp.length
  · refine ⟨sp.getD (c + 1 - 1) 0 % many, Nat.mod_lt _ h0, ?_⟩
    apply CallTo.of_body (fi := fi_law_dug) ok lk_law_dug rfl (by decide) (loc' := [.ref km, .nat many])
    show ExecsTo _ _ _ ⟨[.ref km, .nat many], H⟩ _ _
    apply ExecsTo.cons st0
    apply ExecsTo.stopR
    apply ExecTo.ifT tst (dT h)
    apply ExecsTo.ret
    refine EvalTo.bin (a := .nat (sp.getD (c + 1 - 1) 0)) (b := .nat many) (σ₁ := ⟨[.ref km, .nat many], H1⟩) (EvalTo.itemN (σ₁ := ⟨[.ref km, .nat many], H1⟩) (i := c + 1 - 1) m1 (EvalTo.bin (a := .nat (c + 1)) (b := .nat 1) m0 EvalTo.kLit (BinTo.subN (by omega))) hs1 (by omega) (by omega)) ?_ (BinTo.modN h0)
    ktr_rel
  · refine ⟨(7 * (c + 1) + (c + 1) / 3 + 5) % many, Nat.mod_lt _ h0, ?_⟩
    apply CallTo.of_body (fi := fi_law_dug) ok lk_law_dug rfl (by decide) (loc' := [.ref km, .nat many])
    show ExecsTo _ _ _ ⟨[.ref km, .nat many], H⟩ _ _
    apply ExecsTo.cons st0
    apply ExecsTo.cons (σ₁ := ⟨[.ref km, .nat many], H1⟩)
    · exact ExecTo.ifF tst (dF h) .nil
    apply ExecsTo.ret
    refine EvalTo.bin (a := .nat (7 * (c + 1) + (c + 1) / 3 + 5)) (b := .nat many) (σ₁ := ⟨[.ref km, .nat many], H1⟩) (EvalTo.bin (a := .nat (7 * (c + 1) + (c + 1) / 3)) (b := .nat 5) (EvalTo.bin (a := .nat (7 * (c + 1))) (b := .nat ((c + 1) / 3)) (EvalTo.bin (a := .nat 7) (b := .nat (c + 1)) EvalTo.kLit m0 (BinTo.mulN (by decide))) (EvalTo.bin (a := .nat (c + 1)) (b := .nat 3) m0 EvalTo.kLit (BinTo.divN (by decide) (by decide))) BinTo.addN) EvalTo.kLit BinTo.addN) ?_ (BinTo.modN h0)
    ktr_rel
end

section
/-! P7 -/

noncomputable def splitF : Nat → Nat → Nat → Nat × Nat
  | 0, o, t => (o, t)
  | k + 1, o, t => if o % 2 = 0 then splitF k (o / 2) (t + 1) else (o, t)
noncomputable def findF (p : Nat) : Nat → Nat → Option Nat
  | 0, _ => none
  | k + 1, o => if jacN o p = -1 then some o else if o + 1 = p then none else findF p k (o + 1)
noncomputable def loopF (p twos number : Nat) : Nat → Nat → Nat → Nat → Nat → Option Nat → Bool
  | 0, _, _, _, _, _ => false
  | _ + 1, _, _, _, _, none => false
  | _ + 1, held, _, _, _, some 0 => decide (held * held % p = number)
  | k + 1, held, error, lever, left, some (o + 1) =>
    decide (held * held % p = number * error % p) && (decide (o + 1 < left) && (decide (sqN p (twos + 1) 0 lever = some left) &&
      loopF p twos number k (held * (lever ^ 2 ^ (left - (o + 1) - 1) % p) % p) (error * ((lever ^ 2 ^ (left - (o + 1) - 1) % p) * (lever ^ 2 ^ (left - (o + 1) - 1) % p) % p) % p)
        ((lever ^ 2 ^ (left - (o + 1) - 1) % p) * (lever ^ 2 ^ (left - (o + 1) - 1) % p) % p) (o + 1) (sqN p (twos + 1) 0 (error * ((lever ^ 2 ^ (left - (o + 1) - 1) % p) * (lever ^ 2 ^ (left - (o + 1) - 1) % p) % p) % p))))
noncomputable def hasF (p number : Nat) : Bool := decide (number ∈ (List.range (p - 1)).map fun i => (1 + i) * (1 + i) % p)
noncomputable def restF (p number odd twos other : Nat) : Bool :=
  decide (jacN number p = if hasF p number then 1 else -1) &&
    (if hasF p number then loopF p twos number 20 (number ^ ((odd + 1) / 2) % p) (number ^ odd % p) (other ^ odd % p) twos (sqN p (twos + 1) 0 (number ^ odd % p))
      else decide (sqN p (twos + 1) 0 (number ^ odd % p) = some twos))
noncomputable def lawF (p number : Nat) : Bool :=
  match findF p 100 2 with
  | none => false
  | some other => decide ((splitF 20 (p - 1) 0).1 % 2 = 1 ∧ (splitF 20 (p - 1) 0).1 < 1000 ∧ other < 1000) && (decide ((splitF 20 (p - 1) 0).2 ≤ 20) && restF p number (splitF 20 (p - 1) 0).1 (splitF 20 (p - 1) 0).2 other)

noncomputable def primesL : List Nat := [3, 5, 7, 11, 13, 17, 29, 37, 41, 61, 73, 89, 97]
theorem lawF_all : (primesL.all fun p => (List.range (p - 1)).all fun i => lawF p (1 + i)) = true := by decide +kernel
theorem lawF_ok {p i : Nat} (hp : p ∈ primesL) (hi : i < p - 1) : lawF p (1 + i) = true := by
  have h := List.all_eq_true.mp lawF_all p hp
  exact List.all_eq_true.mp h i (List.mem_range.mpr hi)
theorem primes_ok : ∀ p ∈ primesL, p % 2 = 1 ∧ 2 < p ∧ p < 98 := by decide
end

section
/-! F20 -/
open PySem PySem.W PyProof.Rows PySem.Spec PySem.Calls
set_option maxRecDepth 100000
set_option maxHeartbeats 1000000

noncomputable abbrev lawNames : List Str := ["script", "mine", "w", "number", "odd", "twos", "other", "n", "a", "held", "error", "lever", "left", "order", "has_root", "turned"]
noncomputable abbrev lawGl : List Str := ["_law_dug", "_law_limbs", "jacobi", "divrem_school", "_law_raised", "_law_squarings", "range", "_law_times"]
noncomputable abbrev fi_law (fa c : Nat) : FI := { name := "law", params := fdArgs (stAt 39), body := fdBody (stAt 39), scope := fdScope (stAt 39), addr := fa, code := c, names := lawNames, gl := lawGl, cells := [("p", 0)] }
theorem lawNd : lawNames.Nodup := by decide +kernel
theorem lawLoc : ∀ x ∈ lawNames, (fdScope (stAt 39)).names.lookup x = some .local ∧ (x == ("__debug__" : Str)) = false := by decide +kernel
theorem lawGlo : ∀ x ∈ lawGl, (fdScope (stAt 39)).names.lookup x = some .globalImplicit ∧ (x == ("__debug__" : Str)) = false := by decide +kernel
theorem lawCel : ∀ x ∈ (["p"] : List Str), (fdScope (stAt 39)).names.lookup x = some .cell ∧ (x == ("__debug__" : Str)) = false ∧ (x == ("__classdict__" : Str)) = false := by decide +kernel
theorem lawNdC : (["p"] : List Str).Nodup := by decide +kernel
theorem ok_law {fa c : Nat} : FI.Ok (fi_law fa c) := ⟨lawNd, lawLoc, lawGlo, rfl, rfl, rfl, by
  intro p hp
  have h := lawCel p.1 (List.mem_map_of_mem (f := (·.1)) hp)
  exact ⟨.inl h.1, h.2⟩, lawNdC⟩
noncomputable abbrev lawBody : List Stmt := fdBody (stAt 39)

/-- what the law holds in its heap -/
structure LS (w p num kn ka : Nat) (H : List O) : Prop where
  tab : TabIn 1 H
  pc : H[0]? = some (O.cell (.nat p))
  nn : H[kn]? = some (O.nats (lim w p))
  aa : H[ka]? = some (O.nats (lim w num))
  n1 : kn ≠ 1
  a1 : ka ≠ 1
theorem LS.keep {w p num kn ka : Nat} {H H' : List O} (h : LS w p num kn ka H) (k : Kept [] H H') : LS w p num kn ka H' := ⟨h.tab.keep k, k.of h.pc, k.of h.nn, k.of h.aa, h.n1, h.a1⟩
theorem LS.keep1 {w p num kn ka : Nat} {H H' : List O} (h : LS w p num kn ka H) (k : Kept [1] H H') (t : TabIn 1 H') : LS w p num kn ka H' := ⟨t, k.of h.pc, k 1 |> fun _ => k kn _ (by simpa using h.n1) h.nn, k ka _ (by simpa using h.a1) h.aa, h.n1, h.a1⟩

section
variable {d fa c w p num kn ka : Nat} {sv mv : V}

/-! the last loop -/
noncomputable abbrev l11 (sv mv : V) (w num odd twos other kn ka : Nat) (held error lever : V) (left order : V) (has turned : V) : List V := [sv, mv, .nat w, .nat num, .nat odd, .nat twos, .nat other, .ref kn, .ref ka, held, error, lever, left, order, has, turned]

theorem loop11 (hw : 0 < w) (hw8 : w ≤ 8) (hp0 : 0 < p) (hp2 : p < 2 ^ 20) {odd twos other : Nat} (htw : twos ≤ 20) (hnum : num < p) {has : V} : ∀ k held error lever left (order : Option Nat) (kh ke kl : Nat) (H : List O) (turned : V), LS w p num kn ka H → held < p → error < p → lever < p → left ≤ 20 →
    H[kh]? = some (O.nats (lim w held)) → H[ke]? = some (O.nats (lim w error)) → H[kl]? = some (O.nats (lim w lever)) → kh ≠ 1 → ke ≠ 1 → kl ≠ 1 → loopF p twos num k held error lever left order = true →
    ∃ H' kh' ke' kl' left' u held', (∃ cnt, WRun (d + 9) (fi_law fa c) (testOf (stmtOf lawBody 11)) (bodyOf (stmtOf lawBody 11)) cnt ⟨l11 sv mv w num odd twos other kn ka (.ref kh) (.ref ke) (.ref kl) (.nat left) (optV order) has turned, H⟩ .next
        ⟨l11 sv mv w num odd twos other kn ka (.ref kh') (.ref ke') (.ref kl') (.nat left') (.nat 0) has u, H'⟩) ∧ LS w p num kn ka H' ∧ H'[kh']? = some (O.nats (lim w held')) ∧ held' < p ∧ held' * held' % p = num := by
  have ok := @ok_law fa c
  intro k
  induction k with
  | zero => intro held error lever left order kh ke kl H turned _ _ _ _ _ _ _ _ _ _ _ h; cases h
  | succ k ih =>
    intro held error lever left order kh ke kl H turned hS h1 h2 h3 h4 g1 g2 g3 i1 i2 i3 hF
    match order, hF with
    | some 0, hF =>
      rw [show optV (some 0) = V.nat 0 from rfl]
      refine ⟨H, kh, ke, kl, left, turned, held, ?_, hS, g1, h1, of_decide_eq_true hF⟩
      apply WRun.stopE
      refine TestTo.andT (b := !V.isNone (.nat 0)) (σ₁ := ⟨l11 sv mv w num odd twos other kn ka (.ref kh) (.ref ke) (.ref kl) (.nat left) (.nat 0) has turned, H⟩) (TestTo.isNotNone ?_ (fun _ h => nomatch h)) rfl ?_
      · ktr_rel
      · ktr_rel
    | some (o + 1), hF =>
      rw [show optV (some (o + 1)) = V.nat (o + 1) from rfl]
      unfold loopF at hF
      rw [Bool.and_eq_true, Bool.and_eq_true, Bool.and_eq_true] at hF
      obtain ⟨f1, f2, f3, f4⟩ := hF
      have f1 := of_decide_eq_true f1
      have f2 := of_decide_eq_true f2
      have f3 := of_decide_eq_true f3
      -- the calls, one by one
      obtain ⟨H1, r1, c1, k1, s1⟩ := law_times_spec (d := d + 4) g1 g1 hS.nn hw hw8 hp0 hp2 (by omega) (by omega)
      have S1 := hS.keep k1
      obtain ⟨H2, r2, c2, k2, s2⟩ := law_times_spec (d := d + 4) S1.aa (k1.of g2) S1.nn hw hw8 hp0 hp2 (by omega) (by omega)
      have S2 := S1.keep k2
      have K2 := k1.trans k2
      obtain ⟨H3, c3, k3⟩ := law_squarings_spec (d := d + 3) (most := twos) (K2.of g3) S2.nn hw hw8 hp0 hp2 h3 (by omega)
      rw [f3, show optV (some left) = V.nat left from rfl] at c3
      have S3 := S2.keep k3
      have K3 := K2.trans k3
      have hE : 2 ^ (left - (o + 1) - 1) < 2 ^ 20 := Nat.pow_lt_pow_right (by decide) (by omega)
      obtain ⟨H4, r4, c4, k4, t4, s4⟩ := law_raised_spec (d := d) (E := 2 ^ (left - (o + 1) - 1)) S3.tab (K3.of g3) S3.nn i3 S3.n1 hw hw8 hp0 hp2 hE (by omega)
      have S4 := S3.keep1 k4 t4
      have ht := Nat.mod_lt (lever ^ 2 ^ (left - (o + 1) - 1)) hp0
      have r41 : r4 ≠ 1 := by
        obtain ⟨t, q1, q2⟩ := t4
        intro e
        subst e
        rw [s4] at q1
        cases q1
      generalize lever ^ 2 ^ (left - (o + 1) - 1) % p = turn at *
      have g1' := k4 kh _ (by simpa using i1) (K3.of g1)
      have g2' := k4 ke _ (by simpa using i2) (K3.of g2)
      obtain ⟨H5, r5, c5, k5, s5⟩ := law_times_spec (d := d + 4) g1' s4 S4.nn hw hw8 hp0 hp2 (by omega) (by omega)
      have S5 := S4.keep k5
      obtain ⟨H6, r6, c6, k6, s6⟩ := law_times_spec (d := d + 4) (k5.of s4) (k5.of s4) S5.nn hw hw8 hp0 hp2 (by omega) (by omega)
      have S6 := S5.keep k6
      have hl6 := Nat.mod_lt (turn * turn) hp0
      obtain ⟨H7, r7, c7, k7, s7⟩ := law_times_spec (d := d + 4) (k6.of (k5.of g2')) s6 S6.nn hw hw8 hp0 hp2 (by omega) (by omega)
      have S7 := S6.keep k7
      have hl7 := Nat.mod_lt (error * (turn * turn % p)) hp0
      obtain ⟨H8, c8, k8⟩ := law_squarings_spec (d := d + 3) (most := twos) s7 S7.nn hw hw8 hp0 hp2 hl7 (by omega)
      have S8 := S7.keep k8
      have ne1 : ∀ {H : List O} {r x : Nat}, LS w p num kn ka H → H[r]? = some (O.nats (lim w x)) → r ≠ 1 := by
        intro H r x hS hr e
        obtain ⟨t, q1, q2⟩ := hS.tab
        subst e
        rw [hr] at q1
        cases q1
      obtain ⟨H9, kh', ke', kl', left', u, held', run, S9, e1, e2, e3⟩ := ih (held * turn % p) (error * (turn * turn % p) % p) (turn * turn % p) (o + 1) (sqN p (twos + 1) 0 (error * (turn * turn % p) % p)) r5 r7 r6 H8 (.ref r4) S8 (Nat.mod_lt _ hp0) hl7 hl6 (by omega)
        (k8.of (k7.of (k6.of s5))) (k8.of s7) (k8.of (k7.of s6)) (ne1 S5 s5) (ne1 S7 s7) (ne1 S6 s6) f4
      refine ⟨H9, kh', ke', kl', left', u, held', ?_, S9, e1, e2, e3⟩
      refine WRun.stepN (σ₁ := ⟨l11 sv mv w num odd twos other kn ka (.ref kh) (.ref ke) (.ref kl) (.nat left) (.nat (o + 1)) has turned, H⟩) ?_ ?_ run
      · refine TestTo.andT (b := !V.isNone (.nat (o + 1))) (σ₁ := ⟨l11 sv mv w num odd twos other kn ka (.ref kh) (.ref ke) (.ref kl) (.nat left) (.nat (o + 1)) has turned, H⟩) (TestTo.isNotNone ?_ (fun _ h => nomatch h)) rfl ?_
        · ktr_rel
        · ktr_rel
      · apply ExecsTo.cons (σ₁ := ⟨l11 sv mv w num odd twos other kn ka (.ref kh) (.ref ke) (.ref kl) (.nat left) (.nat (o + 1)) has turned, H2⟩)
        · refine ExecTo.ifF (b := decide (left ≤ o + 1)) (TestTo.orF (σ₁ := ⟨l11 sv mv w num odd twos other kn ka (.ref kh) (.ref ke) (.ref kl) (.nat left) (.nat (o + 1)) has turned, H2⟩) (σ₂ := ⟨l11 sv mv w num odd twos other kn ka (.ref kh) (.ref ke) (.ref kl) (.nat left) (.nat (o + 1)) has turned, H2⟩) (b := !decide (lim w (held * held % p) = lim w (num * error % p)))
            (TestTo.neRef (k := r1) (j := r2) (σ₁ := ⟨l11 sv mv w num odd twos other kn ka (.ref kh) (.ref ke) (.ref kl) (.nat left) (.nat (o + 1)) has turned, H1⟩) ?_ ?_ (k2.of s1) s2 rfl) (by rw [f1]; simp) ?_) (dF (by omega)) .nil
          · ktr_rel
          · ktr_rel
          · ktr_rel
        apply ExecsTo.cons (σ₁ := ⟨l11 sv mv w num odd twos other kn ka (.ref kh) (.ref ke) (.ref kl) (.nat left) (.nat (o + 1)) has turned, H3⟩)
        · refine ExecTo.ifF (b := decide (left ≠ left)) (σ₁ := ⟨l11 sv mv w num odd twos other kn ka (.ref kh) (.ref ke) (.ref kl) (.nat left) (.nat (o + 1)) has turned, H3⟩) (TestTo.cmp (a := .nat left) (b := .nat left) (σ₁ := ⟨l11 sv mv w num odd twos other kn ka (.ref kh) (.ref ke) (.ref kl) (.nat left) (.nat (o + 1)) has turned, H3⟩) ?_ ?_ CmpTo.neN rfl) (by simp) .nil
          · ktr_rel
          · ktr_rel
        apply ExecsTo.cons (σ₁ := ⟨l11 sv mv w num odd twos other kn ka (.ref kh) (.ref ke) (.ref kl) (.nat left) (.nat (o + 1)) has (.ref r4), H4⟩)
        · ktr_rel
        apply ExecsTo.cons (σ₁ := ⟨l11 sv mv w num odd twos other kn ka (.ref r5) (.ref ke) (.ref r6) (.nat (o + 1)) (.nat (o + 1)) has (.ref r4), H6⟩)
        · ktr_rel
        apply ExecsTo.cons (σ₁ := ⟨l11 sv mv w num odd twos other kn ka (.ref r5) (.ref r7) (.ref r6) (.nat (o + 1)) (.nat (o + 1)) has (.ref r4), H7⟩)
        · ktr_rel
        tb_rel
end
end

section
/-! F21 -/
open PySem PySem.W PyProof.Rows PySem.Spec PySem.Calls
set_option maxRecDepth 100000
set_option maxHeartbeats 1000000

theorem ExecsTo.dropAt {d : Nat} {fi : FI} {l : List Stmt} {σ σ₁ σ' : St} {f : Fl} (n : Nat) (hn : n < l.length) (h1 : ExecTo d fi (stmtOf l n) σ .next σ₁) (h2 : ExecsTo d fi (l.drop (n + 1)) σ₁ f σ') : ExecsTo d fi (l.drop n) σ f σ' := by
  have e : l.drop n = stmtOf l n :: l.drop (n + 1) := by
    rw [List.drop_eq_getElem_cons hn]
    unfold stmtOf
    rw [List.getElem?_eq_getElem hn]
    rfl
  rw [e]
  exact ExecsTo.cons h1 h2
theorem ExecsTo.dropR {d : Nat} {fi : FI} {l : List Stmt} {σ σ₁ : St} {v : V} (n : Nat) (hn : n < l.length) (h1 : ExecTo d fi (stmtOf l n) σ (.ret v) σ₁) : ExecsTo d fi (l.drop n) σ (.ret v) σ₁ := by
  have e : l.drop n = stmtOf l n :: l.drop (n + 1) := by
    rw [List.drop_eq_getElem_cons hn]
    unfold stmtOf
    rw [List.getElem?_eq_getElem hn]
    rfl
  rw [e]
  exact ExecsTo.stopR h1
theorem lawLen : lawBody.length = 13 := rfl
theorem lim_ne_tab {w p num kn ka r x : Nat} {H : List O} (hS : TabIn 1 H) (hr : H[r]? = some (O.nats (lim w x))) : r ≠ 1 := by
  obtain ⟨t, q1, q2⟩ := hS
  intro e
  subst e
  rw [hr] at q1
  cases q1

section
variable {d fa c w p num kn ka : Nat} {sv mv : V}

theorem tail11 (hw : 0 < w) (hw8 : w ≤ 8) (hp0 : 0 < p) (hp2 : p < 2 ^ 20) {odd twos other : Nat} (htw : twos ≤ 20) (hnum : num < p) {has : V} {held error lever : Nat} {order : Option Nat} {kh ke kl : Nat} {H : List O} {turned : V} (hS : LS w p num kn ka H) (h1 : held < p) (h2 : error < p) (h3 : lever < p)
    (g1 : H[kh]? = some (O.nats (lim w held))) (g2 : H[ke]? = some (O.nats (lim w error))) (g3 : H[kl]? = some (O.nats (lim w lever))) {k : Nat} (hF : loopF p twos num k held error lever twos order = true) :
    ∃ L' H', ExecsTo (d + 9) (fi_law fa c) (lawBody.drop 11) ⟨l11 sv mv w num odd twos other kn ka (.ref kh) (.ref ke) (.ref kl) (.nat twos) (optV order) has turned, H⟩ (.ret (.bool true)) ⟨L', H'⟩ ∧ TabIn 1 H' := by
  have ok := @ok_law fa c
  obtain ⟨H1, kh', ke', kl', left', u, held', run, S1, e1, e2, e3⟩ := loop11 (d := d) (fa := fa) (c := c) (sv := sv) (mv := mv) (odd := odd) (other := other) (has := has) hw hw8 hp0 hp2 htw hnum k held error lever twos order kh ke kl H turned hS h1 h2 h3 htw g1 g2 g3
    (lim_ne_tab (p := p) (num := num) (kn := kn) (ka := ka) hS.tab g1) (lim_ne_tab (p := p) (num := num) (kn := kn) (ka := ka) hS.tab g2) (lim_ne_tab (p := p) (num := num) (kn := kn) (ka := ka) hS.tab g3) hF
  obtain ⟨H2, r2, c2, k2, s2⟩ := law_times_spec (d := d + 4) e1 e1 S1.nn hw hw8 hp0 hp2 (by omega) (by omega)
  rw [e3] at s2
  refine ⟨l11 sv mv w num odd twos other kn ka (.ref kh') (.ref ke') (.ref kl') (.nat left') (.nat 0) has u, H2, ?_, (S1.keep k2).tab⟩
  refine ExecsTo.dropAt 11 (by rw [lawLen]; decide) (ExecTo.whileE run) ?_
  refine ExecsTo.dropR 12 (by rw [lawLen]; decide) ?_
  refine ExecTo.ret (σ₁ := ⟨l11 sv mv w num odd twos other kn ka (.ref kh') (.ref ke') (.ref kl') (.nat left') (.nat 0) has u, H2⟩) ?_
  refine EvalTo.as (EvalTo.andT (b := decide ((0 : Nat) = 0)) (σ₁ := ⟨l11 sv mv w num odd twos other kn ka (.ref kh') (.ref ke') (.ref kl') (.nat left') (.nat 0) has u, H1⟩) (σ₂ := ⟨l11 sv mv w num odd twos other kn ka (.ref kh') (.ref ke') (.ref kl') (.nat left') (.nat 0) has u, H2⟩) (v := .bool (decide (lim w num = lim w num))) ?_ (by decide) (EvalTo.eqRef (k := r2) (j := ka) (σ₁ := ⟨l11 sv mv w num odd twos other kn ka (.ref kh') (.ref ke') (.ref kl') (.nat left') (.nat 0) has u, H2⟩) ?_ ?_ s2 (S1.keep k2).aa rfl)) rfl (by simp)
  · ktr_rel
  · ktr_rel
  · ktr_rel

/-! from the test of the symbol on -/
theorem tail9 (hw : 0 < w) (hw8 : w ≤ 8) (hp : p ∈ primesL) {odd twos other : Nat} (htw : twos ≤ 20) (hnum : num < p) {held error lever : Nat} {kh ke kl : Nat} {H : List O} (hS : LS w p num kn ka H) (h1 : held < p) (h2 : error < p) (h3 : lever < p)
    (g1 : H[kh]? = some (O.nats (lim w held))) (g2 : H[ke]? = some (O.nats (lim w error))) (g3 : H[kl]? = some (O.nats (lim w lever))) (hj : jacN num p = if hasF p num then 1 else -1)
    (hF : (if hasF p num then loopF p twos num 20 held error lever twos (sqN p (twos + 1) 0 error) else decide (sqN p (twos + 1) 0 error = some twos)) = true) :
    ∃ L' H', ExecsTo (d + 9) (fi_law fa c) (lawBody.drop 9) ⟨l11 sv mv w num odd twos other kn ka (.ref kh) (.ref ke) (.ref kl) (.nat twos) (optV (sqN p (twos + 1) 0 error)) (.bool (hasF p num)) .undef, H⟩ (.ret (.bool true)) ⟨L', H'⟩ ∧ TabIn 1 H' := by
  have ok := @ok_law fa c
  obtain ⟨q1, q2, q3⟩ := primes_ok p hp
  obtain ⟨H1, c1, k1⟩ := jacobi_spec (d := d + 4) hS.aa hS.nn hw hw8 (by omega) (by omega) q1
  rw [hj] at c1
  have S1 := hS.keep k1
  by_cases hh : hasF p num = true
  · rw [hh, if_pos rfl] at c1 hF
    rw [hh]
    obtain ⟨L', H', ex, t⟩ := tail11 (d := d) (fa := fa) (c := c) (sv := sv) (mv := mv) (odd := odd) (other := other) (has := .bool true) (turned := .undef) hw hw8 (by omega) (by omega) htw hnum S1 h1 h2 h3 (k1.of g1) (k1.of g2) (k1.of g3) hF
    refine ⟨L', H', ?_, t⟩
    refine ExecsTo.dropAt 9 (by rw [lawLen]; decide) (σ₁ := ⟨l11 sv mv w num odd twos other kn ka (.ref kh) (.ref ke) (.ref kl) (.nat twos) (optV (sqN p (twos + 1) 0 error)) (.bool true) .undef, H1⟩) ?_ ?_
    · refine ExecTo.ifF (σ₁ := ⟨l11 sv mv w num odd twos other kn ka (.ref kh) (.ref ke) (.ref kl) (.nat twos) (optV (sqN p (twos + 1) 0 error)) (.bool true) .undef, H1⟩) (b := decide ((1 : Int) ≠ 1)) (TestTo.cmp (a := .int 1) (b := .int 1) (σ₁ := ⟨l11 sv mv w num odd twos other kn ka (.ref kh) (.ref ke) (.ref kl) (.nat twos) (optV (sqN p (twos + 1) 0 error)) (.bool true) .undef, H1⟩) ?_ (EvalTo.iteT (σ₁ := ⟨l11 sv mv w num odd twos other kn ka (.ref kh) (.ref ke) (.ref kl) (.nat twos) (optV (sqN p (twos + 1) 0 error)) (.bool true) .undef, H1⟩) (TestTo.plain ?_ (fun _ => rfl)) rfl ?_) CmpTo.ne rfl) (by decide) .nil
      · ktr_rel
      · ktr_rel
      · exact EvalTo.kLit
    · refine ExecsTo.dropAt 10 (by rw [lawLen]; decide) (σ₁ := ⟨l11 sv mv w num odd twos other kn ka (.ref kh) (.ref ke) (.ref kl) (.nat twos) (optV (sqN p (twos + 1) 0 error)) (.bool true) .undef, H1⟩) ?_ ex
      refine ExecTo.ifF (σ₁ := ⟨l11 sv mv w num odd twos other kn ka (.ref kh) (.ref ke) (.ref kl) (.nat twos) (optV (sqN p (twos + 1) 0 error)) (.bool true) .undef, H1⟩) (b := !true) (TestTo.notT (TestTo.plain ?_ (fun _ => rfl))) rfl .nil
      ktr_rel
  · have hh' : hasF p num = false := by
      cases h : hasF p num with
      | true => exact absurd h hh
      | false => rfl
    rw [hh'] at c1 hF
    rw [if_neg (by decide)] at c1 hF
    rw [hh']
    have e := of_decide_eq_true hF
    rw [e, show optV (some twos) = V.nat twos from rfl]
    refine ⟨l11 sv mv w num odd twos other kn ka (.ref kh) (.ref ke) (.ref kl) (.nat twos) (.nat twos) (.bool false) .undef, H1, ?_, S1.tab⟩
    refine ExecsTo.dropAt 9 (by rw [lawLen]; decide) (σ₁ := ⟨l11 sv mv w num odd twos other kn ka (.ref kh) (.ref ke) (.ref kl) (.nat twos) (.nat twos) (.bool false) .undef, H1⟩) ?_ ?_
    · refine ExecTo.ifF (σ₁ := ⟨l11 sv mv w num odd twos other kn ka (.ref kh) (.ref ke) (.ref kl) (.nat twos) (.nat twos) (.bool false) .undef, H1⟩) (b := decide ((-1 : Int) ≠ ((0 : Nat) : Int) - ((1 : Nat) : Int))) (TestTo.cmp (a := .int (-1)) (b := .int (((0 : Nat) : Int) - ((1 : Nat) : Int))) (σ₁ := ⟨l11 sv mv w num odd twos other kn ka (.ref kh) (.ref ke) (.ref kl) (.nat twos) (.nat twos) (.bool false) .undef, H1⟩) ?_ (EvalTo.iteF (σ₁ := ⟨l11 sv mv w num odd twos other kn ka (.ref kh) (.ref ke) (.ref kl) (.nat twos) (.nat twos) (.bool false) .undef, H1⟩) (TestTo.plain ?_ (fun _ => rfl)) rfl (EvalTo.bin EvalTo.kLit EvalTo.kLit BinTo.sub)) CmpTo.ne rfl) (by decide) .nil
      · ktr_rel
      · ktr_rel
    · refine ExecsTo.dropR 10 (by rw [lawLen]; decide) ?_
      refine ExecTo.ifT (σ₁ := ⟨l11 sv mv w num odd twos other kn ka (.ref kh) (.ref ke) (.ref kl) (.nat twos) (.nat twos) (.bool false) .undef, H1⟩) (b := !false) (TestTo.notT (TestTo.plain ?_ (fun _ => rfl))) rfl ?_
      · ktr_rel
      · apply ExecsTo.ret
        refine EvalTo.as (v := .bool (decide (twos = twos))) (EvalTo.cmp (a := .nat twos) (b := .nat twos) (σ₁ := ⟨l11 sv mv w num odd twos other kn ka (.ref kh) (.ref ke) (.ref kl) (.nat twos) (.nat twos) (.bool false) .undef, H1⟩) (σ₂ := ⟨l11 sv mv w num odd twos other kn ka (.ref kh) (.ref ke) (.ref kl) (.nat twos) (.nat twos) (.bool false) .undef, H1⟩) ?_ ?_ CmpTo.eqN rfl) rfl (by simp)
        · ktr_rel
        · ktr_rel
end
end

section
/-! F22 -/
open PySem PySem.W PyProof.Rows PySem.Spec PySem.Calls
set_option maxRecDepth 100000
set_option maxHeartbeats 1000000

section
variable {d fa c w p num kn ka : Nat} {sv mv : V}

theorem stmt8 (hp : p ∈ primesL) {odd twos other : Nat} {H : List O} {x9 x10 x11 x12 x13 : V} (hS : LS w p num kn ka H) :
    ∃ H', ExecTo (d + 9) (fi_law fa c) (stmtOf lawBody 8) ⟨l11 sv mv w num odd twos other kn ka x9 x10 x11 x12 x13 .undef .undef, H⟩ .next ⟨l11 sv mv w num odd twos other kn ka x9 x10 x11 x12 x13 (.bool (hasF p num)) .undef, H'⟩ ∧ Kept [] H H' := by
  have ok := @ok_law fa c
  obtain ⟨q1, q2, q3⟩ := primes_ok p hp
  have hpc := hS.pc
  refine ⟨H ++ [O.nats ((List.range (p - 1)).map fun i => (1 + i) * (1 + i) % p)], ?_, Kept.app⟩
  refine ExecTo.as (ExecTo.assign ok (i := 14) (v := .bool (hasF p num)) (σ₁ := ⟨l11 sv mv w num odd twos other kn ka x9 x10 x11 x12 x13 .undef .undef, H ++ [O.nats ((List.range (p - 1)).map fun i => (1 + i) * (1 + i) % p)]⟩) ?_ (EvalTo.inList (σ₁ := ⟨l11 sv mv w num odd twos other kn ka x9 x10 x11 x12 x13 .undef .undef, H⟩) (k := H.length) (ns := (List.range (p - 1)).map fun i => (1 + i) * (1 + i) % p) ?_ ?_ hp_new rfl) (fun _ => rfl)) rfl
  · k_memK
  · ktr_rel
  · rw [← UpTo_nats]
    refine EvalTo.compRange (σ₁ := ⟨l11 sv mv w num odd twos other kn ka x9 x10 x11 x12 x13 .undef .undef, H⟩) (a := 1) (n := p - 1) (f := fun i => V.nat ((1 + i) * (1 + i) % p)) ?_ ?_ rfl ?_ ?_ ?_ (by omega) ?_ (fun _ _ => rfl)
    · intro L cl hcl
      obtain ⟨x1, rfl⟩ : ∃ x1, cl = ([("p", x1)] : List (Str × Addr)) := by
        match cl, hcl with
        | [(_, x1)], hcl =>
          simp only [List.map_cons, List.map_nil, List.cons.injEq, and_true] at hcl
          exact ⟨x1, by rw [hcl]⟩
      rfl
    · decide +kernel
    · decide +kernel
    · decide +kernel
    · apply iterRange2
      · kst_all1
      · kst_all1
      · kst_all1
      · decide
      · omega
      · exact fun _ => rfl
      · exact fun _ => rfl
    · intro i hi
      refine EltTo.bin (a := .nat ((1 + i) * (1 + i))) (b := .nat p) (EltTo.bin (a := .nat (1 + i)) (b := .nat (1 + i)) (EltTo.var (by decide +kernel) rfl (by decide +kernel)) (EltTo.var (by decide +kernel) rfl (by decide +kernel)) (BinTo.mulN (by omega))) (EltTo.free ok (j := 0) (k := 0) ?_ hpc V.ne_int rfl ?_) (BinTo.modN (by omega))
      · k_memK
      · intro env he
        unfold relabel Env.kindOf
        rw [show env.scope = fdScope (stAt 39) from he]
        decide +kernel

theorem tail6 (hw : 0 < w) (hw8 : w ≤ 8) (hp : p ∈ primesL) {odd twos other : Nat} (htw : twos ≤ 20) (hodd : odd < 1000) (hoth : other < 1000) (hnum : num < p) {H : List O} (hS : LS w p num kn ka H) (hF : restF p num odd twos other = true) :
    ∃ L' H', ExecsTo (d + 9) (fi_law fa c) (lawBody.drop 6) ⟨l11 sv mv w num odd twos other kn ka .undef .undef .undef .undef .undef .undef .undef, H⟩ (.ret (.bool true)) ⟨L', H'⟩ ∧ TabIn 1 H' := by
  have ok := @ok_law fa c
  obtain ⟨q1, q2, q3⟩ := primes_ok p hp
  unfold restF at hF
  rw [Bool.and_eq_true] at hF
  obtain ⟨hj, hF⟩ := hF
  have hj := of_decide_eq_true hj
  obtain ⟨H1, kh, c1, k1, t1, s1⟩ := law_raised_spec (d := d) (E := (odd + 1) / 2) hS.tab hS.aa hS.nn hS.a1 hS.n1 hw hw8 (by omega) (by omega) (by omega) (by omega)
  have S1 := hS.keep1 k1 t1
  obtain ⟨H2, ke, c2, k2, t2, s2⟩ := law_raised_spec (d := d) (E := odd) S1.tab S1.aa S1.nn S1.a1 S1.n1 hw hw8 (by omega) (by omega) (by omega) (by omega)
  have S2 := S1.keep1 k2 t2
  have nkh := lim_ne_tab (p := p) (num := num) (kn := kn) (ka := ka) S1.tab s1
  have s1' := k2 kh _ (by simpa using nkh) s1
  have c3 := law_limbs_spec (d := d + 8) (w := w) (x := other) (H := H2) hw hw8 (by omega)
  obtain ⟨H3, e3⟩ : ∃ H3, H3 = H2 ++ [O.nats (lim w other)] := ⟨_, rfl⟩
  have k3 : Kept [] H2 H3 := e3 ▸ Kept.app
  have p3 : H3[H2.length]? = some (O.nats (lim w other)) := e3 ▸ hp_new
  rw [← e3] at c3
  have S3 := S2.keep k3
  have n3 := lim_ne_tab (p := p) (num := num) (kn := kn) (ka := ka) S3.tab p3
  obtain ⟨H4, kl, c4, k4, t4, s4⟩ := law_raised_spec (d := d) (E := odd) S3.tab p3 S3.nn n3 S3.n1 hw hw8 (by omega) (by omega) (by omega) (by omega)
  have S4 := S3.keep1 k4 t4
  have nke := lim_ne_tab (p := p) (num := num) (kn := kn) (ka := ka) S2.tab s2
  have s2' := k4 ke _ (by simpa using nke) (k3.of s2)
  have s1'' := k4 kh _ (by simpa using nkh) (k3.of s1')
  have m1 := Nat.mod_lt (num ^ ((odd + 1) / 2)) (show 0 < p by omega)
  have m2 := Nat.mod_lt (num ^ odd) (show 0 < p by omega)
  have m3 := Nat.mod_lt (other ^ odd) (show 0 < p by omega)
  generalize num ^ ((odd + 1) / 2) % p = held at *
  generalize num ^ odd % p = error at *
  generalize other ^ odd % p = lever at *
  obtain ⟨H5, c5, k5⟩ := law_squarings_spec (d := d + 3) (most := twos) s2' S4.nn hw hw8 (by omega) (by omega) m2 (by omega)
  have S5 := S4.keep k5
  obtain ⟨H6, st8, k6⟩ := stmt8 (d := d) (fa := fa) (c := c) (sv := sv) (mv := mv) (odd := odd) (twos := twos) (other := other) (x9 := .ref kh) (x10 := .ref ke) (x11 := .ref kl) (x12 := .nat twos) (x13 := optV (sqN p (twos + 1) 0 error)) hp S5
  have S6 := S5.keep k6
  obtain ⟨L', H', ex, t⟩ := tail9 (d := d) (fa := fa) (c := c) (sv := sv) (mv := mv) (odd := odd) (other := other) hw hw8 hp htw hnum S6 m1 m2 m3 (k6.of (k5.of s1'')) (k6.of (k5.of s2')) (k6.of (k5.of s4)) hj hF
  refine ⟨L', H', ?_, t⟩
  refine ExecsTo.dropAt 6 (by rw [lawLen]; decide) (σ₁ := ⟨l11 sv mv w num odd twos other kn ka (.ref kh) (.ref ke) .undef .undef .undef .undef .undef, H2⟩) ?_ ?_
  · apply ExecTo.as
    · apply ExecTo.tup2 ok (i := 9) (j := 10)
      · k_memK
      · k_memK
      · kst_all1 <;> k_ownIn
      · kst_all1 <;> k_ownIn
      · exact fun _ => rfl
      · exact fun _ => rfl
      · exact fun _ => rfl
      · exact fun _ _ => rfl
    · rfl
  refine ExecsTo.dropAt 7 (by rw [lawLen]; decide) (σ₁ := ⟨l11 sv mv w num odd twos other kn ka (.ref kh) (.ref ke) (.ref kl) (.nat twos) (optV (sqN p (twos + 1) 0 error)) .undef .undef, H5⟩) ?_ ?_
  · apply ExecTo.as
    · apply ExecTo.tup3 ok (i := 11) (j := 12) (n := 13)
      · k_memK
      · k_memK
      · k_memK
      · kst_all1 <;> k_ownIn
      · kst_all1
      · kst_all1
      · exact fun _ => rfl
      · exact fun _ => rfl
      · exact fun _ => rfl
      · exact fun _ => rfl
      · exact fun _ _ => rfl
    · rfl
  exact ExecsTo.dropAt 8 (by rw [lawLen]; decide) st8 ex
end
end

section
/-! F23 -/
open PySem PySem.W PyProof.Rows PySem.Spec PySem.Calls
set_option maxRecDepth 100000
set_option maxHeartbeats 1000000

section
variable {d fa c w p num kn ka : Nat} {sv mv : V}

theorem find_loop (hw : 0 < w) (hw8 : w ≤ 8) (hp : p ∈ primesL) {odd twos other : Nat} : ∀ k o (H : List O), o + k ≤ 1000 → LS w p num kn ka H → findF p k o = some other →
    ∃ H', (∃ cnt, WRun (d + 9) (fi_law fa c) (testOf (stmtOf lawBody 5)) (bodyOf (stmtOf lawBody 5)) cnt ⟨l11 sv mv w num odd twos o kn ka .undef .undef .undef .undef .undef .undef .undef, H⟩ .next
      ⟨l11 sv mv w num odd twos other kn ka .undef .undef .undef .undef .undef .undef .undef, H'⟩) ∧ LS w p num kn ka H' := by
  have ok := @ok_law fa c
  obtain ⟨q1, q2, q3⟩ := primes_ok p hp
  intro k
  induction k with
  | zero => intro o H _ _ h; cases h
  | succ k ih =>
    intro o H ho hS hF
    unfold findF at hF
    have c1 := law_limbs_spec (d := d + 8) (w := w) (x := o) (H := H) hw hw8 (by omega)
    obtain ⟨H1, e1⟩ : ∃ H1, H1 = H ++ [O.nats (lim w o)] := ⟨_, rfl⟩
    have k1 : Kept [] H H1 := e1 ▸ Kept.app
    have p1 : H1[H.length]? = some (O.nats (lim w o)) := e1 ▸ hp_new
    rw [← e1] at c1
    clear e1
    have S1 := hS.keep k1
    obtain ⟨H2, c2, k2⟩ := jacobi_spec (d := d + 4) p1 S1.nn hw hw8 (by omega) (by omega) q1
    have S2 := S1.keep k2
    generalize jacN o p = jv at *
    have tst : TestTo (d + 9) (fi_law fa c) (testOf (stmtOf lawBody 5)) ⟨l11 sv mv w num odd twos o kn ka .undef .undef .undef .undef .undef .undef .undef, H⟩ (decide (jv ≠ ((0 : Nat) : Int) - ((1 : Nat) : Int))) ⟨l11 sv mv w num odd twos o kn ka .undef .undef .undef .undef .undef .undef .undef, H2⟩ := by
      refine TestTo.cmp (a := .int jv) (b := .int (((0 : Nat) : Int) - ((1 : Nat) : Int))) (σ₁ := ⟨l11 sv mv w num odd twos o kn ka .undef .undef .undef .undef .undef .undef .undef, H2⟩) ?_ (EvalTo.bin EvalTo.kLit EvalTo.kLit BinTo.sub) CmpTo.ne rfl
      ktr_rel
    by_cases hj : jv = -1
    · rw [if_pos hj] at hF
      cases hF
      refine ⟨H2, ?_, S2⟩
      apply WRun.stopE
      rw [show decide (jv ≠ ((0 : Nat) : Int) - ((1 : Nat) : Int)) = false from dF (by rw [hj]; decide)] at tst
      exact tst
    · rw [if_neg hj] at hF
      by_cases ho1 : o + 1 = p
      · rw [if_pos ho1] at hF; cases hF
      · rw [if_neg ho1] at hF
        obtain ⟨H3, run, S3⟩ := ih (o + 1) H2 (by omega) S2 hF
        refine ⟨H3, ?_, S3⟩
        have hpc := S2.pc
        rw [show decide (jv ≠ ((0 : Nat) : Int) - ((1 : Nat) : Int)) = true from dT (by intro h; exact hj (by rw [h]; decide))] at tst
        refine WRun.stepN tst ?_ run
        apply ExecsTo.cons (σ₁ := ⟨l11 sv mv w num odd twos (o + 1) kn ka .undef .undef .undef .undef .undef .undef .undef, H2⟩)
        · ktr_rel
        apply ExecsTo.one
        refine ExecTo.ifF (b := decide (o + 1 = p)) ?_ (dF ho1) .nil
        ktr_rel

noncomputable abbrev l3 (sv mv : V) (w num odd twos other : Nat) : List V := [sv, mv, .nat w, .nat num, .nat odd, .nat twos, .nat other, .undef, .undef, .undef, .undef, .undef, .undef, .undef, .undef, .undef]

theorem split_loop {other : Nat} {H : List O} : ∀ k o t, (splitF k o t).1 % 2 = 1 →
    (∃ cnt, WRun (d + 9) (fi_law fa c) (testOf (stmtOf lawBody 3)) (bodyOf (stmtOf lawBody 3)) cnt ⟨l3 sv mv w num o t other, H⟩ .next ⟨l3 sv mv w num (splitF k o t).1 (splitF k o t).2 other, H⟩) := by
  have ok := @ok_law fa c
  intro k
  induction k with
  | zero =>
    intro o t h
    rw [splitF] at h ⊢
    apply WRun.stopE
    show TestTo _ _ (Expr.Compare _ [_] [_] _) _ _ _
    ktr_rel
  | succ k ih =>
    intro o t h
    unfold splitF at h ⊢
    by_cases h0 : o % 2 = 0
    · rw [if_pos h0] at h ⊢
      have run := ih _ _ h
      refine WRun.stepN (σ₁ := ⟨l3 sv mv w num o t other, H⟩) ?_ ?_ run
      · show TestTo _ _ (Expr.Compare _ [_] [_] _) _ _ _
        ktr_rel
      · tb_rel
    · rw [if_neg h0] at h ⊢
      apply WRun.stopE
      show TestTo _ _ (Expr.Compare _ [_] [_] _) _ _ _
      ktr_rel

/-- from the splitting on -/
theorem tail3 (hw : 0 < w) (hw8 : w ≤ 8) (hp : p ∈ primesL) {i : Nat} (hi : i < p - 1) {H : List O} (hl : 2 ≤ H.length) (ht : TabIn 1 H) (hc : H[0]? = some (O.cell (.nat p))) :
    ∃ L' H', ExecsTo (d + 9) (fi_law fa c) (lawBody.drop 3) ⟨l3 sv mv w (1 + i) (p - 1) 0 2, H⟩ (.ret (.bool true)) ⟨L', H'⟩ ∧ TabIn 1 H' := by
  have ok := @ok_law fa c
  obtain ⟨q1, q2, q3⟩ := primes_ok p hp
  have hF := lawF_ok hp hi
  unfold lawF at hF
  cases hfind : findF p 100 2 with
  | none => rw [hfind] at hF; cases hF
  | some other =>
    rw [hfind] at hF
    dsimp only at hF
    rw [Bool.and_eq_true, Bool.and_eq_true] at hF
    obtain ⟨f1, f2, f3⟩ := hF
    obtain ⟨f1, f4, f5⟩ := of_decide_eq_true f1
    have f2 := of_decide_eq_true f2
    have run3 := split_loop (d := d) (fa := fa) (c := c) (sv := sv) (mv := mv) (w := w) (num := 1 + i) (other := 2) (H := H) 20 (p - 1) 0 f1
    generalize splitF 20 (p - 1) 0 = S at *
    obtain ⟨odd, twos⟩ := S
    dsimp only at *
    have c1 := law_limbs_spec (d := d + 8) (w := w) (x := p) (H := H) hw hw8 (by omega)
    obtain ⟨H1, e1⟩ : ∃ H1, H1 = H ++ [O.nats (lim w p)] := ⟨_, rfl⟩
    have k1 : Kept [] H H1 := e1 ▸ Kept.app
    have p1 : H1[H.length]? = some (O.nats (lim w p)) := e1 ▸ hp_new
    have l1 : H1.length = H.length + 1 := by rw [e1]; simp
    rw [← e1] at c1
    have c2 := law_limbs_spec (d := d + 8) (w := w) (x := 1 + i) (H := H1) hw hw8 (by omega)
    obtain ⟨H2, e2⟩ : ∃ H2, H2 = H1 ++ [O.nats (lim w (1 + i))] := ⟨_, rfl⟩
    have k2 : Kept [] H1 H2 := e2 ▸ Kept.app
    have p2 : H2[H1.length]? = some (O.nats (lim w (1 + i))) := e2 ▸ hp_new
    rw [← e2] at c2
    have S2 : LS w p (1 + i) H.length H1.length H2 := ⟨(ht.keep k1).keep k2, k2.of (k1.of hc), k2.of p1, p2, by omega, by omega⟩
    obtain ⟨H3, run5, S3⟩ := find_loop (d := d) (fa := fa) (c := c) (sv := sv) (mv := mv) (odd := odd) (twos := twos) hw hw8 hp 100 2 H2 (by decide) S2 hfind
    obtain ⟨L', H', ex, t⟩ := tail6 (d := d) (fa := fa) (c := c) (sv := sv) (mv := mv) hw hw8 hp f2 f4 f5 (by omega) S3 f3
    refine ⟨L', H', ?_, t⟩
    refine ExecsTo.dropAt 3 (by rw [lawLen]; decide) (ExecTo.whileE run3) ?_
    refine ExecsTo.dropAt 4 (by rw [lawLen]; decide) (σ₁ := ⟨l11 sv mv w (1 + i) odd twos 2 H.length H1.length .undef .undef .undef .undef .undef .undef .undef, H2⟩) ?_ ?_
    · apply ExecTo.as
      · apply ExecTo.tup2 ok (i := 7) (j := 8)
        · k_memK
        · k_memK
        · kst_all1 <;> k_ownIn
        · kst_all1 <;> k_ownIn
        · exact fun _ => rfl
        · exact fun _ => rfl
        · exact fun _ => rfl
        · exact fun _ _ => rfl
      · rfl
    exact ExecsTo.dropAt 5 (by rw [lawLen]; decide) (ExecTo.whileE run5) ex
end
end

section
/-! F24 -/
open PySem PySem.W PyProof.Rows PySem.Spec PySem.Calls
set_option maxRecDepth 100000
set_option maxHeartbeats 1000000

noncomputable abbrev l1 (sv mv wv : V) : List V := [sv, mv, wv, .undef, .undef, .undef, .undef, .undef, .undef, .undef, .undef, .undef, .undef, .undef, .undef, .undef]

section
variable {d fa c : Nat} {sv : V}

/-- from the second statement on -/
theorem law_rest {km ks : Nat} {sp : List Nat} {H : List O} (hl : 2 ≤ H.length) (ht : TabIn 1 H) (hc : H[0]? = some (O.cell .undef)) (hm : H[km]? = some (.list [.nat 0, .ref ks])) (hs : H[ks]? = some (O.nats sp)) (hne : ks ≠ km) (hsp : sp.length ≤ 2 ^ 10) :
    ∃ L' H', ExecsTo (d + 9) (fi_law fa c) (lawBody.drop 1) ⟨l1 sv (.ref km) .undef, H⟩ (.ret (.bool true)) ⟨L', H'⟩ ∧ TabIn 1 H' := by
  have ok := @ok_law fa c
  have m0 : km ≠ 0 := by rintro rfl; rw [hm] at hc; cases hc
  have s0 : ks ≠ 0 := by rintro rfl; rw [hs] at hc; cases hc
  have m1 : km ≠ 1 := by
    obtain ⟨t, q1, q2⟩ := ht
    rintro rfl; rw [hm] at q1; cases q1
  have keepTab : ∀ {H : List O} {k : Nat} {o : O}, TabIn 1 H → k ≠ 1 → (∀ kc, H[kc]? = some O.code → kc ≠ k) → TabIn 1 (H.set k o) := by
    rintro H k o ⟨t, q1, q2⟩ hk hcd
    exact ⟨t, hp_off q1 hk, fun kc hkc => ⟨hp_off (q2 kc hkc).1 (hcd kc (q2 kc hkc).1).symm, (q2 kc hkc).2⟩⟩
  have noM : ∀ {H : List O} {x : V}, H[km]? = some (.list [x, .ref ks]) → ∀ kc, H[kc]? = some O.code → kc ≠ km := by
    intro H x hx kc hkc e
    subst e
    rw [hx] at hkc
    cases hkc
  -- w
  obtain ⟨r1, hr1, c1⟩ := law_dug_spec (d := d + 8) (many := 6) hm hs hne hsp (by decide) (by decide)
  have ht1 : TabIn 1 (H.set km (.list [.nat (0 + 1), .ref ks])) := keepTab ht m1 (noM hm)
  have hc1 : (H.set km (.list [.nat (0 + 1), .ref ks]))[0]? = some (O.cell .undef) := hp_off hc m0
  have hm1 : (H.set km (.list [.nat (0 + 1), .ref ks]))[km]? = some (.list [.nat (0 + 1), .ref ks]) := hp_set hm
  have hs1 : (H.set km (.list [.nat (0 + 1), .ref ks]))[ks]? = some (O.nats sp) := hp_off hs hne.symm
  have hl1 : 2 ≤ (H.set km (.list [.nat (0 + 1), .ref ks])).length := by rw [List.length_set]; exact hl
  generalize H.set km (.list [.nat (0 + 1), .ref ks]) = H1 at *
  -- the row of primes
  obtain ⟨H2, e2⟩ : ∃ H2, H2 = H1 ++ [O.nats primesL] := ⟨_, rfl⟩
  have k2 : Kept [] H1 H2 := e2 ▸ Kept.app
  have p2 : H2[H1.length]? = some (O.nats primesL) := e2 ▸ hp_new
  have hl2 : 2 ≤ H2.length := by rw [e2]; simp; omega
  have n2 : H1.length ≠ km := hp_ne hm1
  -- p
  obtain ⟨r2, hr2, c2⟩ := law_dug_spec (d := d + 8) (many := 13) (k2.of hm1) (k2.of hs1) hne hsp (by decide) (by decide)
  have ht3 : TabIn 1 (H2.set km (.list [.nat (0 + 1 + 1), .ref ks])) := keepTab (ht1.keep k2) m1 (noM (k2.of hm1))
  have hc3 : (H2.set km (.list [.nat (0 + 1 + 1), .ref ks]))[0]? = some (O.cell .undef) := hp_off (k2.of hc1) m0
  have hm3 : (H2.set km (.list [.nat (0 + 1 + 1), .ref ks]))[km]? = some (.list [.nat (0 + 1 + 1), .ref ks]) := hp_set (k2.of hm1)
  have hs3 : (H2.set km (.list [.nat (0 + 1 + 1), .ref ks]))[ks]? = some (O.nats sp) := hp_off (k2.of hs1) hne.symm
  have p3 : (H2.set km (.list [.nat (0 + 1 + 1), .ref ks]))[H1.length]? = some (O.nats primesL) := hp_off p2 n2.symm
  have hl3 : 2 ≤ (H2.set km (.list [.nat (0 + 1 + 1), .ref ks])).length := by rw [List.length_set]; exact hl2
  generalize H2.set km (.list [.nat (0 + 1 + 1), .ref ks]) = H3 at *
  have hpm : primesL.getD r2 0 ∈ primesL := by
    have : r2 < primesL.length := hr2
    rw [List.getD_eq_getElem?_getD, List.getElem?_eq_getElem this]
    exact List.getElem_mem this
  have hw : 0 < 3 + r1 := by omega
  have hw8 : 3 + r1 ≤ 8 := by omega
  obtain ⟨q1, q2, q3⟩ := primes_ok _ hpm
  have hplen : r2 < primesL.length := hr2
  generalize hpe : primesL.getD r2 0 = p at *
  generalize hwe : 3 + r1 = w at *
  -- the pair, and its stores
  obtain ⟨H4, e4⟩ : ∃ H4, H4 = H3 ++ [.tup [.nat w, .nat p]] := ⟨_, rfl⟩
  have k4 : Kept [] H3 H4 := e4 ▸ Kept.app
  have p4 : H4[H3.length]? = some (.tup [.nat w, .nat p]) := e4 ▸ hp_new
  have hl4 : 2 ≤ H4.length := by rw [e4]; simp; omega
  have no0 : ∀ kc, H4[kc]? = some O.code → kc ≠ 0 := by
    intro kc hkc e
    subst e
    rw [k4.of hc3] at hkc
    injection hkc with h
    injection h with hP
    have h2 : cellP V.undef [] 0 ({ cls := Value.none, data := Data.cell Option.none } : Obj) := rfl
    rw [hP] at h2
    obtain ⟨vs, t, h3, _⟩ := h2
    cases h3
  have ht5 : TabIn 1 (H4.set 0 (O.cell (.nat p))) := keepTab (ht3.keep k4) (by decide) no0
  have hc5 : (H4.set 0 (O.cell (.nat p)))[0]? = some (O.cell (.nat p)) := hp_set (k4.of hc3)
  have hm5 : (H4.set 0 (O.cell (.nat p)))[km]? = some (.list [.nat (0 + 1 + 1), .ref ks]) := hp_off (k4.of hm3) m0.symm
  have hs5 : (H4.set 0 (O.cell (.nat p)))[ks]? = some (O.nats sp) := hp_off (k4.of hs3) s0.symm
  have hl5 : 2 ≤ (H4.set 0 (O.cell (.nat p))).length := by rw [List.length_set]; exact hl4
  have st1 : ExecTo (d + 9) (fi_law fa c) (stmtOf lawBody 1) ⟨l1 sv (.ref km) .undef, H⟩ .next ⟨l1 sv (.ref km) (.nat w), H4.set 0 (O.cell (.nat p))⟩ := by
    refine ExecTo.as (ExecTo.tupCell2 ok (i := 2) (j := 0) (kc := 0) (n := H3.length) (v₁ := .nat w) (v₂ := .nat p) (v₀ := .undef) (σ₁ := ⟨l1 sv (.ref km) .undef, H4⟩) ?_ ?_ (lawCel _ (List.mem_singleton.mpr rfl)).1 ?_ p4 (k4.of hc3) (fun _ => rfl) (fun _ _ => rfl)) rfl
    · k_memK
    · k_memK
    · refine EvalTo.as (EvalTo.tuple (σ₁ := ⟨l1 sv (.ref km) .undef, H3⟩) (vs := [.nat w, .nat p]) (EvalsTo.cons (v := .nat w) (σ₁ := ⟨l1 sv (.ref km) .undef, H1⟩) ?_ (EvalsTo.cons (v := .nat p) (σ₁ := ⟨l1 sv (.ref km) .undef, H3⟩) ?_ .nil (fun _ => rfl)) (fun _ => rfl)) (by simp)) (by rw [e4]) rfl
      · rw [← hwe]
        ktr_rel
      · rw [← hpe]
        refine EvalTo.itemN (σ₁ := ⟨l1 sv (.ref km) .undef, H2⟩) (k := H1.length) (i := r2) (xs := primesL) ?_ ?_ p3 hplen (by decide)
        · refine EvalTo.as (EvalTo.list (σ₁ := ⟨l1 sv (.ref km) .undef, H1⟩) (vs := primesL.map V.nat) ?_ (by decide)) (by rw [e2]) rfl
          show EvalsTo _ _ _ _ [V.int ((3 : Nat) : Int), V.int ((5 : Nat) : Int), V.int ((7 : Nat) : Int), V.int ((11 : Nat) : Int), V.int ((13 : Nat) : Int), V.int ((17 : Nat) : Int), V.int ((29 : Nat) : Int), V.int ((37 : Nat) : Int), V.int ((41 : Nat) : Int), V.int ((61 : Nat) : Int), V.int ((73 : Nat) : Int), V.int ((89 : Nat) : Int), V.int ((97 : Nat) : Int)] _
          kst_all1
        · ktr_rel
  generalize H4.set 0 (O.cell (.nat p)) = H5 at *
  -- the number
  obtain ⟨r3, hr3, c3⟩ := law_dug_spec (d := d + 8) (many := p - 1) hm5 hs5 hne hsp (by decide) (by omega)
  have ht6 : TabIn 1 (H5.set km (.list [.nat (0 + 1 + 1 + 1), .ref ks])) := keepTab ht5 m1 (noM hm5)
  have hc6 : (H5.set km (.list [.nat (0 + 1 + 1 + 1), .ref ks]))[0]? = some (O.cell (.nat p)) := hp_off hc5 m0
  have hl6 : 2 ≤ (H5.set km (.list [.nat (0 + 1 + 1 + 1), .ref ks])).length := by rw [List.length_set]; exact hl5
  generalize H5.set km (.list [.nat (0 + 1 + 1 + 1), .ref ks]) = H6 at *
  obtain ⟨H7, e7⟩ : ∃ H7, H7 = H6 ++ [.tup [.nat (1 + r3), .nat (p - 1), .nat 0, .nat 2]] := ⟨_, rfl⟩
  have k7 : Kept [] H6 H7 := e7 ▸ Kept.app
  have p7 : H7[H6.length]? = some (.tup [.nat (1 + r3), .nat (p - 1), .nat 0, .nat 2]) := e7 ▸ hp_new
  have hl7 : 2 ≤ H7.length := by rw [e7]; simp; omega
  have st2 : ExecTo (d + 9) (fi_law fa c) (stmtOf lawBody 2) ⟨l1 sv (.ref km) (.nat w), H5⟩ .next ⟨l3 sv (.ref km) w (1 + r3) (p - 1) 0 2, H7⟩ := by
    refine ExecTo.as (ExecTo.tupCall4 ok (i := 3) (j := 4) (i' := 5) (j' := 6) (n := H6.length) (v₁ := .nat (1 + r3)) (v₂ := .nat (p - 1)) (v₃ := .nat 0) (v₄ := .nat 2) (σ₁ := ⟨l1 sv (.ref km) (.nat w), H7⟩) ?_ ?_ ?_ ?_ ?_ p7 (fun _ => rfl) (fun _ => rfl)) rfl
    · k_memK
    · k_memK
    · k_memK
    · k_memK
    · refine EvalTo.as (EvalTo.tuple (σ₁ := ⟨l1 sv (.ref km) (.nat w), H6⟩) (vs := [.nat (1 + r3), .nat (p - 1), .nat 0, .nat 2]) (EvalsTo.cons (v := .nat (1 + r3)) (σ₁ := ⟨l1 sv (.ref km) (.nat w), H6⟩) ?_ (EvalsTo.cons (v := .nat (p - 1)) (σ₁ := ⟨l1 sv (.ref km) (.nat w), H6⟩) ?_ (EvalsTo.cons (v := .nat 0) (σ₁ := ⟨l1 sv (.ref km) (.nat w), H6⟩) EvalTo.kLit (EvalsTo.cons (v := .nat 2) (σ₁ := ⟨l1 sv (.ref km) (.nat w), H6⟩) EvalTo.kLit .nil (fun _ => rfl)) (fun _ => rfl)) (fun _ => rfl)) (fun _ => rfl)) (by simp)) (by rw [e7]) rfl
      · ktr_rel
      · ktr_rel
  obtain ⟨L', H', ex, t⟩ := tail3 (d := d) (fa := fa) (c := c) (sv := sv) (mv := .ref km) hw hw8 hpm hr3 hl7 (ht6.keep k7) (k7.of hc6)
  refine ⟨L', H', ?_, t⟩
  refine ExecsTo.dropAt 1 (by rw [lawLen]; decide) st1 ?_
  exact ExecsTo.dropAt 2 (by rw [lawLen]; decide) st2 ex
end
end

section
/-! F25 -/
open PySem PySem.W PyProof.Rows PySem.Spec PySem.Calls
set_option maxRecDepth 100000
set_option maxHeartbeats 1000000

theorem ints_get : ∀ {vs : List Value} {ns : List Int}, IntsAre vs ns → ∀ {i : Nat} {v : Value}, vs[i]? = some v → ∃ t, v = .int (ns.getD i 0) t
  | _, _, .nil, i, v, h => by simp at h
  | _, _, .cons n u h, i, v, e => by
    cases i with
    | zero => simp at e; exact ⟨u, by simp [e]⟩
    | succ i =>
      obtain ⟨t, e2⟩ := ints_get h (i := i) (v := v) (by simpa using e)
      exact ⟨t, by simpa using e2⟩
theorem ints_take : ∀ {vs : List Value} {ns : List Int}, IntsAre vs ns → ∀ n, IntsAre (vs.take n) (ns.take n)
  | _, _, .nil, n => by simp; exact .nil
  | _, _, .cons k u h, 0 => .nil
  | _, _, .cons k u h, n + 1 => .cons k u (ints_take h n)
theorem ints_len : ∀ {vs : List Value} {ns : List Int}, IntsAre vs ns → vs.length = ns.length
  | _, _, .nil => rfl
  | _, _, .cons k u h => by simp [ints_len h]

noncomputable def lawLc : Expr := match stmtOf lawBody 0 with
  | .Assign _ (.List [_, e] _) _ => e
  | _ => .Constant .none 0 ⟨0, 0, 0, 0⟩

section
variable {d fa c : Nat}

theorem law_elt {scope : Scope} {x : Str} {pos p1 p2 p3 p4 : Pos} {cf : List (Str × Addr) → List (Str × Addr)} {σ : St} {i : Int} (hx : scope.names.lookup x = some .local) (hk : scope.kind = .function) (hd : (x == ("__debug__" : Str)) = false)
    (ha : ∀ env : Env, env.scope = fdScope (stAt 39) → (relabel scope env).names.lookup ("abs" : Str) = some .globalImplicit) (hi : ∀ env : Env, env.scope = fdScope (stAt 39) → (relabel scope env).names.lookup ("int" : Str) = some .globalImplicit) :
    EltTo d (fi_law fa c) cf scope x (.Call (.Name "abs" p1) [.Call (.Name "int" p2) [.Name x p3] [] p4] [] pos) (.int i) σ (.nat i.natAbs) := by
  refine EltTo.built1 (id := .builtin "abs") (v := .int i) (j := 6) ?_ hk ha (by decide +kernel) (fun M A s Q env pos h => PyProof.Rows.callWith_builtin1 h) (EltTo.built1 (id := .type "int") (v := .int i) (j := 7) ?_ hk hi (by decide +kernel) (fun M A s Q env pos h => PyProof.Rows.callWith_type1 h) (EltTo.var hx hk hd) (fun _ => rfl) ?_) (fun _ => rfl) ?_
  · k_memK
  · k_memK
  · rintro C ρ s u Q ⟨t, rfl⟩ hQ
    exact call_int_int (hQ _ s.toks ⟨t, rfl⟩)
  · rintro C ρ s u Q ⟨t, rfl⟩ hQ
    refine call_abs_int fun u tk => hQ _ tk ⟨u, ?_⟩
    congr 1
    split <;> omega

theorem sliceH {fi : FI} {C : RC d fi} {σ : St} {ρ : List Addr} {s : Shared} {vE sE : Expr} {a : Addr} {its : Array Value} {vl vu : Value} {lo hi : Option Int} {Q : Value → Shared → Prop} (S : C.SR σ ρ s.heap) (hl : s.heap.IsList a its) (h1 : IsPart vl lo) (h2 : IsPart vu hi) (hlen : its.size ≤ 2 ^ 20)
    (hQ : ∀ D h' n, (C.wth ([(D, listOf (slicePick its lo hi Option.none) n)] ++ C.extra)).SR σ ρ h' → Q (.ref D) { s with heap := h' }) :
    wpAny C.M C.A (subscriptTail vE sE (.ref a) (.ref s.heap.objs.size)) Q NoE { s with heap := s.heap.push { cls := .type "slice", data := .fields #[vl, vu, .none] } } := by
  obtain ⟨m, news, F, N, R, nd, l⟩ := S.ex
  obtain ⟨ops, hops⟩ := subscripted_ops sE (.ref a) (.ref s.heap.objs.size)
  have F1 := F.push { cls := .type "slice", data := .fields #[vl, vu, .none] }
  have N1 := News.grown N (Heap_keep_push (o := { cls := .type "slice", data := .fields #[vl, vu, .none] }))
  have hl1 : (s.heap.push { cls := .type "slice", data := .fields #[vl, vu, .none] }).IsList a its := hl.push _
  have hT : Shared.TypeIs { s with heap := s.heap.push { cls := .type "slice", data := .fields #[vl, vu, .none] } } (.ref a) "list" := hl1.typeIs
  with_reducible refine tail_any hT slot_list_getitem.lookup ?_ hops
  refine wpAny_getItem_list_slice (lo := lo) (hi := hi) (st := Option.none) hl1 ⟨_, Heap.get?_push_size _ rfl, rfl, rfl⟩ h1 h2 .none (by simp) ?_ (by rw [sizeLine_eq]; omega)
  exact hQ _ _ _ (SR_wth (F1.push _) (News.push F1 N1 _) N1 R nd l)

theorem law_lc {C : RC d (fi_law fa c)} {σ : St} {ρ : List Addr} {s : Shared} {Q : Value → Shared → Prop} {a : Addr} {vs : List Value} {ns : List Int} (S : C.SR σ ρ s.heap) (hsv : σ.loc[0]? = some (.val (.ref a))) (hL : C.h₀.IsList a vs.toArray) (hI : IntsAre vs ns) (hn : ns.length ≤ 63)
    (hQ : ∀ τ u s' sp, Same s s' → sp.length ≤ 3 → C.SR ⟨σ.loc, σ.heap ++ [O.nats sp]⟩ (ρ ++ τ) s'.heap → VR (ρ ++ τ) (.ref σ.heap.length) u → Q u s') : wpAny C.M C.A (eval lawLc C.env) Q NoE s := by
  have ok := @ok_law fa c
  have hlen := ints_len hI
  show wpAny C.M C.A (eval (.ListComp _ [⟨.Name _ _, _, [], 0⟩] _ _) C.env) Q NoE s
  rw [eval_ListComp]
  refine wpAny_comprehension_free (use := Option.none) (cl := []) rfl (fun _ => rfl) rfl rfl (by decide +kernel) ?_
  show wpAny C.M C.A (eval (.Subscript (.Name _ _) (.Slice Option.none (some _) Option.none _) _) C.env) _ NoE s
  with_reducible refine Subscript_ ?_
  refine (EvalTo.loc (i := 0) ok .here hsv V.ne_val).run C ρ s _ S fun τ u s₁ m₁ S₁ hu => ?_
  have hu' : u = .ref a := hu
  subst hu'
  with_reducible refine wpAny_Slice ?_
  with_reducible refine evalPart_none_step ?_
  with_reducible refine evalPart_some_step ?_
  refine EvalTo.run EvalTo.kLit C _ s₁ _ S₁ fun τ₂ v s₂ m₂ S₂ hv => ?_
  with_reducible refine evalPart_none_step ?_
  obtain ⟨t, rfl⟩ := hv
  -- the slice
  have hl : s₂.heap.IsList a vs.toArray := by
    obtain ⟨m, news, F, N, R, nd, l⟩ := S₂.ex
    obtain ⟨ob, hob, hcls, nn, hdat⟩ := hL
    exact ⟨ob, F.keep _ _ hob, hcls, nn, hdat⟩
  refine sliceH S₂ hl .none (.int (3 : Int) t) (by simp; omega) fun D h' n S₃ => ?_
  have hpick : (slicePick vs.toArray Option.none (some (3 : Int)) Option.none).toList = vs.take 3 := by
    rw [show (3 : Int) = ((3 : Nat) : Int) from rfl, slicePick_upto']
  generalize slicePick vs.toArray Option.none (some (3 : Int)) Option.none = its at *
  have hI' : IntsAre its.toList (ns.take 3) := by rw [hpick]; exact ints_take hI 3
  have hsz : its.size = (ns.take 3).length := by rw [← Array.length_toList]; exact ints_len hI'
  have hm3 : (ns.take 3).length ≤ 3 := by rw [List.length_take]; omega
  -- the iteration
  have hgD : h'.get? D = some (listOf its n) := SR_mem S₃ (p := (D, listOf its n)) (List.mem_append_left _ (.head _))
  have hlD : h'.IsList D its := ⟨_, hgD, rfl, n, rfl⟩
  refine wpAny_pyIter_list (s := { s₂ with heap := h' }) hlD ?_
  have hlt : D < h'.objs.size := Heap.lt_size hgD
  obtain ⟨m, news, F, N, R, nd, l⟩ := S₃.ex
  have up : ∀ b o, h'.get? b = some o → (h'.push { cls := .type "list_iterator", data := .fields #[.ref D, .int 0 0] }).get? b = some o := fun b o e => Heap.get?_push_of_some _ e
  have hh : C.A.handled = Option.none := rfl
  let C2 : RC d (fi_law fa c) := C.wth ([(D, listOf its n)] ++ C.extra)
  refine LCg.block_U (Fin := LCg.FinE C.h₀ C.L m { s₂ with heap := h'.push { cls := .type "list_iterator", data := .fields #[.ref D, .int 0 0] } } Q) (Walks.list hh h'.objs.size D (Nat.ne_of_lt hlt) its) (by rw [sizeLine_eq]; omega) (fun i h st => by obtain ⟨o, e, _⟩ := st.1; exact ⟨o, e⟩) LCg.list_st (by decide +kernel) rfl (by decide +kernel) ⟨⟨_, Heap.get?_push_size _ rfl, rfl, rfl⟩, hlD.push _⟩ (fun b hb => ?_)
    (F.keeps up) (N.grown up) (Nat.ne_of_lt F.ns.lt) (next_is_new F) (fun p hp => Nat.ne_of_lt (Heap.lt_size (N p hp).1)) (.inr ⟨_, List.mem_append_right _ (.head _), rfl, n, rfl⟩)
    (compRest (C := C2) (cf := fun _ => []) (s₀ := s) (ρ := ρ) (g := fun i => .int ((ns.take 3).getD i 0)) (f := fun i => .nat ((ns.take 3).getD i 0).natAbs) (n := its.size) (σ := σ) rfl ?_ ?_ ?_ (fun news ρ _ _ => .inr ⟨_, List.mem_append_right _ (.head _), rfl, n, rfl⟩) (by omega) ?_ its.size 0 (by omega) news (τ ++ τ₂) [] ?_ nd ?_ trivial) ?_
  · show b < (h'.push _).objs.size
    rw [Heap.size_push]
    rcases List.mem_cons.mp hb with rfl | hb
    · exact Nat.lt_succ_self _
    · rw [List.mem_singleton.mp hb]; exact Nat.lt_succ_of_lt hlt
  · intro i v hv ρ'
    exact ints_get hI' (by rw [Array.getElem?_toList]; exact hv)
  · intro i hi
    refine law_elt (by decide +kernel) rfl (by decide +kernel) ?_ ?_
    · intro env he
      unfold relabel Env.kindOf
      rw [he]
      decide +kernel
    · intro env he
      unfold relabel Env.kindOf
      rw [he]
      decide +kernel
  · exact m₁.trans (m₂.trans ⟨_, s₂.toks, rfl⟩)
  · intro τ' u s' hs' S' hu'
    rw [UpTo_nats] at S'
    refine hQ τ' u s' _ hs' ?_ (SR_unwth S') hu'
    rw [List.length_map, List.length_range]; omega
  · rw [← List.append_assoc]; exact R
  · rw [← List.append_assoc]; exact l
  · intro D' Cc h tk m' ys news' F' N' o1 hn' hC₀ hD₀ hCL hDL hCD offC fin
    refine ⟨m', hn', fun h'' hs'' => fin D' h'' tk (F'.change hs'' hCL hC₀) (fun p hp => ?_) o1⟩
    refine ⟨hs''.extBut _ _ ?_ (N' p hp).1, (N' p hp).2⟩
    rcases List.mem_cons.mp hp with rfl | hp
    · exact Ne.symm hCD
    · exact offC p hp
end
end

section
/-! F26 -/
open PySem PySem.W PyProof.Rows PySem.Spec PySem.Calls
set_option maxRecDepth 100000
set_option maxHeartbeats 1000000

section
variable {d fa c : Nat}
noncomputable abbrev lawHeap : List O := [O.cell .undef, O.tab Option.none]

/-- the whole body of the law -/
theorem law_all {C : RC (d + 9) (fi_law fa c)} {ρ : List Addr} {s : Shared} {Q : Flow → Shared → Prop} {a : Addr} {vs : List Value} {ns : List Int} (S : C.SR ⟨l1 (.val (.ref a)) .undef .undef, lawHeap⟩ ρ s.heap) (hL : C.h₀.IsList a vs.toArray) (hI : IntsAre vs ns) (hn : ns.length ≤ 63)
    (hQ : ∀ τ s' L' H', Same s s' → C.SR ⟨L', H'⟩ (ρ ++ τ) s'.heap → TabIn 1 H' → Q (.ret (.bool true)) s') : wpAny C.M C.A (execs lawBody C.env) Q NoE s := by
  have ok := @ok_law fa c
  show wpAny C.M C.A (execs (.Assign [.Name _ _] (.List [.Constant _ _ _, lawLc] _) _ :: lawBody.drop 1) C.env) Q NoE s
  with_reducible refine wpAny_execs_cons ?_
  with_reducible refine wpAny_Assign_Name ?_ rfl
  with_reducible refine List_ ?_
  with_reducible refine spliced_more ?_ rfl
  refine EvalTo.run EvalTo.kLit C ρ s _ S fun τ u s₁ m₁ S₁ hu => ?_
  with_reducible refine spliced_more ?_ rfl
  refine law_lc S₁ rfl hL hI hn fun τ₂ v s₂ sp m₂ hsp S₂ hv => ?_
  refine spliced_none ?_
  refine newListTo (xs := [.nat 0, .ref 2]) S₂ (show VRs _ [V.nat 0, V.ref 2] [u, v] from ⟨hu.mono, hv, trivial⟩) (by decide) fun τ₃ x s₃ m₃ S₃ hx => ?_
  refine storeLocal ok (i := 1) (x := "mine") S₃ (.there .here) hx fun s₄ m₄ S₄ => ?_
  obtain ⟨L', H', ex, t⟩ := law_rest (d := d) (fa := fa) (c := c) (sv := .val (.ref a)) (km := 3) (ks := 2) (sp := sp) (H := lawHeap ++ [O.nats sp] ++ [.list [.nat 0, .ref 2]]) (by simp) ⟨Option.none, rfl, fun _ h => nomatch h⟩ rfl rfl rfl (by decide) (by omega)
  refine ex.run C _ s₄ _ S₄ fun τ₄ g s₅ m₅ S₅ hg => ?_
  obtain ⟨b, rfl, hb⟩ := hg
  have hb' : b = .bool true := hb
  subst hb'
  exact hQ (τ ++ (τ₂ ++ (τ₃ ++ τ₄))) s₅ L' H' (m₁.trans (m₂.trans (m₃.trans (m₄.trans m₅)))) (by simpa only [List.append_assoc] using S₅) t
end
end

section
/-! F27 -/
open PySem PySem.W PyProof.Rows PySem.Spec PySem.Calls
set_option maxRecDepth 100000
set_option maxHeartbeats 1000000

/-- the law's frame, as the head leaves it -/
theorem law_end {w : World} {p : Program} {loose : List Str} {mean : ExcName → Option Value} {mg mb : Str → Option Value} {h₀ : Heap} {L fa : Addr} {cd : Value} {a : Addr} {vs : List Value} {ns : List Int} {oc : Obj} {s : Shared} {m : Str → Option Value} {Q : Flow → Shared → Prop} {E : Value → Shared → Prop}
    (hcd : ∃ c, cd = .ref c) (X : (KK w).In h₀) (T : Top p loose mean mg mb h₀) (B : Below callerA h₀ [] h₀) (F : Fr h₀ L s.heap m) (hm : m "script" = some (.ref a)) (N : News h₀ L s.heap [(L + 1, oc), (151, tabObj #[])]) (ho : oc.data = .cell Option.none) (l0 : 151 < L)
    (hL : h₀.IsList a vs.toArray) (hI : IntsAre vs ns) (hn : ns.length ≤ 63)
    (hQ : ∀ (s' : Shared) (m' : Str → Option Value), s'.gens = s.gens → s'.os = s.os → Fr h₀ L s'.heap m' → GrownAll [(155, 151)] s'.heap → Q (.ret (.bool true)) s') :
    wpAny (model PySem.Challenge.rw_xm0387_01.row.prog w) (callerA.deeper (envOfC "law" (fdScope (stAt 39)) L fa cd)) (execs (fdBody (stAt 39)) (envOfC "law" (fdScope (stAt 39)) L fa cd)) Q E s := by
  obtain ⟨c, rfl⟩ := hcd
  let C : RC (0 + 9) (fi_law fa c) := ⟨w, p, loose, mean, mg, mb, callerA, h₀, [], 2 + claimMargin, 7, some [], L, h₀, [], [("p", L + 1)], B, X, T, by decide, by rw [cLine_is]; decide⟩
  have S : C.SR ⟨l1 (.val (.ref a)) .undef .undef, lawHeap⟩ [L + 1, 151] s.heap := by
    refine ⟨m, [(L + 1, oc), (151, tabObj #[])], F, N, ⟨rfl, rfl, fun {k x q} hx hq => ?_⟩, ?_, ⟨⟨rfl, rfl, trivial⟩, rfl, fun {i x v} hi hv => ?_⟩⟩
    · match k with
      | 0 => cases hx; cases hq; exact ho
      | 1 => cases hx; cases hq; exact ⟨rfl, rfl⟩
      | n + 2 => cases hx
    · have key : ∀ n : Nat, 151 < n → ([n + 1, 151] : List Nat).Nodup := fun n h => by
        rw [List.nodup_cons]
        refine ⟨fun hm => ?_, by simp⟩
        have := List.mem_singleton.mp hm
        omega
      exact key L l0
    · match i with
      | 0 => cases hi; cases hv; exact ⟨_, hm, rfl⟩
      | 1 | 2 | 3 | 4 | 5 | 6 | 7 | 8 | 9 | 10 | 11 | 12 | 13 | 14 | 15 => cases hv; trivial
      | n + 16 => cases hv
  refine wpAny_mono (law_all (d := 0) (C := C) S hL hI hn (Q := Q) fun τ s' L' H' hs S' t => ?_) (fun _ _ x => x) fun _ _ x => x.elim
  obtain ⟨m', news, F', N', R, nd, l⟩ := S'.ex
  obtain ⟨tt, h1, h2⟩ := t
  obtain ⟨a', o', g1, g2, g3, g4, g5⟩ := R.get h1
  subst g4
  obtain ⟨h, tk, rfl⟩ := hs
  refine hQ _ m' rfl rfl F' ⟨?_, trivial⟩
  cases tt with
  | none => subst g5; exact GrownAt.of N' (List.mem_append_left _ g2)
  | some kc =>
    obtain ⟨c', _, rfl⟩ := g5
    exact GrownAt.of N' (List.mem_append_left _ g2)
end

end Mine

open PySem PySem.W PyProof.Rows PySem.Spec PySem.Calls
set_option maxRecDepth 100000 in
set_option maxHeartbeats 8000000 in
theorem PySem.Challenge.cw_xm0387_01_holds : PySem.Challenge.rw_xm0387_01.Holds := by
  refine Mine.hd ?_
  k_go0
  refine Mine.law_end (by obtain ⟨c, _, _, _, e, _⟩ := (by assumption : Heap.CodeRec _ _ _); exact ⟨c, e⟩) (by assumption) (by assumption) (by assumption) (by assumption) ?_ (by assumption) ?_ (by assumption) (by assumption) (by assumption) (by omega) ?_
  · rfl
  · refine Eq.trans (by assumption) ?_
    rfl
  · intro s' m' hg hos F G
    refine ⟨goodW_bool F (hg.trans (by assumption)) (raisesW_false ?_) ?_ hos, G⟩
    · wrow_none_raised
    · wrow_post
